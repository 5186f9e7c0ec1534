import PyProof.Rows.All
import Wide.All
import OpenK.AllK
import Wide.FinOn
import HandS.ForMost
import HandS.Flow
import HandS.IsInst
import HandS.Style
import HandS.Wide
import HandS.Zip
import HandS.Deep
import HandS.Conv
import HandS.Rev
import HandS.TupAny
import KE.GoesEnumKw
import HandS.RaiseMore
import HandS.SortKw
import HandS.ExcInit
import HandS.ClsMeth
import HandS.Defaults
import HandS.ExcField
import HandS.WordsExc
import HandS.TryOnly
import HandS.Lambda
import HandS.CallSlots
import HandS.TupMul
import HandS.TupSets
import HandS.SortRule
import KE.KDictWalk
import KE.KEqNest
import PyProof.ReprRoads
import HandS.ExcIs
import PyProof.InstNe
import HandS.More
import HandS.Codes
import KE.DataFind
import PyProof.EqKinds
import PyProof.NeKinds
import HandS.DictComp
import PyProof.Rows.TupDisplay
import HandS.List
import PyProof.ZipIter
import HandS.HotCalls
import KE.KSmall
import HandS.EndTab
import KE.KNestM
import PySem.Challenge.RW_jointoll_k40_firm_modulo
set_option Elab.async false
set_option maxRecDepth 100000
set_option maxHeartbeats 4000000
set_option linter.all false
/-! Heaps with a written part M (addresses that may change), data judged outside of M. -/
namespace J
open PySem L2 PySem.Spec PyProof.Rows
/-- the heap without the addresses in M -/
def hid (M : List Addr) (H : Hp) : Hp := fun b => if b ∈ M then none else H b
/-- all of M is there -/
def Al (M : List Addr) (H : Hp) : Prop := ∀ m ∈ M, H m ≠ none
/-- all but s is kept -/
def But (s : Addr) (H H' : Hp) : Prop := ∀ b o, b ≠ s → H b = some o → H' b = some o
section
variable {M : List Addr} {H H' H2 : Hp} {a b p s D : Addr} {o : HO} {K : PySem.W.Frag}
theorem hid_in (h : b ∈ M) : hid M H b = none := by unfold hid; rw [if_pos h]
theorem hid_out (h : b ∉ M) : hid M H b = H b := by unfold hid; rw [if_neg h]
theorem hid_some (h : hid M H b = some o) : H b = some o ∧ b ∉ M := by
  by_cases e : b ∈ M
  · rw [hid_in e] at h; cases h
  · rw [hid_out e] at h; exact ⟨h, e⟩
theorem _root_.L2.Same.hid (x : Same H H') : Same (hid M H) (hid M H') := fun b o h => by
  obtain ⟨h1, h2⟩ := hid_some h
  rw [hid_out h2]; exact x b o h1
theorem But.hid (x : But s H H') (hs : s ∈ M) : Same (hid M H) (hid M H') := fun b o h => by
  obtain ⟨h1, h2⟩ := hid_some h
  rw [hid_out h2]; exact x b o (fun z => h2 (by rw [z]; exact hs)) h1
theorem But.refl : But s H H := fun _ _ _ h => h
theorem But.trans (x : But s H H') (y : But s H' H2) : But s H H2 := fun b o n h => y b o n (x b o n h)
theorem But.same (x : Same H H') : But s H H' := fun b o _ h => x b o h
theorem But.upd : But s H (upd H s o) := fun b o' n h => by rw [upd_ne n]; exact h
theorem new_same (h : H p = none) : Same H (upd H p o) := fun b o' e => by rw [upd_ne (ne_of_none e h)]; exact e
theorem Al.cons (x : Al M H) (h : H D = some o) : Al (D :: M) H := fun m hm => by
  rcases List.mem_cons.mp hm with e | e
  · rw [e, h]; exact fun z => nomatch z
  · exact x m e
theorem Al.mono (x : Al M H) (y : Same H H') : Al M H' := fun m hm z => by
  cases e : H m with
  | none => exact x m hm e
  | some o => rw [y m o e] at z; cases z
theorem Al.new (x : Al M H) (h : H p = none) : p ∉ M := fun z => x p z h
theorem Al.upd (x : Al M H) : Al M (upd H D o) := fun m hm z => by
  by_cases e : m = D
  · rw [e, upd_same] at z; cases z
  · rw [upd_ne e] at z; exact x m hm z
theorem _root_.L2.SqT.mono {xs : List V} (e : Same H H') (h : SqT K H a xs) : SqT K H' a xs := by
  rcases h with (h | ⟨o, h⟩) | h
  · exact .inl (.inl (e _ _ h))
  · exact .inl (.inr ⟨o, e _ _ h⟩)
  · exact .inr h
theorem _root_.L2.SqL.mono {xs : List V} (e : Same H H') (h : SqL K H a xs) : SqL K H' a xs := e.seq h
mutual
theorem dp_mono (s : Same H H') : ∀ {v : V} {d : PyData}, Dp K H v d → Dp K H' v d
  | _, _, .non => .non
  | _, _, .bl b => .bl b
  | _, _, .int i => .int i
  | _, _, .str x => .str x
  | _, _, .lst h a => .lst (SqL.mono s h) (dpAll_mono s a)
  | _, _, .tup h a => .tup (SqT.mono s h) (dpAll_mono s a)
theorem dpAll_mono (s : Same H H') : ∀ {vs : List V} {ds : List PyData}, DpAll K H vs ds → DpAll K H' vs ds
  | _, _, .nil => .nil
  | _, _, .cons h t => .cons (dp_mono s h) (dpAll_mono s t)
end
theorem _root_.L2.Dp.mono {v : V} {d : PyData} (x : Dp K H v d) (s : Same H H') : Dp K H' v d := dp_mono s x
theorem _root_.L2.DpAll.mono {v : List V} {d : List PyData} (x : DpAll K H v d) (s : Same H H') : DpAll K H' v d := dpAll_mono s x
theorem ints_dpAll : ∀ (ns : List Int), DpAll K H (ns.map V.int) (ns.map PyData.int)
  | [] => .nil
  | _ :: t => .cons (.int _) (ints_dpAll t)
end
end J
/-! List comprehensions with several for clauses, clause by clause: Runs says what one clause's whole loop does within the block; pe_lc3 is the rule for three clauses. -/
namespace J
open PySem L2 PySem.Spec PyProof.Rows
abbrev Evs := List Expr
abbrev St := L2.St
/-- the tests of a clause, one behind another -/
abbrev testsOf (fs : Evs) (v : Env) : Sem Bool := forIn fs true fun c r => if r = true then do let ok ← isTrue c v (eval c v); pure (ForInStep.yield ok) else pure (ForInStep.yield r)
/-- what stands behind a kept item, ahead of the next turn k: the next clause's start, or the append -/
abbrev Bk := Value → Env → Sem Fin → Sem Fin
/-- the shape of a turn of the clause d -/
def Shape (e : Expr) (d : Nat) (tg src : Expr) (fs : Evs) (bk : Bk) : Prop := ∀ (it acc : Value) (v : Env),
  compTurn e d it acc v = (standAt src.pos >>= fun _ => pyNext it >>= fun r => match r with
    | none => pure (.done .next)
    | some u => letOwnedTupleGo tg it u >>= fun _ => assign tg v u >>= fun _ => testsOf fs v >>= fun k =>
        if k = true then bk acc v (again (.compLoop e d it acc v)) else again (.compLoop e d it acc v))
abbrev bkApp (elt : Expr) : Bk := fun acc v k => (eval elt v >>= fun x => call (.builtin "list.append") [acc, x] >>= fun _ => pure ()) >>= fun _ => k
abbrev bkNext (e : Expr) (d : Nat) (src : Expr) : Bk := fun acc v k => eval src v >>= fun x => standAt src.pos >>= fun _ => foldedSetIterable src v x >>= fun x =>
  holding [x] (pyIter x) >>= fun i => runOwn (.compStart e (d + 1) i acc v) v >>= fun _ => k
/-- the loop of a clause by an invariant; the kept item's part hands on to any next turn k -/
theorem loop_by {prog : Program} {w : World} {A : Around} {R : Result → Shared → Prop} {s : Shared} {elt : Expr} {gs : List Comprehension} {sc : Scope} {ps : Pos} {d : Nat} {tg src : Expr} {fs : Evs} {bk : Bk} {it acc : Value} {v : Env} (S : Shape (.ListComp elt gs sc ps) d tg src fs bk) (W : Nat → Shared → Prop)
    (turn : ∀ n s, W n s → wpAny (model prog w) A (pyNext it) (fun r s1 => match r with
      | none => R (.ok .next) s1
      | some u => wpAny (model prog w) A (letOwnedTupleGo tg it u) (fun _ s2 => wpAny (model prog w) A (assign tg v u) (fun _ s3 => wpAny (model prog w) A (testsOf fs v)
          (fun b s4 => if b = true then ∀ (k : Sem Fin) (Q : Fin → Shared → Prop) (E : Value → Shared → Prop), (∀ s5, (∃ m, m < n ∧ W m s5) → wpAny (model prog w) A k Q E s5) → wpAny (model prog w) A (bk acc v k) Q E s4 else ∃ m, m < n ∧ W m s4) (fun _ _ => False) s3) (fun _ _ => False) s2) (fun _ _ => False) s1) (fun _ _ => False) s)
    (n : Nat) (h : W n s) : codeAny (model prog w) A (.compLoop (.ListComp elt gs sc ps) d it acc v) R s := by
  have no : ∀ {Z : Value → Shared → Prop} (a : Value) (b : Shared), False → Z a b := fun _ _ z => z.elim
  refine codeAny_loop rfl W (fun n s hw => ?_) n h
  show wpAny _ A ((compTurn _ d it acc v).onRaise (fun x => do noteFrame x v; theTreesLotGoes x)) _ _ s
  refine wpAny_noted ?_
  rw [S it acc v]
  refine wpAny_bind (wpAny_standAt (wpAny_bind (wpAny_mono (turn n s hw) (fun r s1 h1 => ?_) no)))
  match r, h1 with
  | none, h1 => exact wpAny_pure h1
  | some u, h1 =>
    refine wpAny_bind (wpAny_mono h1 (fun _ s2 h2 => wpAny_bind (wpAny_mono h2 (fun _ s3 h3 => wpAny_bind (wpAny_mono h3 (fun k s4 h4 => ?_) no)) no)) no)
    match k, h4 with
    | false, h4 => exact wpAny_pure ⟨rfl, h4⟩
    | true, h4 => exact h4 _ _ _ fun s5 h5 => wpAny_pure ⟨rfl, h5⟩
/-- a clause's reading, its source walked by J: Nx is reached when the source is through; kept is what a kept item asks -/
def tIn (J : It) (g : TG) (tt : TT) (kept : (Hp → Prop) → St → Hp → Prop) (vs : List Nat) (Nx : Hp → Prop) (σ : St) (H0 : Hp) : Prop :=
  ∃ W : Nat → Nat → Hp → Prop, (∃ m, W 0 m H0) ∧ ∀ i m H, W i m H → (J.stop i H ∧ Nx H) ∨ (J.go i H ∧ ∃ N1 : Hp → Prop, (∀ H', N1 H' → ∃ m', m' < m ∧ W (i + 1) m' H') ∧
    ∀ x H', J.yld i H x H' → g x (wipe σ vs) H' fun σ3 H3 => wipe σ3 vs = wipe σ vs ∧ tt σ3 H3 fun k H4 => if k = true then kept N1 σ3 H4 else N1 H4)
/-- the last clause: the item goes to the list at D -/
def kLast (D : Addr) (te : TE) : (Hp → Prop) → St → Hp → Prop := fun N σ H => te σ H fun y H2 => ∃ acc, H2 D = some (.lst acc) ∧ acc.length < sizeLine ∧ N (upd H2 D (.lst (acc ++ [y])))
/-- a clause with another behind it -/
def kNext (wi : TI) (g : TG) (tt : TT) (kept : (Hp → Prop) → St → Hp → Prop) (vs : List Nat) : (Hp → Prop) → St → Hp → Prop := fun N σ H => wi σ H fun J H2 => tIn J g tt kept vs N σ H2
/-- a kept item's part of the turn, within the block B -/
def Does (B : Cx) (D : Addr) (vs : List Nat) (bk : Bk) (kept : (Hp → Prop) → St → Hp → Prop) : Prop := ∀ (pins : List (Addr × Obj)) (σ σ0 : St) (H : Hp) (s : Shared) (N : Hp → Prop), Inv B pins σ H s → wipe σ vs = wipe σ0 vs → kept N σ H →
  ∀ (k : Sem Fin) (Q : Fin → Shared → Prop) (E : Value → Shared → Prop), (∀ s', (∃ σ' H', Inv B pins σ' H' s' ∧ σ'.length = σ.length ∧ (∀ (j : Nat) v, (wipe σ0 vs)[j]? = some (some v) → σ'[j]? = some (some v)) ∧ N H') → wpAny (model B.prog B.w) B.A k Q E s') →
    wpAny (model B.prog B.w) B.A (bk (.ref D) B.env k) Q E s
/-- the whole loop of a clause, within the block B -/
def Runs (B : Cx) (e : Expr) (d : Nat) (D : Addr) (tg : Expr) (g : TG) (tt : TT) (kept : (Hp → Prop) → St → Hp → Prop) (vs : List Nat) : Prop :=
  ∀ (pins : List (Addr × Obj)) (σ : St) (R : Result → Shared → Prop) (it : Addr) (fp : List Addr) (tn : Nat → Heap → Prop) (J : It) (H : Hp) (s : Shared) (Nx : Hp → Prop),
    Inv B pins (wipe σ vs) H s → Turn B.prog B.w B.K tg J fp it tn → tn 0 s.heap → (∀ b ∈ fp, FpOk B pins H b) → tIn J g tt kept vs Nx σ H →
    (∀ (s' : Shared) (H' : Hp), Inv B pins (wipe σ vs) H' s' → Nx H' → R (.ok .next) s') → codeAny (model B.prog B.w) B.A (.compLoop e d (.ref it) (.ref D) B.env) R s
section
variable {B : Cx} {elt : Expr} {gs : List Comprehension} {sc : Scope} {ps : Pos} {d : Nat} {D : Addr} {tg src : Expr} {fs : Evs} {bk : Bk} {g : TG} {tt : TT} {te : TE} {kept : (Hp → Prop) → St → Hp → Prop} {vs : List Nat}
theorem runs_by (hx : B.xe = fun _ _ => False) (hc : B.calm = true) (S : Shape (.ListComp elt gs sc ps) d tg src fs bk) (pg : PG B tg g) (pt : PTs B fs tt) (does : Does B D vs bk kept) : Runs B (.ListComp elt gs sc ps) d D tg g tt kept vs := by
  intro pins σ R it fp tn J H s Nx I T st fpk rd fin
  obtain ⟨W, ⟨m0, w0⟩, turn⟩ := rd
  have go : ∀ {α : Type} {t : Sem α} {Q Q' : α → Shared → Prop} {s : Shared}, wpAny (model B.prog B.w) B.A t Q B.xe s → (∀ a s, Q a s → Q' a s) → wpAny (model B.prog B.w) B.A t Q' (fun _ _ => False) s := fun {α t Q Q' s} h hq => by
    rw [hx] at h; exact wpAny_mono h hq fun _ _ z => z
  have fpk' : ∀ {H' : Hp}, (∀ b ∈ fp, H' b = none) → ∀ b ∈ fp, FpOk B pins H' b := fun hn b hb => ⟨hn b hb, (fpk b hb).2⟩
  refine loop_by S (fun n s' => ∃ i H', Inv B pins (wipe σ vs) H' s' ∧ tn i s'.heap ∧ (∀ b ∈ fp, H' b = none) ∧ W i n H') ?_ m0 ⟨0, H, I, st, fun b hb => (fpk b hb).1, w0⟩
  rintro n s1 ⟨i, H1, I1, t1, n1, w1⟩
  rcases turn i n H1 w1 with ⟨stop, q⟩ | ⟨goes, N1, hN, step⟩
  · refine wpAny_mono (T.done B rfl rfl rfl hc i pins s1 _ H1 (fun _ _ => False) I1 (fpk' n1) t1 stop) (fun r s2 z => ?_) fun _ _ z => z
    obtain ⟨rfl, I2⟩ := z
    exact fin s2 H1 I2 q
  · refine wpAny_mono (T.item B rfl rfl rfl hc i pins s1 _ H1 (fun _ _ => False) I1 (fpk' n1) t1 goes) (fun r s2 z => ?_) fun _ _ z => z
    obtain ⟨u, rfl, z⟩ := z
    refine wpAny_mono z (fun _ s3 z => ?_) fun _ _ z => z
    obtain ⟨x, H3, I3, ru, y3, t3, n3⟩ := z
    refine go (pg.run _ s3 _ H3 x u _ (I3.pinned (fpk' n3) (T.obj _ _ t3)) ru (step x H3 y3)) fun _ s4 z => ?_
    obtain ⟨σ4, H4, I4, hw, z⟩ := z
    refine go (pt.run _ s4 σ4 H4 _ I4 z) fun k s5 z => ?_
    obtain ⟨H5, I5, z⟩ := z
    have len : (wipe σ vs).length = σ4.length := by rw [← hw, wipe_length]
    have again : ∀ {σ' : St} {s' : Shared} {H' : Hp}, Inv B (pins ++ pinsAt fp s3.heap) σ' H' s' → σ'.length = σ4.length → (∀ (j : Nat) v, (wipe σ vs)[j]? = some (some v) → σ'[j]? = some (some v)) → N1 H' →
        ∃ m, m < n ∧ ∃ i H', Inv B pins (wipe σ vs) H' s' ∧ tn i s'.heap ∧ (∀ b ∈ fp, H' b = none) ∧ W i m H' := fun {σ' s' H'} I' hl hk nx => by
      obtain ⟨m', lt, w'⟩ := hN H' nx
      have same : ∀ b ∈ fp, ∀ o, s3.heap.get? b = some o → s'.heap.get? b = some o ∧ H' b = none := fun b hb o eo => by
        have z := I'.pin (b, o) (List.mem_append_right _ (List.mem_append_right _ (mem_pinsAt hb eo)))
        exact ⟨z.1, z.2.1⟩
      refine ⟨m', lt, i + 1, H', I'.unpinned.weak (len.trans hl.symm) hk, T.keep _ _ _ t3 fun b hb o eo => (same b hb o eo).1, fun b hb => ?_, w'⟩
      obtain ⟨o, eo, _⟩ := T.obj _ _ t3 b hb
      exact (same b hb o eo).2
    match k, z with
    | false, z => exact again I5 rfl (fun j v ev => by rw [← hw] at ev; exact (wipe_some ev).1) z
    | true, z => exact fun k Q E hk => does _ σ4 σ H5 s5 N1 I5 hw z k Q E fun s6 ⟨σ6, H6, I6, l6, k6, q6⟩ => hk s6 (again I6 l6 k6 q6)
theorem does_last (hx : B.xe = fun _ _ => False) (pe : PE B elt te) : Does B D vs (bkApp elt) (kLast D te) := by
  intro pins σ σ0 H s N I hw h k Q E hk
  have z := pe.run pins s σ H _ I h
  rw [hx] at z
  refine wpAny_bind (wpAny_bind (wpAny_mono z (fun u s1 z => ?_) fun _ _ z => z.elim))
  obtain ⟨y, H1, I1, ru, acc, hD, hl, n⟩ := z
  exact wpAny_bind (app_ok (X := B) I1 hD hl ru fun s2 I2 => wpAny_pure (hk s2 ⟨σ, _, I2, rfl, fun j v ev => by rw [← hw] at ev; exact (wipe_some ev).1, n⟩))
/-- the start of the clause d + 1 is its loop -/
def Starts (e : Expr) (d : Nat) : Prop := ∀ {prog : Program} {w : World} {A : Around} {R : Result → Shared → Prop} {s : Shared} {it acc : Value} {v : Env}, codeAny (model prog w) A (.compLoop e d it acc v) R s →
  wpAny (model prog w) A (pyIter it) (fun i s' => codeAny (model prog w) A (.compLoop e d i acc v) R s') (notedBy (model prog w) A v fun x s' => R (.error x) s') s → codeAny (model prog w) A (.compStart e d it acc v) R s
theorem does_next {e tg2 src2 : Expr} {wi2 : TI} {g2 : TG} {tt2 : TT} {kept2 : (Hp → Prop) → St → Hp → Prop} {vs2 : List Nat} (hx : B.xe = fun _ _ => False) (pi2 : PI B tg2 src2 wi2) (hs : ∀ x, foldedSetIterable src2 B.env x = pure x) (hv : ∀ i ∈ vs2, i ∈ vs)
    (hst : Starts e (d + 1)) (R2 : Runs B e (d + 1) D tg2 g2 tt2 kept2 vs2) : Does B D vs (bkNext e d src2) (kNext wi2 g2 tt2 kept2 vs2) := by
  intro pins σ σ0 H s N I hw h k Q E hk
  have z := pi2.run pins s σ H _ I h
  rw [hx] at z
  refine wpAny_bind (wpAny_mono z (fun x s1 z => wpAny_bind (wpAny_standAt (wpAny_bind (wpAny_of_eq (hs x) (wpAny_bind (wpAny_holding (wpAny_mono z (fun i s2 z => ?_) fun _ _ z => z.elim))))))) fun _ _ z => z.elim)
  obtain ⟨it2, fp2, tn2, J2, H2, ei, I2, T2, t2, f2, rd⟩ := z
  subst ei
  refine wpAny_bind (wpAny_runOwn ?_)
  rw [Around.mark_none]
  have lp := R2 pins σ (fun r s' => match r with | .ok _ => ∃ H', Inv B pins (wipe σ vs2) H' s' ∧ N H' | .error _ => False) it2 fp2 tn2 J2 H2 s2 N (I2.weak (wipe_length _ _) fun j v ev => (wipe_some ev).1) T2 t2 f2 rd fun s' H' I' n => ⟨H', I', n⟩
  refine codeAny_mono (hst lp (T2.self B.A 0 _ _ _ t2 lp)) fun r s' z => ?_
  match r, z with
  | .error _, z => exact z.elim
  | .ok _, ⟨H', I', n⟩ =>
    refine hk _ ⟨wipe σ vs2, H', I', wipe_length _ _, fun j v ev => ?_, n⟩
    rw [← hw] at ev
    obtain ⟨e1, e2⟩ := wipe_some ev
    rw [wipe_out fun q => e2 (hv j q)]
    exact e1
end
section
variable {X : Cx}
abbrev g3 (t0 i0 : Expr) (f0 : Evs) (t1 i1 : Expr) (f1 : Evs) (t2 i2 : Expr) (f2 : Evs) : List Comprehension := [⟨t0, i0, f0, 0⟩, ⟨t1, i1, f1, 0⟩, ⟨t2, i2, f2, 0⟩]
def tLc3 (wi : TI) (g : TG) (tt : TT) (wi1 : TI) (g1 : TG) (tt1 : TT) (wi2 : TI) (g2 : TG) (tt2 : TT) (te : TE) (vs vs1 vs2 : List Nat) : TE := fun σ H Q => wi σ H fun J H1 => ∀ D, H1 D = none →
  tIn J g tt (kNext wi1 g1 tt1 (kNext wi2 g2 tt2 (kLast D te) vs2) vs1) vs (fun H2 => Q (.ref D) H2) σ (upd H1 D (.lst []))
theorem starts3 {elt t0 i0 t1 i1 t2 i2 : Expr} {f0 f1 f2 : Evs} {scope : Scope} {pos : Pos} {d : Nat} (hd : d = 1 ∨ d = 2) : Starts (.ListComp elt (g3 t0 i0 f0 t1 i1 f1 t2 i2 f2) scope pos) d := by
  intro prog w A R s it acc v h0 h1
  rcases hd with rfl | rfl
  all_goals
    refine codeAny_of_tree ?_
    show wpAny _ _ ((compStart _ _ it acc v).onRaise (fun x => do noteFrame x v; standAt theWindowsPlace)) _ _ s
    refine wpAny_notedAt ?_
    unfold compStart
    show wpAny _ _ (ask >>= _) _ _ s
    refine wpAny_bind (wpAny_askSetting (wpAny_ite ?_))
    split
    · first | exact wpAny_pure ⟨rfl, h0⟩ | exact wpAny_bind (wpAny_pure (wpAny_pure ⟨rfl, h0⟩))
    · refine wpAny_bind (wpAny_rule ?_)
      first
        | exact wpAny_bind (wpAny_standAt (wpAny_bind (wpAny_mono h1 (fun i s' z => wpAny_pure ⟨rfl, z⟩) fun _ _ z => z)))
        | (show wpAny _ _ (standAt _ >>= _) _ _ s; exact wpAny_bind (wpAny_standAt (wpAny_bind (wpAny_mono h1 (fun i s' z => wpAny_pure ⟨rfl, z⟩) fun _ _ z => z))))
/-- within the block: all that the rule's parts give at one block -/
structure Parts3 (B : Cx) (elt t0 t1 i1 t2 i2 : Expr) (f0 f1 f2 : Evs) (g : TG) (tt : TT) (wi1 : TI) (g1 : TG) (tt1 : TT) (wi2 : TI) (g2 : TG) (tt2 : TT) (te : TE) : Prop where
  pg : PG B t0 g
  pt : PTs B f0 tt
  pi1 : PI B t1 i1 wi1
  pg1 : PG B t1 g1
  pt1 : PTs B f1 tt1
  pi2 : PI B t2 i2 wi2
  pg2 : PG B t2 g2
  pt2 : PTs B f2 tt2
  pe : PE B elt te
theorem Parts3.runs {B : Cx} {elt t0 i0 t1 i1 t2 i2 : Expr} {f0 f1 f2 : Evs} {g : TG} {tt : TT} {wi1 : TI} {g1 : TG} {tt1 : TT} {wi2 : TI} {g2 : TG} {tt2 : TT} {te : TE} {scope : Scope} {pos : Pos} {vs vs1 vs2 : List Nat} {D : Addr} (P : Parts3 B elt t0 t1 i1 t2 i2 f0 f1 f2 g tt wi1 g1 tt1 wi2 g2 tt2 te)
    (hx : B.xe = fun _ _ => False) (hc : B.calm = true) (h1 : ∀ v x, foldedSetIterable i1 v x = pure x) (h2 : ∀ v x, foldedSetIterable i2 v x = pure x) (v1 : ∀ i ∈ vs1, i ∈ vs) (v2 : ∀ i ∈ vs2, i ∈ vs1) :
    Runs B (.ListComp elt (g3 t0 i0 f0 t1 i1 f1 t2 i2 f2) scope pos) 0 D t0 g tt (kNext wi1 g1 tt1 (kNext wi2 g2 tt2 (kLast D te) vs2) vs1) vs := by
  have r2 : Runs B (.ListComp elt (g3 t0 i0 f0 t1 i1 f1 t2 i2 f2) scope pos) 2 D t2 g2 tt2 (kLast D te) vs2 := runs_by (src := i2) hx hc (fun _ _ _ => by rfl) P.pg2 P.pt2 (does_last hx P.pe)
  have r1 : Runs B (.ListComp elt (g3 t0 i0 f0 t1 i1 f1 t2 i2 f2) scope pos) 1 D t1 g1 tt1 (kNext wi2 g2 tt2 (kLast D te) vs2) vs1 := runs_by (src := i1) hx hc (fun _ _ _ => by rfl) P.pg1 P.pt1 (does_next hx P.pi2 (h2 _) v2 (starts3 (.inr rfl)) r2)
  exact runs_by (src := i0) hx hc (fun _ _ _ => by rfl) P.pg P.pt (does_next hx P.pi1 (h1 _) v1 (starts3 (.inl rfl)) r1)
/-- the rule -/
theorem pe_lc3 {elt t0 i0 t1 i1 t2 i2 : Expr} {f0 f1 f2 : Evs} {g : TG} {tt : TT} {wi wi1 : TI} {g1 : TG} {tt1 : TT} {wi2 : TI} {g2 : TG} {tt2 : TT} {te : TE} {scope : Scope} {pos : Pos} {own : List (Str × Nat)} {vs1 vs2 : List Nat}
    (hc : X.calm = true) (hN : X.N.Nodup) (hi : PI X t0 i0 wi) (ok : BlkOk X.N X.env.scope scope own) (v1 : ∀ i ∈ vs1, i ∈ own.map (·.2)) (v2 : ∀ i ∈ vs2, i ∈ vs1)
    (P : ∀ (s : Shared) (H : Hp) (C : Addr) (cl : List (Str × Addr)) (fp : List Addr), Parts3 (X.blk s H scope (compEnvC scope cl C X.env) fp) elt t0 t1 i1 t2 i2 f0 f1 f2 g tt wi1 g1 tt1 wi2 g2 tt2 te)
    (h0 : ∀ x, foldedSetIterable i0 X.env x = pure x := by intro _; rfl) (h1 : ∀ v x, foldedSetIterable i1 v x = pure x := by intro _ _; rfl) (h2 : ∀ v x, foldedSetIterable i2 v x = pure x := by intro _ _; rfl) :
    PE X (.ListComp elt (g3 t0 i0 f0 t1 i1 f1 t2 i2 f2) scope pos) (tLc3 wi g tt wi1 g1 tt1 wi2 g2 tt2 te (own.map (·.2)) vs1 vs2) := by
  refine ⟨fun pins s σ H Q I h => ?_⟩
  rw [eval_ListComp]
  have free : ∀ y ∈ scope.names, y.2 = .free → ∃ c, X.env.cells.lookup y.1 = some c := fun y hy e => (ok.free y hy e).elim (fun k => I.ok.has _ (.inl k)) fun k => I.ok.has _ (.inr k)
  refine wpAny_comprehension_free (use := none) rfl h0 (closure_ok free) ok.kind (fun y hy e => by rw [ok.uniq y hy, e]) (thn (hi.run pins s σ H _ I h) fun xv s1 z => thn z fun itv s2 z => ?_)
  obtain ⟨it, fp, tn, J, H2, rfl, I2, T, st2, f2', q⟩ := z
  refine wpAny_newObj_type (newEnv_comp ?_) (Nat.zero_le _)
  generalize eD : s2.heap.objs.size = D
  have nD : H2 D = none := I2.hok.fresh (Nat.le_of_eq eD)
  have rd := q D nD
  generalize e3 : ({ s2 with heap := s2.heap.push { cls := .type "list", data := .seq ([] : List Value).toArray } } : Shared) = s3
  have p3 : s3.heap = s2.heap.push { cls := .type "list", data := .seq ([] : List Value).toArray } := by rw [← e3]
  have at3 : s3.heap.get? D = some { cls := .type "list", data := .seq ([] : List Value).toArray } := by rw [p3, ← eD]; exact Heap.get?_push_size _ rfl
  have I3 : Inv X pins σ (upd H2 D (.lst [])) s3 := by
    rw [← e3]
    exact I2.laid (t' := s2.toks) (fun b o e => Heap.get?_push_of_some _ e) (Nat.le_of_eq eD) ⟨Nat.zero_le _, [], 0, .nil, by rw [← e3] at at3; exact at3⟩
  have below : ∀ b ∈ fp, b < s2.heap.objs.size := fun b hb => let ⟨_, e, _⟩ := T.obj _ _ st2 b hb; Heap.lt_size e
  have f3 : ∀ b ∈ fp, FpOk X pins (upd H2 D (.lst [])) b ∧ b < s3.heap.objs.size := fun b hb => by
    have lt := below b hb
    have ne : b ≠ D := by rw [← eD]; exact Nat.ne_of_lt lt
    exact ⟨⟨by rw [upd_ne ne]; exact (f2' b hb).1, (f2' b hb).2⟩, by rw [p3, Heap.size_push]; exact Nat.lt_succ_of_lt lt⟩
  have st3 : tn 0 s3.heap := T.keep _ _ _ st2 fun b _ o e => by rw [p3]; exact Heap.get?_push_of_some _ e
  have I4 := block_start I3 ok hN f3
  have P4 := P s3 (upd H2 D (.lst [])) s3.heap.objs.size (cellsFrom (s3.heap.objs.size + 1) scope.names (cloFrom X.env.cells scope.names [])) fp
  show codeAny _ _ (.compStart _ 0 (.ref it) (.ref D) (compEnvC scope (cellsFrom (s3.heap.objs.size + 1) scope.names (cloFrom X.env.cells scope.names [])) s3.heap.objs.size X.env)) (compPost (model X.prog X.w) X.A X.xe none _ (.ref D) s3.heap.objs.size) { s3 with heap := pushCells (s3.heap.push { cls := .type "dict", data := .dict #[] }) scope.names }
  have free3 : ∀ b ∈ fp, (upd H2 D (.lst [])) b = none := fun b hb => (f3 b hb).1.1
  generalize ece : compEnvC scope (cellsFrom (s3.heap.objs.size + 1) scope.names (cloFrom X.env.cells scope.names [])) s3.heap.objs.size X.env = ce at I4 P4 ⊢
  have lc : ce.locals = s3.heap.objs.size := by subst ece; rfl
  generalize e4 : ({ s3 with heap := pushCells (s3.heap.push { cls := .type "dict", data := .dict #[] }) scope.names } : Shared) = s4 at I4 ⊢
  have st4 : tn 0 s4.heap := T.keep _ _ _ st3 fun b _ o e => by rw [← e4]; exact pushCells_keeps _ _ _ _ (Heap.get?_push_of_some _ e)
  have R0 := P4.runs (i0 := i0) (scope := scope) (pos := pos) (D := D) rfl hc h1 h2 v1 v2
  have lp := R0 [] σ (compPost (model X.prog X.w) X.A X.xe none (EP X pins σ Q) (.ref D) s3.heap.objs.size) it fp tn J _ s4 _ I4 T st4 (fun b hb => ⟨free3 b hb, (I4.ok.exf b hb).1, I4.ok.exfs b hb, .inl hb, fun x c e => (I4.ok.exf b hb).2 x c e, fun p hp => absurd (show p ∈ ([] : List (Addr × Obj)) ++ [] from hp) (by simp)⟩) rd fun s5 H5 I5 q5 => by
    have I6 : Inv X pins σ H5 s5 := I3.call' (ch := fp) I5.os I5.base I5.hok I5.bare fun b hb => let z := (f3 b hb).1.2; ⟨z.2.2.1, z.1, z.2.2.2.1, z.2.2.2.2⟩
    have nC : H5 s3.heap.objs.size = none := by rw [← lc]; exact I5.free
    obtain ⟨m, hn, _⟩ := I5.loc
    have hn' : s5.heap.Ns s3.heap.objs.size m := by rw [← lc]; exact hn
    refine ⟨m, hn', fun h6 sb => ?_⟩
    obtain ⟨f0, f1, f2, f3, f4, f5⟩ := I3.fpOk (H' := H5) (Nat.le_refl _) nC
    exact ⟨.ref D, H5, I6.turned (t' := s5.toks) (fun b o hb e => (sb.2 b hb).trans e) f0 f1 f3 f4 f5, rfl, q5⟩
  exact codeAny_compStart_list lp (T.self X.A 0 _ _ _ st4 lp)
end
end J
/-! Defs that are run while no repr is under way: A.guards = some [] is known of what is around them, so that repr of lists and tuples may be asked within. -/
namespace J
open PySem L2 PySem.Spec PyProof.Rows
/-- a def's promise where no repr is under way -/
structure FnG (P : Program) (w : World) (K : PySem.W.Frag) (mg : Str → Option Value) (base : Heap) (k : Nat) (f : Addr) (fd : FuncData) (ps : List Str) (sp : Sp) : Prop where
  len : ∀ vs H Q E, sp vs H Q E → vs.length = ps.length
  run : ∀ (A : Around), A.guards = some [] → ∀ (outer : List Env) (s : Shared) (H : Hp) (args : Args) (us : List Value) (vs : List V) (Q : VK) (E : XK), Room k A → Env0 P w K mg base A outer s H → BindsTo s fd args (ps.zip us) → Vals vs us → sp vs H Q E → codeAny (model P w) A (.call (.ref f) args) (CR CX0 outer P w H s Q E) s
section
variable {P : Program} {w : World} {K : PySem.W.Frag} {mg : Str → Option Value} {base : Heap}
theorem FnG.of {k : Nat} {f : Addr} {fd : FuncData} {ps : List Str} {sp : Sp} (F : FnOk P w K mg base CX0 k f fd ps sp) : FnG P w K mg base k f fd ps sp := ⟨F.len, fun A _ => F.run A⟩
end
end J
/-! Called defs as data; enumerate with a start; small rules. -/
namespace J
open PySem L2 PySem.Spec PyProof.Rows
/-- a class of the module, its object at C -/
structure ClsT (K : PySem.W.Frag) (mg : Str → Option Value) (x : Str) (C : Addr) : Prop where
  cl : Cls K C
  g : mg x = some (.ref C)
section
variable {X : Cx}
/-- a whole number that the module names -/
theorem pe_gint {x : Str} {i : Int} {pos : Pos} (h : ∃ t, X.mg x = some (.int i t)) (hg : Gl X x := by rfl) (hd : (x == ("__debug__" : Str)) = false := by decide) : PE X (.Name x pos) (tC (.int i)) := by
  obtain ⟨t, h⟩ := h
  exact pe_glob hg h ⟨t, rfl⟩ hd
end
/-! ### enumerate(list, start = k) -/
/-- the list at a, each item in a new pair behind the number k + turn -/
def Itn (K : PySem.W.Frag) (k : Int) (a : Addr) : It :=
  ⟨fun i H => ∃ (xs : List V) (x : V), SqL K H a xs ∧ xs[i]? = some x, fun i H v H' => ∃ T x, v = .ref T ∧ H T = none ∧ H' = upd H T (.tup [.int (k + (i : Nat)), x]) ∧ ∀ xs, SqL K H a xs → xs[i]? = some x, fun i H => ∃ xs : List V, SqL K H a xs ∧ xs.length = i⟩
theorem turn_enumS {P : Program} {w : World} {K : PySem.W.Frag} {elts : List Expr} {kk : Nat} {tpos : Pos} (k : Int) (a e it : Addr) (hai : a ≠ it) (hae : a ≠ e) :
    Turn P w K (.Tuple elts kk tpos) (Itn K k a) [e, it] e (fun i h => (∃ old, IsEnum h e it (k + (i : Int)) old) ∧ h.IsListIter it a i ∧ e ≠ it) := by
  have two : ∀ {b : Addr}, b ∈ [e, it] → b = e ∨ b = it := fun h => by simpa using h
  refine { mem := by simp, obj := ?_, keep := ?_, item := ?_, done := ?_, self := ?_ }
  · rintro i h ⟨⟨old, he⟩, ⟨o, ho, hc, hd⟩, _⟩ b hb
    rcases two hb with rfl | rfl
    · exact ⟨_, he, fun v q => nomatch q⟩
    · exact ⟨o, ho, fun v q => by rw [hd] at q; cases q⟩
  · rintro i h h' ⟨⟨old, he⟩, hi, hne⟩ kp
    exact ⟨⟨old, kp e (by simp) _ he⟩, hi.at fun o q => kp it (by simp) o q, hne⟩
  · rintro X rfl rfl rfl hc i pins s σ H E I hf ⟨⟨old, he⟩, hit, hne⟩ ⟨xs, x, hq, hx⟩
    obtain ⟨its, rv, p, hz⟩ := I.list hq
    obtain ⟨u, hu, ru⟩ := rv.get hx
    have el : e < s.heap.objs.size := Heap.lt_size he
    have il : it < s.heap.objs.size := by obtain ⟨_, q, _⟩ := hit; exact Heap.lt_size q
    have hlt : i < its.toArray.size := by rw [List.size_toArray]; exact (List.getElem?_eq_some_iff.mp hu).1
    refine wpAny_pyNext_enum_itemC (Draws.list (show X.A.in1.handled = none from I.ok.hd hc) it a hai its.toArray) he ⟨hit, p.isList⟩ hlt hne (by simp [hne, hae.symm]) fun y h' tk hy ho hst hT _ hk => ?_
    have ey : y = u := by
      have z : its.toArray[i]? = some u := by simpa using hu
      exact Option.some.inj (hy.symm.trans z)
    subst ey
    refine ⟨_, rfl, wpAny_letOwnedTupleGo_enum (s := { s with heap := h', toks := tk + 1 }) ho fun h2 he2 sb => ?_⟩
    have hT2 : h2.get? s.heap.objs.size = some { cls := .type "tuple", data := .seq #[.int (k + i) tk, y] } := (sb.2 _ (Nat.ne_of_gt el)).trans hT
    have I1 : Inv X pins σ (upd H s.heap.objs.size (.tup [.int (k + (i : Nat)), x])) { s with heap := h2, toks := tk + 1 } :=
      I.turnedNew (ch := [e, it]) (fun b ob hb q => (sb.2 b (fun z => hb (by simp [z]))).trans (hk b ob (fun z => hb (by simp [z])) (fun z => hb (by simp [z])) q)) hf (Nat.le_refl _)
        ⟨(by decide : 2 ≤ sizeLine), [.int (k + i) tk, y], .cons ⟨_, rfl⟩ (.cons ru .nil), ⟨_, hT2, rfl, _, rfl⟩⟩
    refine ⟨.ref s.heap.objs.size, _, I1, rfl, ⟨_, x, rfl, I.hok.fresh (Nat.le_refl _), rfl, fun ys hy => by rw [I.list_inj hy hq]; exact hx⟩, ⟨⟨y, ?_⟩, hst.1.at fun o q => (sb.2 it (Ne.symm hne)).trans q, hne⟩, fun b hb => ?_⟩
    · have e1 : k + ((i + 1 : Nat) : Int) = k + (i : Int) + 1 := by omega
      rw [e1]; exact he2
    · have lt : b < s.heap.objs.size := (two hb).elim (fun z => by rw [z]; exact el) fun z => by rw [z]; exact il
      rw [upd_ne (Nat.ne_of_lt lt)]; exact (hf b hb).1
  · rintro X rfl rfl rfl hc i pins s σ H E I hf ⟨⟨old, he⟩, hit, hne⟩ ⟨xs, hq, hx⟩
    obtain ⟨its, rv, p, hz⟩ := I.list hq
    obtain ⟨f0, f1, f2, f3, f4, f5⟩ := hf it (by simp)
    have hl : its.toArray.size = i := by rw [List.size_toArray, ← rv.length]; exact hx
    have D := Draws.list (prog := X.prog) (w := X.w) (show X.A.in1.handled = none from I.ok.hd hc) it a hai its.toArray
    exact wpAny_pyNext_enum_endD D he ⟨by rw [hl]; exact hit, p.isList⟩ fun h' eb => ⟨rfl, I.turned (t' := s.toks) (fun b o hb q => eb b o hb q) f0 f1 f3 f4 f5⟩
  · rintro A i s Q E ⟨⟨_, he⟩, _⟩ h
    exact wpAny_pyIter_enum he h
def iEnumS (K : PySem.W.Frag) (ta tk : TA) : TI := fun σ H R => ta σ H fun vs H1 => tk σ H1 fun zs H2 => ∃ a xs k, vs = [.ref a] ∧ zs = [.int k] ∧ (-(2 ^ 62) ≤ k ∧ k < 2 ^ 62) ∧ SqL K H2 a xs ∧ R (Itn K k a) H2
theorem pi_enumS {X : Cx} {e e2 : Expr} {ta tk : TA} {p pos tpos kp : Pos} {elts : List Expr} {kk : Nat} (hg : Gl X "enumerate") (hm : X.mg "enumerate" = none) (ha : PA X [e] ta) (hk : PK X [⟨some "start", e2, kp⟩] tk) (hs : starEach [e] X.env = (false, eval e X.env) :: starEach [] X.env := by rfl)
    (hall : (backToKw pos (keywordEach [⟨some "start", e2, kp⟩] X.env)).all (·.1.isSome) = true := by rfl) (hks : (backToKw pos (keywordEach [⟨some "start", e2, kp⟩] X.env)).filterMap (·.1) = [("start" : Str)] := by rfl)
    (hpl : ((backTo pos (starEach [e] X.env)).any (·.1) || (backToKw pos (keywordEach [⟨some "start", e2, kp⟩] X.env)).any (·.1.isNone)) = false := by rfl) :
    PI X (.Tuple elts kk tpos) (.Call (.Name "enumerate" p) [e] [⟨some "start", e2, kp⟩] pos) (iEnumS X.K ta tk) := by
  refine ⟨fun pins s σ H R I h => wpAny_Call_Name_kw (ld_blt I hg hm boot_enumerate ?_)⟩
  refine PySem.W.callWith_of (P := fun _ => True) hpl (fun _ _ => ⟨.machine, .inr (.inl rfl), PySem.W.Looks.of_pure rfl⟩) (PyProof.Rows.evalArgs_kw2 hall (thn (ha.run pos pins s σ H _ I h) fun us s1 z => ?_) hs)
  obtain ⟨vs, H1, I1, r1, q1⟩ := z
  refine thn (hk.run pos pins s1 σ H1 _ I1 q1) fun ws s2 z => ?_
  obtain ⟨zs, H2, I2, r2, a, xs, k, rfl, rfl, hb, hq, q⟩ := z
  refine ⟨trivial, ?_⟩
  rw [hks]
  obtain ⟨u, rfl, ru⟩ := vals1 r1
  obtain ⟨t, rfl, tt, rfl⟩ := vals1 r2
  obtain rfl : u = Value.ref a := ru
  obtain ⟨its, rv, p', hz⟩ := I2.list hq
  have lt : a < s2.heap.objs.size := by obtain ⟨o, _, ho, _⟩ := p'; exact Heap.lt_size ho
  have old : ∀ {b : Addr}, s2.heap.objs.size ≤ b → a ≠ b := fun {b} hb => Nat.ne_of_lt (Nat.lt_of_lt_of_le lt hb)
  refine enum_begins_start (begins_list a its.toArray) p'.isList (by omega) (by omega) fun h' he hit hsz hkeep => wpAny_pyIter_enum he ?_
  have I3 : Inv X pins σ H2 { s2 with heap := h' } := I2.kept (t' := s2.toks) hkeep
  refine ⟨s2.heap.objs.size + 1, [s2.heap.objs.size + 1, s2.heap.objs.size], _, _, H2, rfl, I3, turn_enumS k a (s2.heap.objs.size + 1) s2.heap.objs.size (old (Nat.le_refl _)) (old (Nat.le_succ _)), ⟨⟨.none, by simpa using he⟩, ⟨_, hit, rfl, rfl⟩, Nat.succ_ne_self _⟩, fun b hb => ?_, q⟩
  have two : b = s2.heap.objs.size + 1 ∨ b = s2.heap.objs.size := by simpa using hb
  have le : s2.heap.objs.size ≤ b := two.elim (fun z => by rw [z]; exact Nat.le_succ _) fun z => Nat.le_of_eq z.symm
  exact I2.fpOk le (I2.hok.fresh le)
end J
/-! Comprehensions that make a list of data, one item a turn. -/
/-! C.m(self, ..): a def of a class called through the class itself. -/
namespace J
open PySem L2 PySem.Spec PyProof.Rows ClX
/-- C.m(e, ..), C a class, m a plain def of it: the promise at the arguments as they stand, defaults behind them -/
def tClsF (C : Addr) (sp : Sp) (dvs : List V) (E : XK) (ta : TE) (t : TA) : TE := fun σ H Q => ta σ H fun x H1 => x = .ref C ∧ t σ H1 fun vs H2 => sp (vs ++ dvs) H2 Q E
section
variable {X : Cx} {CX : CXT} {k : Nat} {C f : Addr} {fd : FuncData} {mc : Value} {sp : Sp} {ps : List Str} {ds : List Value} {dvs : List V} {E : XK} {o e : Expr} {es : List Expr} {m : Str} {pos apos : Pos} {ta : TE} {t : TA} {pl : Sem Bool}
theorem pe_clsF (he : PE X o ta) (r : CRead X.K C mc) (c : CVal X.K C mc m (.ref f) (.ref f)) (F : FnOk X.prog X.w X.K X.mg X.base CX k f fd ps sp) (hr : Room k X.A) (hk : PySem.W.keepIn X.K (.ref f) = true) (hb : Binds X.K fd ps ds) (hd : Vals dvs ds) (hx : Passes CX X E) (ha : PA X (e :: es) t)
    (hst : starEach (e :: es) X.env = (false, eval e X.env) :: starEach es X.env := by rfl) (hpl : (backTo pos (starEach es X.env)).any (·.1) = false := by rfl)
    (ht : eval (.Call (.Attribute o m apos) (e :: es) [] pos) X.env = (do
      let ov ← eval o X.env
      standAt apos.atName
      let (f, first) ← holding [ov] (getMethod ov m pl)
      callWith pos f first (backTo pos (starEach (e :: es) X.env)) (backToKw pos (keywordEach [] X.env))) := by rfl) :
    PE X (.Call (.Attribute o m apos) (e :: es) [] pos) (tClsF C sp dvs E ta t) := by
  refine ⟨fun pins s σ H Q I h => ?_⟩
  refine PySem.W.methodCall_KW (pl := pl) (thn (he.run pins s σ H _ I h) fun u s1 ⟨x, H1, I1, rx, ex, q⟩ => ?_) ht
  subst ex
  obtain rfl : u = Value.ref C := rx
  refine PySem.W.method_cls I1.kIn r.ga (getcval_ok I1 r c fun s2 I2 => ?_)
  refine PySem.W.callWith_K (h₀ := X.base) I2.ok.mod.kin hk (thn (ha.run pos pins s2 σ H1 _ I2 q) fun us s3 ⟨vs, H2, I3, rv, q2⟩ => ⟨I3.kIn, ?_⟩) hst hpl
  exact run_fn F hr hb hd hx I3 rv q2
end
/-- an exception class of the module over ValueError, its object at C -/
structure ExT (K : PySem.W.Frag) (mg : Str → Option Value) (x : Str) (C : Addr) : Prop where
  ox : OexC K C
  g : mg x = some (.ref C)
  rd : CRead K C (.type "type")
/-- its __init__ -/
structure XCal (P : Program) (w : World) (K : PySem.W.Frag) (mg : Str → Option Value) (base : Heap) (C : Addr) (k : Nat) (ps : List Str) (sp : Sp) where
  f : Addr
  fd : FuncData
  ok : FnOk P w K mg base CX0 k f fd ps sp
  kp : PySem.W.keepIn K (.ref f) = true
  b : Binds K fd ps []
  cv : CVal K C (.type "type") "__init__" (.ref f) (.ref f)
  iC : PySem.W.findIn K (.ref C) "__init__" = some (some (.ref f))
  tI : PySem.W.typeIn K (.ref f) = some (.type "function")
/-- ValueError.__init__ is what it was -/
def VeI (K : PySem.W.Frag) : Prop := PySem.W.findCls K (.type "ValueError") (.type "type") "__init__" = some (.val (.builtin "ValueError.__init__"))
end J
/-! Pure values, environments of slots, and how they stand in a heap: owned containers (written by their owner alone) and data that stay. -/
namespace J
open PySem L2 PySem.Spec PyProof.Rows
/-- pure values; true: a container of one owner, that may still be written -/
inductive D where
  | non | bl (b : Bool) | int (i : Int) | str (s : Str) | hole | exc
  | lst (o : Bool) (xs : List D)
  | scr (xs : List D)
  | tup (xs : List D)
  | dK (o : Bool) (ks : List Key) (vs : List D)
  | tK (ks : List Key) (vs : List D)
  | dT (o : Bool) (ks : List (List Key)) (vs : List D)
  | ins (o : Bool) (c : Nat) (ns : List Str) (vs : List D)
abbrev Env := List (Option D)
/-- how an expression ends: a value, an exception (its class, its fields), or nothing is said -/
inductive R (α : Type) where
  | ok (a : α) (e : Env)
  | ex (c : Nat) (ns : List Str) (vs : List D) (e : Env)
  | no
/-- how a statement ends -/
inductive Out where
  | nx (e : Env) | rt (r : D) (e : Env) | bk (e : Env) | ct (e : Env)
  | ex (c : Nat) (ns : List Str) (vs : List D) (e : Env)
  | no
mutual
def D.fz : D → D
  | .non => .non | .bl b => .bl b | .int i => .int i | .str s => .str s | .hole => .hole | .exc => .exc
  | .lst _ xs => .lst false (D.fzL xs)
  | .scr xs => .scr xs
  | .tup xs => .tup (D.fzL xs)
  | .dK _ ks vs => .dK false ks (D.fzL vs)
  | .tK ks vs => .tK ks (D.fzL vs)
  | .dT _ ks vs => .dT false ks (D.fzL vs)
  | .ins _ c ns vs => .ins false c ns (D.fzL vs)
def D.fzL : List D → List D
  | [] => []
  | d :: ds => d.fz :: D.fzL ds
end
mutual
def D.noOwn : D → Bool
  | .non => true | .bl _ => true | .int _ => true | .str _ => true | .hole => true | .exc => true
  | .lst o xs => !o && D.noOwnL xs
  | .scr _ => true
  | .tup xs => D.noOwnL xs
  | .dK o _ vs => !o && D.noOwnL vs
  | .tK _ vs => D.noOwnL vs
  | .dT o _ vs => !o && D.noOwnL vs
  | .ins o _ _ vs => !o && D.noOwnL vs
def D.noOwnL : List D → Bool
  | [] => true
  | d :: ds => d.noOwn && D.noOwnL ds
end
/-- what the code objects of lambdas are named -/
def lamQ : Str := "_law_right.<locals>.<lambda>"
/-- no table of code objects -/
abbrev NT (o : HO) : Prop := ∀ ps, o ≠ .tbl ps
theorem nt_some {H : Hp} {b : Addr} {o : HO} {ps : Array Value} (n : NT o) (h : H b = some o) : H b ≠ some (.tbl ps) := fun z => n ps (Option.some.inj (h.symm.trans z))
open Classical in
/-- the heap without what M tells; tables of code objects by their names alone -/
noncomputable def hide (M : Addr → Prop) (H : Hp) : Hp := fun b => if M b then none else match H b with
  | some (.tbl _) => if LamX.TabS H b lamQ then some (.tbl #[]) else none
  | x => x
/-- the tables of code objects stay good ones -/
def TbK (H H' : Hp) : Prop := ∀ P ps, H P = some (.tbl ps) → ∃ ps', H' P = some (.tbl ps') ∧ (LamX.TabS H P lamQ → LamX.TabS H' P lamQ)
theorem TbK.refl (H : Hp) : TbK H H := fun _ ps e => ⟨ps, e, id⟩
theorem TbK.trans {H H' H2 : Hp} (x : TbK H H') (y : TbK H' H2) : TbK H H2 := fun P ps e => by
  obtain ⟨p1, e1, t1⟩ := x P ps e
  obtain ⟨p2, e2, t2⟩ := y P p1 e1
  exact ⟨p2, e2, fun t => t2 (t1 t)⟩
theorem TbK.at {H H' : Hp} (x : TbK H H') {P : Addr} (t : LamX.TabS H P lamQ) : LamX.TabS H' P lamQ := by
  obtain ⟨ps, e, r⟩ := id t
  obtain ⟨_, _, f⟩ := x P ps e
  exact f t
theorem TbK.same {H H' : Hp} (s : Same H H') : TbK H H' := fun P ps e => ⟨ps, s _ _ e, fun t => t.ext s⟩
/-- all stays; the tables of code objects may grow -/
structure SameW (H H' : Hp) : Prop where
  keep : ∀ b o, H b = some o → (n : NT o := by first | assumption | exact fun _ z => nomatch z) → H' b = some o
  tb : TbK H H'
/-- a thing that stands, no tuple -/
def Liv (H : Hp) (b : Addr) : Prop := ∃ o, H b = some o ∧ (∀ vs, o ≠ .tup vs) ∧ NT o ∧ ∀ φ, o ≠ .ext φ
theorem Liv.ne {H : Hp} {b : Addr} (h : Liv H b) : H b ≠ none := by
  obtain ⟨o, e, _⟩ := h
  rw [e]
  exact fun z => nomatch z
theorem Liv.upd {H : Hp} {b l : Addr} {o : HO} (h : Liv H b) (n : b ≠ l) : Liv (upd H l o) b := by
  obtain ⟨u, e, q⟩ := h
  exact ⟨u, by rw [upd_ne n]; exact e, q⟩
theorem Liv.same {H H' : Hp} {b : Addr} (h : Liv H b) (s : SameW H H') : Liv H' b := by
  obtain ⟨u, e, q, n, x⟩ := h
  exact ⟨u, s.keep _ _ e n, q, n, x⟩
section
variable {M M' : Addr → Prop} {H H' H2 : Hp} {a b p l : Addr} {o o0 : HO}
theorem _root_.L2.Same.w (s : Same H H') : SameW H H' := ⟨fun b o e _ => s b o e, .same s⟩
instance {H H' : Hp} : Coe (Same H H') (SameW H H') := ⟨L2.Same.w⟩
theorem SameW.refl (H : Hp) : SameW H H := ⟨fun _ _ e _ => e, .refl H⟩
theorem SameW.trans (x : SameW H H') (y : SameW H' H2) : SameW H H2 := ⟨fun b o e n => y.keep b o (x.keep b o e n) n, x.tb.trans y.tb⟩
theorem new_sameW (h : H p = none) : SameW H (upd H p o) := (new_same h).w
/-- a thing that is no table and no code object is written -/
theorem tbk_upd (h : H l = some o0) (n : NT o0) (x : ∀ φ, o0 ≠ .ext φ) : TbK H (upd H l o) := fun P ps e => by
  have nl : ∀ b u, H b = some u → u ≠ o0 → b ≠ l := fun b u e ne z => ne (Option.some.inj ((z ▸ e).symm.trans h))
  have eP : ∀ qs, H P = some (.tbl qs) → upd H l o P = some (.tbl qs) := fun qs e => by rw [upd_ne (nl _ _ e fun z => n qs z.symm)]; exact e
  refine ⟨ps, eP _ e, fun t => ?_⟩
  obtain ⟨qs, h1, h2, h3⟩ := t
  refine ⟨qs, eP _ h1, h2, fun pos cv hc => ?_⟩
  obtain ⟨c, e1, e2⟩ := h3 pos cv hc
  exact ⟨c, e1, by rw [upd_ne (nl _ _ e2 fun z => x _ z.symm)]; exact e2⟩
theorem Liv.tbk (h : Liv H l) : TbK H (L2.upd H l o) := by
  obtain ⟨u, e, _, n, x⟩ := h
  exact tbk_upd e n x
theorem liv_of (h : H l = some o) (x : ∀ vs, o ≠ .tup vs := by exact fun _ z => nomatch z) (y : NT o := by exact fun _ z => nomatch z) (z : ∀ φ, o ≠ .ext φ := by exact fun _ z => nomatch z) : Liv H l := ⟨o, h, x, y, z⟩
theorem hide_in (h : M b) : hide M H b = none := by unfold hide; rw [if_pos h]
theorem hide_nt (h : ¬ M b) (n : ∀ ps, H b ≠ some (.tbl ps)) : hide M H b = H b := by
  unfold hide
  rw [if_neg h]
  split
  · rename_i ps e; exact absurd e (n ps)
  · rfl
/-- a thing that is not hidden -/
theorem hide_at (h : ¬ M b) (e : H b = some o) (n : NT o := by first | assumption | exact fun _ z => nomatch z) : hide M H b = some o := by rw [hide_nt h fun ps => nt_some n e]; exact e
theorem hide_tab (h : ¬ M b) (t : LamX.TabS H b lamQ) : hide M H b = some (.tbl #[]) := by
  obtain ⟨ps, e, _⟩ := id t
  unfold hide
  rw [if_neg h, e]
  simp only [if_pos t]
theorem hide_cases (h : hide M H b = some o) : ¬ M b ∧ ((NT o ∧ H b = some o) ∨ (o = .tbl #[] ∧ LamX.TabS H b lamQ)) := by
  by_cases e : M b
  · rw [hide_in e] at h; cases h
  · refine ⟨e, ?_⟩
    unfold hide at h
    rw [if_neg e] at h
    split at h
    · rename_i ps q
      split at h
      · rename_i t; exact .inr ⟨(Option.some.inj h).symm, t⟩
      · cases h
    · rename_i n
      exact .inl ⟨fun ps z => n ps (by rw [h, z]), h⟩
theorem hide_some (h : hide M H b = some o) (n : NT o := by first | assumption | exact fun _ z => nomatch z) : H b = some o ∧ ¬ M b := by
  obtain ⟨h1, h2⟩ := hide_cases h
  rcases h2 with ⟨_, q⟩ | ⟨q, _⟩
  · exact ⟨q, h1⟩
  · exact absurd q (n _)
theorem hide_no (h : hide M H b = some o) : ¬ M b := (hide_cases h).1
theorem hide_tabS (h : hide M H b = some (.tbl #[])) : ¬ M b ∧ LamX.TabS H b lamQ := by
  obtain ⟨h1, h2⟩ := hide_cases h
  rcases h2 with ⟨n, _⟩ | ⟨_, t⟩
  · exact absurd rfl (n _)
  · exact ⟨h1, t⟩
theorem hide_le (b : Addr) (o : HO) (h : hide M H b = some o) (n : NT o := by first | assumption | exact fun _ z => nomatch z) : H b = some o := (hide_some h n).1
/-- what is hidden after was hidden before -/
theorem hide_sub (k : ∀ b o, ¬ M b → H b = some o → NT o → H' b = some o) (tb : TbK H H') (m : ∀ b o, ¬ M b → H b = some o → ¬ M' b) : Same (hide M H) (hide M' H') := fun b o h => by
  obtain ⟨h1, h2⟩ := hide_cases h
  rcases h2 with ⟨n, q⟩ | ⟨rfl, t⟩
  · exact hide_at (m b o h1 q) (k b o h1 q n) n
  · obtain ⟨ps, e, _⟩ := id t
    exact hide_tab (m b _ h1 e) (tb.at t)
theorem hide_mono (s : SameW H H') (m : ∀ b, M' b → M b ∨ H b = none) : Same (hide M H) (hide M' H') := hide_sub (fun b o _ e n => s.keep b o e n) s.tb fun b o h e z => (m b z).elim h fun q => nomatch (q.symm.trans e)
theorem rd_le {u : HO} (h : Rd (hide M H) a u) (n : NT u := by first | assumption | exact fun _ z => nomatch z) : Rd H a u := h.imp (fun e => (hide_some e n).1) fun ⟨o, q⟩ => ⟨o, (hide_some q fun _ z => nomatch z).1⟩
theorem sqL_le {K : PySem.W.Frag} {xs : List V} (h : SqL K (hide M H) a xs) : SqL K H a xs := by
  exact h.imp (fun r => rd_le r) id
theorem sqT_le {K : PySem.W.Frag} {xs : List V} (h : SqT K (hide M H) a xs) : SqT K H a xs := by
  exact h.imp (fun r => rd_le r) id
end
theorem rd_mono {H H' : Hp} {a : Addr} {u : HO} (s : Same H H') (h : Rd H a u) : Rd H' a u := h.imp (s _ _) fun ⟨o, q⟩ => ⟨o, s _ _ q⟩
section
variable (K : PySem.W.Frag) (C : Nat → Addr) (M : Addr → Prop) (H : Hp)
mutual
/-- the value v is d in the heap H; F: what d owns, M: all that is owned -/
inductive Rep : V → D → List Addr → Prop
  | non : Rep .non .non []
  | bl (b : Bool) : Rep (.bl b) (.bl b) []
  | int (i : Int) : Rep (.int i) (.int i) []
  | str (s : Str) : Rep (.str s) (.str s) []
  | hole (v : V) : Rep v .hole []
  | exc : Rep (.ref (C 999)) .exc []
  | lst {a : Addr} {vs : List V} {ds : List D} {F : List Addr} (h : hide M H a = some (.lst vs)) (hF : F = []) (t : RepL vs ds F) : Rep (.ref a) (.lst false ds) F
  | scr {a : Addr} {ns : List Int} (h : SqL K (hide M H) a (ns.map V.int)) : Rep (.ref a) (.scr (ns.map D.int)) []
  | own {a : Addr} {vs : List V} {ds : List D} {F : List Addr} (h : H a = some (.lst vs)) (t : RepL vs ds F) : Rep (.ref a) (.lst true ds) (a :: F)
  | tup {a : Addr} {vs : List V} {ds : List D} {F : List Addr} (h : hide M H a = some (.tup vs)) (t : RepL vs ds F) : Rep (.ref a) (.tup ds) F
  | dKf {a : Addr} {ks : List Key} {vs : List V} {ds : List D} {F : List Addr} (h : hide M H a = some (.dK (ks.zip vs))) (hl : ks.length = vs.length) (hF : F = []) (t : RepL vs ds F) : Rep (.ref a) (.dK false ks ds) F
  | dKo {a : Addr} {ks : List Key} {vs : List V} {ds : List D} {F : List Addr} (h : H a = some (.dK (ks.zip vs))) (hl : ks.length = vs.length) (t : RepL vs ds F) : Rep (.ref a) (.dK true ks ds) (a :: F)
  | tK {a : Addr} {ks : List Key} {vs : List V} {ds : List D} {F : List Addr} (h : Rd (hide M H) a (.dK (ks.zip vs))) (hl : ks.length = vs.length) (hF : F = []) (t : RepL vs ds F) : Rep (.ref a) (.tK ks ds) F
  | dTf {a : Addr} {ks : List (List Key)} {vs : List V} {ds : List D} {F : List Addr} (h : Rd (hide M H) a (.dT (ks.zip vs))) (hl : ks.length = vs.length) (hF : F = []) (t : RepL vs ds F) : Rep (.ref a) (.dT false ks ds) F
  | dTo {a : Addr} {ks : List (List Key)} {vs : List V} {ds : List D} {F : List Addr} (h : H a = some (.dT (ks.zip vs))) (hl : ks.length = vs.length) (t : RepL vs ds F) : Rep (.ref a) (.dT true ks ds) (a :: F)
  | insF {a dx : Addr} {c : Nat} {ns : List Str} {vs : List V} {ds : List D} {F : List Addr} (h : hide M H a = some (.ins (C c) dx (ns.zip vs))) (hl : ns.length = vs.length) (hF : F = []) (t : RepL vs ds F) : Rep (.ref a) (.ins false c ns ds) F
  | insO {a dx : Addr} {c : Nat} {ns : List Str} {vs : List V} {ds : List D} {F : List Addr} (h : H a = some (.ins (C c) dx (ns.zip vs))) (hl : ns.length = vs.length) (t : RepL vs ds F) : Rep (.ref a) (.ins true c ns ds) (a :: F)
inductive RepL : List V → List D → List Addr → Prop
  | nil : RepL [] [] []
  | cons {v : V} {d : D} {vs : List V} {ds : List D} {F G : List Addr} (h : Rep v d F) (t : RepL vs ds G) : RepL (v :: vs) (d :: ds) (F ++ G)
end
/-- slots -/
inductive RepO : List (Option V) → Env → List Addr → Prop
  | nil : RepO [] [] []
  | gone {x : Option V} {σ : List (Option V)} {e : Env} {G : List Addr} (t : RepO σ e G) : RepO (x :: σ) (none :: e) G
  | have_ {v : V} {d : D} {σ : List (Option V)} {e : Env} {F G : List Addr} (h : Rep K C M H v d F) (t : RepO σ e G) : RepO (some v :: σ) (some d :: e) (F ++ G)
end
section
variable {K : PySem.W.Frag} {C : Nat → Addr} {M M' : Addr → Prop} {H H' : Hp} {a b p : Addr} {o : HO}
theorem sqL_hide {xs : List V} (s : Same (hide M H) (hide M' H')) (h : SqL K (hide M H) a xs) : SqL K (hide M' H') a xs := s.seq h
theorem sqT_hide {xs : List V} (s : Same (hide M H) (hide M' H')) (h : SqT K (hide M H) a xs) : SqT K (hide M' H') a xs := SqT.mono s h
mutual
theorem rep_mono (s : Same (hide M H) (hide M' H')) : ∀ {v : V} {d : D} {F : List Addr}, Rep K C M H v d F → (∀ b ∈ F, ∀ o, H b = some o → NT o → H' b = some o) → Rep K C M' H' v d F
  | _, _, _, .non, _ => .non
  | _, _, _, .bl b, _ => .bl b
  | _, _, _, .int i, _ => .int i
  | _, _, _, .str x, _ => .str x
  | _, _, _, .hole v, _ => .hole v
  | _, _, _, .exc, _ => .exc
  | _, _, _, .lst h e t, k => .lst (s _ _ h) e (repL_mono s t k)
  | _, _, _, .scr h, k => .scr (sqL_hide s h)
  | _, _, _, .own h t, k => .own (k _ (List.mem_cons_self ..) _ h fun _ z => nomatch z) (repL_mono s t fun b hb => k b (List.mem_cons_of_mem _ hb))
  | _, _, _, .tup h t, k => .tup (s _ _ h) (repL_mono s t k)
  | _, _, _, .dKf h l e t, k => .dKf (s _ _ h) l e (repL_mono s t k)
  | _, _, _, .dKo h l t, k => .dKo (k _ (List.mem_cons_self ..) _ h fun _ z => nomatch z) l (repL_mono s t fun b hb => k b (List.mem_cons_of_mem _ hb))
  | _, _, _, .tK h l e t, k => .tK (rd_mono s h) l e (repL_mono s t k)
  | _, _, _, .dTf h l e t, k => .dTf (rd_mono s h) l e (repL_mono s t k)
  | _, _, _, .dTo h l t, k => .dTo (k _ (List.mem_cons_self ..) _ h fun _ z => nomatch z) l (repL_mono s t fun b hb => k b (List.mem_cons_of_mem _ hb))
  | _, _, _, .insF h l e t, k => .insF (s _ _ h) l e (repL_mono s t k)
  | _, _, _, .insO h l t, k => .insO (k _ (List.mem_cons_self ..) _ h fun _ z => nomatch z) l (repL_mono s t fun b hb => k b (List.mem_cons_of_mem _ hb))
theorem repL_mono (s : Same (hide M H) (hide M' H')) : ∀ {vs : List V} {ds : List D} {F : List Addr}, RepL K C M H vs ds F → (∀ b ∈ F, ∀ o, H b = some o → NT o → H' b = some o) → RepL K C M' H' vs ds F
  | _, _, _, .nil, _ => .nil
  | _, _, _, .cons h t, k => .cons (rep_mono s h fun b hb => k b (List.mem_append_left _ hb)) (repL_mono s t fun b hb => k b (List.mem_append_right _ hb))
end
theorem repO_mono (s : Same (hide M H) (hide M' H')) : ∀ {σ : List (Option V)} {e : Env} {F : List Addr}, RepO K C M H σ e F → (∀ b ∈ F, ∀ o, H b = some o → NT o → H' b = some o) → RepO K C M' H' σ e F
  | _, _, _, .nil, _ => .nil
  | _, _, _, .gone t, k => .gone (repO_mono s t k)
  | _, _, _, .have_ h t, k => .have_ (rep_mono s h fun b hb => k b (List.mem_append_left _ hb)) (repO_mono s t fun b hb => k b (List.mem_append_right _ hb))
mutual
theorem rep_alive : ∀ {v : V} {d : D} {F : List Addr}, Rep K C M H v d F → ∀ b ∈ F, Liv H b
  | _, _, _, .non, _, hb => by cases hb
  | _, _, _, .bl _, _, hb => by cases hb
  | _, _, _, .int _, _, hb => by cases hb
  | _, _, _, .str _, _, hb => by cases hb
  | _, _, _, .hole _, _, hb => by cases hb
  | _, _, _, .exc, _, hb => by cases hb
  | _, _, _, .lst _ _ t, b, hb => repL_alive t b hb
  | _, _, _, .scr _, _, hb => by cases hb
  | _, _, _, .own h t, b, hb => by
    rcases List.mem_cons.mp hb with rfl | q
    · exact ⟨_, h, (fun _ z => nomatch z), (fun _ z => nomatch z), fun _ z => nomatch z⟩
    · exact repL_alive t b q
  | _, _, _, .tup _ t, b, hb => repL_alive t b hb
  | _, _, _, .dKf _ _ _ t, b, hb => repL_alive t b hb
  | _, _, _, .dKo h _ t, b, hb => by
    rcases List.mem_cons.mp hb with rfl | q
    · exact ⟨_, h, (fun _ z => nomatch z), (fun _ z => nomatch z), fun _ z => nomatch z⟩
    · exact repL_alive t b q
  | _, _, _, .tK _ _ _ t, b, hb => repL_alive t b hb
  | _, _, _, .dTf _ _ _ t, b, hb => repL_alive t b hb
  | _, _, _, .dTo h _ t, b, hb => by
    rcases List.mem_cons.mp hb with rfl | q
    · exact ⟨_, h, (fun _ z => nomatch z), (fun _ z => nomatch z), fun _ z => nomatch z⟩
    · exact repL_alive t b q
  | _, _, _, .insF _ _ _ t, b, hb => repL_alive t b hb
  | _, _, _, .insO h _ t, b, hb => by
    rcases List.mem_cons.mp hb with rfl | q
    · exact ⟨_, h, (fun _ z => nomatch z), (fun _ z => nomatch z), fun _ z => nomatch z⟩
    · exact repL_alive t b q
theorem repL_alive : ∀ {vs : List V} {ds : List D} {F : List Addr}, RepL K C M H vs ds F → ∀ b ∈ F, Liv H b
  | _, _, _, .nil, _, hb => by cases hb
  | _, _, _, .cons h t, b, hb => (List.mem_append.mp hb).elim (rep_alive h b) (repL_alive t b)
end
theorem repO_alive : ∀ {σ : List (Option V)} {e : Env} {F : List Addr}, RepO K C M H σ e F → ∀ b ∈ F, Liv H b
  | _, _, _, .nil, _, hb => by cases hb
  | _, _, _, .gone t, b, hb => repO_alive t b hb
  | _, _, _, .have_ h t, b, hb => (List.mem_append.mp hb).elim (rep_alive h b) (repO_alive t b)
theorem RepL.length : ∀ {vs : List V} {ds : List D} {F : List Addr}, RepL K C M H vs ds F → vs.length = ds.length
  | _, _, _, .nil => rfl
  | _, _, _, .cons _ t => congrArg Nat.succ t.length
theorem RepO.length : ∀ {σ : List (Option V)} {e : Env} {F : List Addr}, RepO K C M H σ e F → σ.length = e.length
  | _, _, _, .nil => rfl
  | _, _, _, .gone t => congrArg Nat.succ t.length
  | _, _, _, .have_ _ t => congrArg Nat.succ t.length
mutual
/-- M' is M without F: what was owned is data from now on -/
theorem rep_fz (m : ∀ b, M' b → M b) : ∀ {v : V} {d : D} {F : List Addr}, Rep K C M H v d F → (∀ b ∈ F, ¬ M' b) → Rep K C M' H v d.fz []
  | _, _, _, .non, _ => .non
  | _, _, _, .bl b, _ => .bl b
  | _, _, _, .int i, _ => .int i
  | _, _, _, .str x, _ => .str x
  | _, _, _, .hole v, _ => .hole v
  | _, _, _, .exc, _ => .exc
  | _, _, _, .lst h _ t, k => .lst (hide_mono (.refl _) (fun b z => .inl (m b z)) _ _ h) rfl (repL_fz m t k)
  | _, _, _, .scr h, _ => .scr (sqL_hide (hide_mono (.refl _) fun b z => .inl (m b z)) h)
  | _, _, _, .own h t, k => .lst (hide_at (k _ (List.mem_cons_self ..)) h) rfl (repL_fz m t fun b hb => k b (List.mem_cons_of_mem _ hb))
  | _, _, _, .tup h t, k => .tup (hide_mono (.refl _) (fun b z => .inl (m b z)) _ _ h) (repL_fz m t k)
  | _, _, _, .dKf h l _ t, k => .dKf (hide_mono (.refl _) (fun b z => .inl (m b z)) _ _ h) l rfl (repL_fz m t k)
  | _, _, _, .dKo h l t, k => .dKf (hide_at (k _ (List.mem_cons_self ..)) h) l rfl (repL_fz m t fun b hb => k b (List.mem_cons_of_mem _ hb))
  | _, _, _, .tK h l _ t, k => .tK (rd_mono (hide_mono (.refl _) fun b z => .inl (m b z)) h) l rfl (repL_fz m t k)
  | _, _, _, .dTf h l _ t, k => .dTf (rd_mono (hide_mono (.refl _) fun b z => .inl (m b z)) h) l rfl (repL_fz m t k)
  | _, _, _, .dTo h l t, k => .dTf (.inl (hide_at (k _ (List.mem_cons_self ..)) h)) l rfl (repL_fz m t fun b hb => k b (List.mem_cons_of_mem _ hb))
  | _, _, _, .insF h l _ t, k => .insF (hide_mono (.refl _) (fun b z => .inl (m b z)) _ _ h) l rfl (repL_fz m t k)
  | _, _, _, .insO h l t, k => .insF (hide_at (k _ (List.mem_cons_self ..)) h) l rfl (repL_fz m t fun b hb => k b (List.mem_cons_of_mem _ hb))
theorem repL_fz (m : ∀ b, M' b → M b) : ∀ {vs : List V} {ds : List D} {F : List Addr}, RepL K C M H vs ds F → (∀ b ∈ F, ¬ M' b) → RepL K C M' H vs (D.fzL ds) []
  | _, _, _, .nil, _ => .nil
  | _, _, _, .cons h t, k => .cons (F := []) (G := []) (rep_fz m h fun b hb => k b (List.mem_append_left _ hb)) (repL_fz m t fun b hb => k b (List.mem_append_right _ hb))
end
mutual
theorem fz_noOwn : ∀ {v : V} {d : D} {F : List Addr}, Rep K C M H v d F → d.noOwn = true → F = [] ∧ d.fz = d
  | _, _, _, .non, _ => ⟨rfl, rfl⟩
  | _, _, _, .bl _, _ => ⟨rfl, rfl⟩
  | _, _, _, .int _, _ => ⟨rfl, rfl⟩
  | _, _, _, .str _, _ => ⟨rfl, rfl⟩
  | _, _, _, .hole _, _ => ⟨rfl, rfl⟩
  | _, _, _, .exc, _ => ⟨rfl, rfl⟩
  | _, _, _, .lst _ _ t, h => by
    simp only [D.noOwn, Bool.not_false, Bool.true_and] at h
    obtain ⟨e1, e2⟩ := fz_noOwnL t h
    exact ⟨e1, by rw [D.fz, e2]⟩
  | _, _, _, .own _ _, h => by simp [D.noOwn] at h
  | _, _, _, .scr _, _ => ⟨rfl, rfl⟩
  | _, _, _, .tup _ t, h => by
    simp only [D.noOwn] at h
    obtain ⟨e1, e2⟩ := fz_noOwnL t h
    exact ⟨e1, by rw [D.fz, e2]⟩
  | _, _, _, .dKf _ _ _ t, h => by
    simp only [D.noOwn, Bool.not_false, Bool.true_and] at h
    obtain ⟨e1, e2⟩ := fz_noOwnL t h
    exact ⟨e1, by rw [D.fz, e2]⟩
  | _, _, _, .dKo _ _ _, h => by simp [D.noOwn] at h
  | _, _, _, .tK _ _ _ t, h => by
    simp only [D.noOwn] at h
    obtain ⟨e1, e2⟩ := fz_noOwnL t h
    exact ⟨e1, by rw [D.fz, e2]⟩
  | _, _, _, .dTf _ _ _ t, h => by
    simp only [D.noOwn, Bool.not_false, Bool.true_and] at h
    obtain ⟨e1, e2⟩ := fz_noOwnL t h
    exact ⟨e1, by rw [D.fz, e2]⟩
  | _, _, _, .dTo _ _ _, h => by simp [D.noOwn] at h
  | _, _, _, .insF _ _ _ t, h => by
    simp only [D.noOwn, Bool.not_false, Bool.true_and] at h
    obtain ⟨e1, e2⟩ := fz_noOwnL t h
    exact ⟨e1, by rw [D.fz, e2]⟩
  | _, _, _, .insO _ _ _, h => by simp [D.noOwn] at h
theorem fz_noOwnL : ∀ {vs : List V} {ds : List D} {F : List Addr}, RepL K C M H vs ds F → D.noOwnL ds = true → F = [] ∧ D.fzL ds = ds
  | _, _, _, .nil, _ => ⟨rfl, rfl⟩
  | _, _, _, .cons h t, q => by
    simp only [D.noOwnL, Bool.and_eq_true] at q
    obtain ⟨e1, e2⟩ := fz_noOwn h q.1
    obtain ⟨e3, e4⟩ := fz_noOwnL t q.2
    exact ⟨by rw [e1, e3]; rfl, by rw [D.fzL, e2, e4]⟩
end
end
/-- owned beside M0 -/
def orF (M0 : Addr → Prop) (F : List Addr) : Addr → Prop := fun b => M0 b ∨ b ∈ F
theorem orF_app {M0 : Addr → Prop} {F G : List Addr} : orF (orF M0 F) G = orF M0 (F ++ G) := by
  funext b; simp [orF, or_assoc]
/-- an exception that a suite holds: its object a, its class c, its own dict dd with the fields ds -/
structure ZT where
  a : Addr
  c : Nat
  dd : Addr
  ns : List Str
  vs : List V
  ds : List D
/-- where the classes stand; the exception that is held -/
structure CT where
  cl : Nat → Addr
  z : Option ZT := none
  t : List Addr := []
instance : CoeFun CT (fun _ => Nat → Addr) := ⟨CT.cl⟩
instance : Coe CT (Nat → Addr) := ⟨CT.cl⟩
def Zd (K : PySem.W.Frag) (C : CT) (M : Addr → Prop) (H : Hp) : Prop := (∀ z, C.z = some z → hide M H z.dd = some (.xd (z.ns.zip z.vs)) ∧ z.ns.length = z.vs.length ∧ RepL K C M H z.vs z.ds []) ∧ ∀ p ∈ C.t, hide M H p = some (.tbl #[])
theorem Zd.mono {K : PySem.W.Frag} {C : CT} {M M' : Addr → Prop} {H H' : Hp} (z : Zd K C M H) (s : Same (hide M H) (hide M' H')) : Zd K C M' H' := ⟨fun y hy => by
  obtain ⟨h1, h2, h3⟩ := z.1 y hy
  exact ⟨s _ _ h1, h2, repL_mono s h3 fun _ hb => absurd hb List.not_mem_nil⟩, fun p hp => s _ _ (z.2 p hp)⟩
/-- the slots σ hold the environment env in the heap H, F is what they own, M0 what is owned elsewhere -/
structure Rel (K : PySem.W.Frag) (C : CT) (M0 : Addr → Prop) (H : Hp) (σ : List (Option V)) (env : Env) (F : List Addr) : Prop where
  rep : RepO K C (orF M0 F) H σ env F
  nd : F.Nodup
  dj : ∀ b ∈ F, ¬ M0 b
  al : ∀ b, M0 b → Liv H b
  zd : Zd K C (orF M0 F) H
/-- what an evaluation may do: it writes what is owned, and makes new things -/
structure Stp (F : List Addr) (H : Hp) (F' : List Addr) (H' : Hp) : Prop where
  keep : ∀ b o, b ∉ F → H b = some o → (n : NT o := by first | assumption | exact fun _ z => nomatch z) → H' b = some o
  new : ∀ b ∈ F', b ∈ F ∨ H b = none
  tb : TbK H H'
section
variable {K : PySem.W.Frag} {C : CT} {M0 : Addr → Prop} {H H' H2 : Hp} {σ σ' : List (Option V)} {env env' : Env} {F F' F1 F2 G : List Addr} {v : V} {d : D} {p : Addr} {o : HO}
theorem Stp.refl : Stp F H F H := ⟨fun _ _ _ e _ => e, fun _ h => .inl h, .refl H⟩
theorem Stp.sub (h : ∀ b ∈ F', b ∈ F) : Stp F H F' H := ⟨fun _ _ _ e _ => e, fun b hb => .inl (h b hb), .refl H⟩
theorem Stp.trans (x : Stp F H F1 H') (y : Stp F1 H' F2 H2) : Stp F H F2 H2 where
  keep := fun b o n e t => by
    refine y.keep b o (fun z => ?_) (x.keep b o n e)
    rcases x.new b z with q | q
    · exact n q
    · rw [e] at q; cases q
  new := fun b hb => by
    rcases y.new b hb with z | z
    · exact x.new b z
    · by_cases n : b ∈ F
      · exact .inl n
      · cases q : H b with
        | none => exact .inr rfl
        | some o =>
          by_cases t : NT o
          · rw [x.keep b o n q] at z; cases z
          · have t2 : ∃ ps, o = .tbl ps := Classical.byContradiction fun w => t fun ps e => w ⟨ps, e⟩
            obtain ⟨ps, rfl⟩ := t2
            obtain ⟨ps', e, _⟩ := x.tb b ps q
            rw [e] at z; cases z
  tb := x.tb.trans y.tb
theorem Stp.same (s : SameW H H') (h : ∀ b ∈ F', b ∈ F ∨ H b = none) : Stp F H F' H' := ⟨fun b o _ e _ => s.keep b o e, h, s.tb⟩
/-- nothing was owned: all stays -/
theorem Stp.w (s : Stp [] H F' H') : SameW H H' := ⟨fun b o q _ => s.keep b o (fun z => nomatch z) q, s.tb⟩
/-- what an evaluation leaves of data and of what others own -/
theorem Stp.hide (x : Stp F2 H F' H') (dj : ∀ b ∈ F2, ¬ M0 b) : Same (hide (orF M0 F2) H) (J.hide (orF M0 F') H') :=
  hide_sub (fun b o h2 h1 _ => x.keep b o (fun z => h2 (.inr z)) h1) x.tb fun b o h2 h1 z => by
    rcases z with z | z
    · exact h2 (.inl z)
    · rcases x.new b z with q | q
      · exact h2 (.inr q)
      · rw [h1] at q; cases q
/-- a value on top of the slots is put aside -/
theorem Rel.pop (r : Rel K C M0 H (some v :: σ) (some d :: env) F) : ∃ F1 F2, F = F1 ++ F2 ∧ Rep K C (orF M0 F) H v d F1 ∧ Rel K C (orF M0 F1) H σ env F2 := by
  obtain ⟨rep, nd, dj, al, zd⟩ := r
  cases rep with
  | have_ h t =>
    rename_i F1 F2
    rw [List.nodup_append] at nd
    refine ⟨F1, F2, rfl, h, ⟨by rw [orF_app]; exact t, nd.2.1, fun b hb z => ?_, fun b z => ?_, by rw [orF_app]; exact zd⟩⟩
    · rcases z with z | z
      · exact dj b (List.mem_append_right _ hb) z
      · exact nd.2.2 b z b hb rfl
    · rcases z with z | z
      · exact al b z
      · exact rep_alive h b z
theorem Rel.push (h : Rep K C (orF M0 (F1 ++ F2)) H v d F1) (r : Rel K C (orF M0 F1) H σ env F2) (nd : F1.Nodup) (dj : ∀ b ∈ F1, ¬ M0 b) : Rel K C M0 H (some v :: σ) (some d :: env) (F1 ++ F2) := by
  have rr := r.rep
  rw [orF_app] at rr
  refine ⟨.have_ h rr, List.nodup_append.mpr ⟨nd, r.nd, fun a ha b hb e => r.dj b hb (.inr (e ▸ ha))⟩, fun b hb z => ?_, fun b z => r.al b (.inl z), by have := r.zd; rw [orF_app] at this; exact this⟩
  rcases List.mem_append.mp hb with q | q
  · exact dj b q z
  · exact r.dj b q (.inl z)
/-- behind an evaluation of what is left -/
theorem Rel.back (r : Rel K C M0 H (some v :: σ) (some d :: env) F) (F1 F2 : List Addr) (eF : F = F1 ++ F2) (h : Rep K C (orF M0 F) H v d F1) (r2 : Rel K C (orF M0 F1) H' σ' env' F') (s : Stp F2 H F' H') :
    Rel K C M0 H' (some v :: σ') (some d :: env') (F1 ++ F') ∧ Stp F H (F1 ++ F') H' := by
  subst eF
  have nd := r.nd
  rw [List.nodup_append] at nd
  have k1 : ∀ b ∈ F1, ∀ o, H b = some o → NT o → H' b = some o := fun b hb o e _ => s.keep b o (fun z => nd.2.2 b hb b z rfl) e
  refine ⟨Rel.push (rep_mono ?_ h k1) r2 nd.1 fun b hb => r.dj b (List.mem_append_left _ hb), ⟨fun b o n e _ => s.keep b o (fun z => n (List.mem_append_right _ z)) e, fun b hb => ?_, s.tb⟩⟩
  · rw [← orF_app, ← orF_app]
    refine Stp.hide s fun b hb z => ?_
    rcases z with z | z
    · exact r.dj b (List.mem_append_right _ hb) z
    · exact nd.2.2 b z b hb rfl
  · rcases List.mem_append.mp hb with q | q
    · exact .inl (List.mem_append_left _ q)
    · exact (s.new b q).imp (List.mem_append_right _) id
/-- M0 alone, F less -/
theorem Rel.mono_ (rep : RepO K C (orF M0 F) H σ env F') (nd : F.Nodup) (sub : F'.Sublist F) (dj : ∀ b ∈ F, ¬ M0 b) (al : ∀ b, M0 b → Liv H b) (zd : Zd K C (orF M0 F) H) : Rel K C M0 H σ env F' := by
  have hm : Same (hide (orF M0 F) H) (hide (orF M0 F') H) := hide_mono (.refl _) fun b z => .inl (z.imp id fun q => sub.subset q)
  refine ⟨repO_mono hm rep fun _ _ _ e _ => e, nd.sublist sub, fun b hb => dj b (sub.subset hb), al, zd.mono hm⟩
/-- a value on top is thrown away -/
theorem Rel.drop {x : Option V} {y : Option D} (r : Rel K C M0 H (x :: σ) (y :: env) F) : ∃ F', Rel K C M0 H σ env F' ∧ F'.Sublist F := by
  obtain ⟨rep, nd, dj, al, zd⟩ := r
  cases rep with
  | gone t => exact ⟨F, ⟨t, nd, dj, al, zd⟩, .refl _⟩
  | have_ h t =>
    rename_i F1 F2
    exact ⟨F2, .mono_ t nd (List.sublist_append_right ..) dj al zd, List.sublist_append_right ..⟩
theorem Stp.subl (h : F'.Sublist F) : Stp F H F' H := .sub fun _ z => h.subset z
/-- data on top -/
theorem Rel.data (r : Rel K C M0 H σ env F) (h : Rep K C (orF M0 F) H v d []) : Rel K C M0 H (some v :: σ) (some d :: env) F := ⟨.have_ h r.rep, r.nd, r.dj, r.al, r.zd⟩
/-- the value on top is data from now on -/
theorem Rel.fz (r : Rel K C M0 H (some v :: σ) (some d :: env) F) : ∃ F', Rel K C M0 H (some v :: σ) (some d.fz :: env) F' ∧ F'.Sublist F := by
  obtain ⟨rep, nd, dj, al, zd⟩ := r
  cases rep with
  | have_ h t =>
    rename_i F1 F2
    have nd' := List.nodup_append.mp nd
    refine ⟨F2, Rel.data (.mono_ t nd (List.sublist_append_right ..) dj al zd) (rep_fz (fun b z => z.imp id fun q => List.mem_append_right _ q) h fun b hb z => ?_), List.sublist_append_right ..⟩
    rcases z with z | z
    · exact dj b (List.mem_append_left _ hb) z
    · exact nd'.2.2 b hb b z rfl
/-- a new owned object on top -/
theorem Rel.new {x : D} (r : Rel K C M0 H σ env F) (np : H p = none) (h : ∀ M', (∀ b, M' b → orF M0 F b ∨ b = p) → Rep K C M' (upd H p o) (.ref p) x [p]) : Rel K C M0 (upd H p o) (some (.ref p) :: σ) (some x :: env) (p :: F) ∧ Stp F H (p :: F) (upd H p o) := by
  have nF : p ∉ F := fun z => (repO_alive r.rep p z).ne np
  have nM : ¬ M0 p := fun z => (r.al p z).ne np
  have hm : Same (hide (orF M0 F) H) (hide (orF M0 (p :: F)) (upd H p o)) := hide_mono (new_sameW np) fun b z => by
    rcases z with z | z
    · exact .inl (.inl z)
    · exact (List.mem_cons.mp z).elim (fun q => .inr (by rw [q]; exact np)) fun q => .inl (.inr q)
  refine ⟨⟨.have_ (F := [p]) (G := F) (h _ fun b z => ?_) (repO_mono hm r.rep fun b _ o e _ => new_same np b o e), ?_, ?_, fun b z => (r.al b z).same (new_sameW np), r.zd.mono hm⟩, .same (new_sameW np) fun b hb => ?_⟩
  · rcases z with z | z
    · exact .inl (.inl z)
    · exact (List.mem_cons.mp z).elim .inr fun q => .inl (.inr q)
  · exact List.nodup_cons.mpr ⟨nF, r.nd⟩
  · intro b hb
    rcases List.mem_cons.mp hb with q | q
    · rw [q]; exact nM
    · exact r.dj b q
  · rcases List.mem_cons.mp hb with q | q
    · exact .inr (by rw [q]; exact np)
    · exact .inl q
/-- the heap grows -/
theorem Rel.growW (r : Rel K C M0 H σ env F) (s : SameW H H') : Rel K C M0 H' σ env F := by
  refine ⟨repO_mono (hide_mono s fun b z => .inl z) r.rep fun b _ o e n => s.keep b o e n, r.nd, r.dj, fun b z => (r.al b z).same s, r.zd.mono (hide_mono s fun b z => .inl z)⟩
theorem Rel.grow (r : Rel K C M0 H σ env F) (s : Same H H') : Rel K C M0 H' σ env F := r.growW s.w
/-! slots -/
theorem RepO.at (r : RepO K C M0 H σ env F) : ∀ {i : Nat} {d : D}, env[i]? = some (some d) → ∃ v G F1 F2, σ[i]? = some (some v) ∧ Rep K C M0 H v d G ∧ F = F1 ++ (G ++ F2) ∧ (∀ x, RepO K C M0 H (σ.set i x) (env.set i none) (F1 ++ F2)) := by
  induction r with
  | nil => intro i d h; simp at h
  | gone t ih =>
    rename_i x σ' e' G'
    intro i d h
    cases i with
    | zero => simp at h
    | succ i =>
      obtain ⟨v, G, F1, F2, h1, h2, h3, h4⟩ := ih (i := i) (by simpa using h)
      exact ⟨v, G, F1, F2, by simpa using h1, h2, h3, fun x => .gone (h4 x)⟩
  | have_ h t ih =>
    rename_i v' d' σ' e' F' G'
    intro i d hh
    cases i with
    | zero =>
      have e : d' = d := by simpa using hh
      subst e
      exact ⟨v', F', [], G', by simp, h, rfl, fun x => .gone t⟩
    | succ i =>
      obtain ⟨v, G, F1, F2, h1, h2, h3, h4⟩ := ih (i := i) (by simpa using hh)
      exact ⟨v, G, F' ++ F1, F2, by simpa using h1, h2, by rw [h3]; simp, fun x => by rw [List.append_assoc]; exact .have_ h (h4 x)⟩
/-- any slot may be forgotten -/
theorem RepO.forget (r : RepO K C M0 H σ env F) (i : Nat) (x : Option V) : ∃ F', RepO K C M0 H (σ.set i x) (env.set i none) F' ∧ F'.Sublist F := by
  by_cases h : i < env.length
  · cases e : env[i]? with
    | none => rw [List.getElem?_eq_none_iff] at e; omega
    | some y =>
      cases y with
      | none =>
        clear h
        induction r generalizing i with
        | nil => simp at e
        | gone t ih =>
          cases i with
          | zero => exact ⟨_, .gone t, .refl _⟩
          | succ i =>
            obtain ⟨F', h1, h2⟩ := ih i (by simpa using e)
            exact ⟨F', .gone h1, h2⟩
        | have_ h t ih =>
          cases i with
          | zero => simp at e
          | succ i =>
            obtain ⟨F', h1, h2⟩ := ih i (by simpa using e)
            exact ⟨_, .have_ h h1, h2.append_left _⟩
      | some d =>
        obtain ⟨v, G, F1, F2, _, _, eF, h4⟩ := r.at e
        exact ⟨F1 ++ F2, h4 x, by rw [eF]; exact (List.sublist_append_right G F2).append_left F1⟩
  · rw [List.set_eq_of_length_le (by rw [r.length]; omega), List.set_eq_of_length_le (by omega)]
    exact ⟨F, r, .refl _⟩
/-- a forgotten slot is filled -/
theorem RepO.fill {i : Nat} (r : RepO K C M0 H σ env F) (hσ : σ[i]? = some (some v)) (he : env[i]? = some none) (h : Rep K C M0 H v d G) : ∃ F1 F2, F = F1 ++ F2 ∧ RepO K C M0 H σ (env.set i (some d)) (F1 ++ (G ++ F2)) := by
  induction r generalizing i with
  | nil => simp at he
  | gone t ih =>
    rename_i x0 σ' e' G'
    cases i with
    | zero =>
      simp only [List.getElem?_cons_zero, Option.some.injEq] at hσ
      subst hσ
      refine ⟨[], G', rfl, ?_⟩
      have hh := RepO.have_ h t
      exact hh
    | succ i =>
      obtain ⟨F1, F2, e, q⟩ := ih (i := i) (by simpa using hσ) (by simpa using he)
      exact ⟨F1, F2, e, .gone q⟩
  | have_ h' t ih =>
    rename_i v' d' σ' e' F' G'
    cases i with
    | zero => simp at he
    | succ i =>
      obtain ⟨F1, F2, e, q⟩ := ih (i := i) (by simpa using hσ) (by simpa using he)
      exact ⟨F' ++ F1, F2, by rw [e, List.append_assoc], by rw [List.append_assoc]; exact .have_ h' q⟩
theorem nodup_mid {α : Type} {F1 F2 G : List α} (h : (G ++ (F1 ++ F2)).Nodup) : (F1 ++ (G ++ F2)).Nodup := by
  rw [List.nodup_append] at h
  obtain ⟨h1, h2, h3⟩ := h
  rw [List.nodup_append] at h2
  obtain ⟨h4, h5, h6⟩ := h2
  rw [List.nodup_append, List.nodup_append]
  refine ⟨h4, ⟨h1, h5, fun a ha b hb => h3 a ha b (List.mem_append_right _ hb)⟩, fun a ha b hb => ?_⟩
  rcases List.mem_append.mp hb with q | q
  · exact fun e => h3 b q a (List.mem_append_left _ ha) e.symm
  · exact h6 a ha b q
theorem orF_mid {M0 : Addr → Prop} {F1 F2 G : List Addr} : orF M0 (F1 ++ (G ++ F2)) = orF M0 (G ++ (F1 ++ F2)) := by
  funext b; simp only [orF, List.mem_append]; exact propext ⟨fun h => by rcases h with h | h | h | h <;> simp [h], fun h => by rcases h with h | h | h | h <;> simp [h]⟩
/-- the value on top is stored at slot i -/
theorem Rel.store {i : Nat} (r : Rel K C M0 H (some v :: σ) (some d :: env) F) (hi : i < env.length) : ∃ F', Rel K C M0 H (σ.set i (some v)) (env.set i (some d)) F' ∧ ∀ b ∈ F', b ∈ F := by
  obtain ⟨rep, nd, dj, al, zd⟩ := r
  cases rep with
  | have_ h t =>
    rename_i G F2
    have lσ : i < σ.length := by rw [t.length]; exact hi
    obtain ⟨F3, t3, sub⟩ := t.forget i (some v)
    obtain ⟨F4, F5, e, q⟩ := t3.fill (i := i) (by simp [lσ]) (by simp [hi]) h
    rw [List.set_set] at q
    subst e
    have nd2 : (G ++ (F4 ++ F5)).Nodup := nd.sublist (sub.append_left G)
    have mem : ∀ b ∈ F4 ++ (G ++ F5), b ∈ G ++ F2 := fun b hb => by
      have : b ∈ G ++ (F4 ++ F5) := by simp only [List.mem_append] at hb ⊢; rcases hb with h | h | h <;> simp [h]
      exact (sub.append_left G).subset this
    have hm : Same (hide (orF M0 (G ++ F2)) H) (hide (orF M0 (F4 ++ (G ++ F5))) H) := hide_mono (.refl _) fun b z => .inl (z.imp id (mem b))
    refine ⟨F4 ++ (G ++ F5), ⟨repO_mono hm q fun _ _ _ e _ => e, nodup_mid nd2, fun b hb => dj b (mem b hb), al, zd.mono hm⟩, mem⟩
/-- the value of slot i, taken out of it -/
theorem Rel.take {i : Nat} (r : Rel K C M0 H σ env F) (he : env[i]? = some (some d)) : ∃ v F', σ[i]? = some (some v) ∧ Rel K C M0 H (some v :: σ) (some d :: env.set i none) F' ∧ ∀ b ∈ F', b ∈ F := by
  obtain ⟨rep, nd, dj, al, zd⟩ := r
  obtain ⟨v, G, F1, F2, hσ, h, eF, q⟩ := rep.at he
  have q := q (some v)
  have lσ : i < σ.length := by
    rcases Nat.lt_or_ge i σ.length with l | l
    · exact l
    · rw [List.getElem?_eq_none l] at hσ; cases hσ
  have es : σ.set i (some v) = σ := by
    rw [List.getElem?_eq_getElem lσ] at hσ
    have := Option.some.inj hσ
    conv => lhs; rw [← this]
    exact List.set_getElem_self lσ
  rw [es] at q
  subst eF
  refine ⟨v, G ++ (F1 ++ F2), hσ, ⟨.have_ (by rw [← orF_mid]; exact h) (by rw [← orF_mid]; exact q), ?_, fun b hb => dj b ?_, al, by rw [← orF_mid]; exact zd⟩, fun b hb => ?_⟩
  · have := nodup_mid (F1 := G) (F2 := F2) (G := F1) nd
    exact this
  · simp only [List.mem_append] at hb ⊢; rcases hb with h | h | h <;> simp [h]
  · simp only [List.mem_append] at hb ⊢; rcases hb with h | h | h <;> simp [h]
/-- put back to slot i, where it comes from -/
theorem Rel.put {i : Nat} (r : Rel K C M0 H (some v :: σ) (some d :: env) F) (hσ : σ[i]? = some (some v)) : ∃ F', Rel K C M0 H σ (env.set i (some d)) F' ∧ ∀ b ∈ F', b ∈ F := by
  have lσ : i < σ.length := by
    rcases Nat.lt_or_ge i σ.length with l | l
    · exact l
    · rw [List.getElem?_eq_none l] at hσ; cases hσ
  have le : i < env.length := by
    have := r.rep.length
    simp only [List.length_cons, Nat.succ.injEq] at this
    omega
  obtain ⟨F', h1, h2⟩ := r.store le
  have es : σ.set i (some v) = σ := by
    rw [List.getElem?_eq_getElem lσ] at hσ
    have := Option.some.inj hσ
    conv => lhs; rw [← this]
    exact List.set_getElem_self lσ
  rw [es] at h1
  exact ⟨F', h1, h2⟩
/-- data on top stand twice -/
theorem Rel.dup (r : Rel K C M0 H (some v :: σ) (some d.fz :: env) F) : ∃ F', Rel K C M0 H (some v :: some v :: σ) (some d.fz :: some d.fz :: env) F' ∧ ∀ b ∈ F', b ∈ F := by
  obtain ⟨F', r', sub⟩ := r.fz
  have idem : d.fz.fz = d.fz := fz_fz d
  rw [idem] at r'
  have rr := r'.rep
  cases rr with
  | have_ h t =>
    rename_i F1 F2
    have hn : d.fz.noOwn = true := noOwn_fz d
    obtain ⟨e1, _⟩ := fz_noOwn h hn
    subst e1
    exact ⟨_, Rel.data r' h, fun b hb => sub.subset hb⟩
where
  fz_fz : ∀ d : D, d.fz.fz = d.fz := fz_fz'
  noOwn_fz : ∀ d : D, d.fz.noOwn = true := noOwn_fz'
  fz_fz' : ∀ d : D, d.fz.fz = d.fz
    | .non => rfl | .bl _ => rfl | .int _ => rfl | .str _ => rfl | .scr _ => rfl | .hole => rfl | .exc => rfl
    | .lst _ xs => by simp only [D.fz, fzL_fzL xs]
    | .tup xs => by simp only [D.fz, fzL_fzL xs]
    | .dK _ _ xs => by simp only [D.fz, fzL_fzL xs]
    | .tK _ xs => by simp only [D.fz, fzL_fzL xs]
    | .dT _ _ xs => by simp only [D.fz, fzL_fzL xs]
    | .ins _ _ _ xs => by simp only [D.fz, fzL_fzL xs]
  fzL_fzL : ∀ ds : List D, D.fzL (D.fzL ds) = D.fzL ds
    | [] => rfl
    | d :: ds => by simp only [D.fzL, fz_fz' d, fzL_fzL ds]
  noOwn_fz' : ∀ d : D, d.fz.noOwn = true
    | .non => rfl | .bl _ => rfl | .int _ => rfl | .str _ => rfl | .scr _ => rfl | .hole => rfl | .exc => rfl
    | .lst _ xs => by simp only [D.fz, D.noOwn, noOwnL_fzL xs]; rfl
    | .tup xs => by simp only [D.fz, D.noOwn, noOwnL_fzL xs]
    | .dK _ _ xs => by simp only [D.fz, D.noOwn, noOwnL_fzL xs]; rfl
    | .tK _ xs => by simp only [D.fz, D.noOwn, noOwnL_fzL xs]
    | .dT _ _ xs => by simp only [D.fz, D.noOwn, noOwnL_fzL xs]; rfl
    | .ins _ _ _ xs => by simp only [D.fz, D.noOwn, noOwnL_fzL xs]; rfl
  noOwnL_fzL : ∀ ds : List D, D.noOwnL (D.fzL ds) = true
    | [] => rfl
    | d :: ds => by simp only [D.fzL, D.noOwnL, noOwn_fz' d, noOwnL_fzL ds]; rfl
end
end J
/-! What a piece of syntax does to pure values: readings of expressions, arguments, tests, statements by pure functions; defs called. -/
namespace J
open PySem L2 PySem.Spec PyProof.Rows
abbrev Wish := L2.St → XK
section
variable (K : PySem.W.Frag) (C : CT) (W : Wish)
/-- an exception of class c with the fields ds is wished for -/
def ExOk (M0 : Addr → Prop) (σ : L2.St) (F : List Addr) (H : Hp) (c : Nat) (ns : List Str) (ds : List D) (e : Env) : Prop :=
  ∀ od vs H' F', Rel K C M0 H' σ e F' → Stp F H F' H' → hide (orF M0 F') H' od = some (.xd (ns.zip vs)) → ns.length = vs.length → RepL K C (orF M0 F') H' vs ds [] → W σ (.ref (C c)) (some od) H'
/-- what is wanted of an expression's end -/
def okT (M0 : Addr → Prop) (σ : L2.St) (F : List Addr) (H : Hp) (Q : VK) : R D → Prop
  | .ok d e => ∀ v H' F', Rel K C M0 H' (some v :: σ) (some d :: e) F' → Stp F H F' H' → Q v H'
  | .ex c ns ds e => ExOk K C W M0 σ F H c ns ds e
  | .no => False
def okB (M0 : Addr → Prop) (σ : L2.St) (F : List Addr) (H : Hp) (Q : Bool → Hp → Prop) : R Bool → Prop
  | .ok b e => ∀ H' F', Rel K C M0 H' σ e F' → Stp F H F' H' → Q b H'
  | .ex c ns ds e => ExOk K C W M0 σ F H c ns ds e
  | .no => False
def okA (M0 : Addr → Prop) (σ : L2.St) (F : List Addr) (H : Hp) (lk : List (Nat × Nat)) (Q : List V → Hp → Prop) : R (List D) → Prop
  | .ok ds e => ∀ vs H' F', Rel K C M0 H' (vs.map some ++ σ) (ds.map some ++ e) F' → Stp F H F' H' → vs.length = ds.length → (∀ q ∈ lk, ∃ v, vs[q.1]? = some v ∧ σ[q.2]? = some (some v)) → Q vs H'
  | .ex c ns ds e => ExOk K C W M0 σ F H c ns ds e
  | .no => False
def tOf (f : Env → R D) : TE := fun σ H Q => ∃ M0 env F, Rel K C M0 H σ env F ∧ okT K C W M0 σ F H Q (f env)
/-- a test's -/
def ttOf (f : Env → R Bool) : TT := fun σ H Q => ∃ M0 env F, Rel K C M0 H σ env F ∧ okB K C W M0 σ F H Q (f env)
/-- arguments; lk: which of them are slots, lent out -/
def aOf (f : Env → R (List D)) (lk : List (Nat × Nat)) : TA := fun σ H Q => ∃ M0 env F, Rel K C M0 H σ env F ∧ okA K C W M0 σ F H lk Q (f env)
/-- read alone: nothing is written, nothing moves -/
def bOf (f : Env → Option D) : TE := fun σ H Q => ∃ M0 env F, Rel K C M0 H σ env F ∧ ∃ d, f env = some d ∧ ∀ v H', Same H H' → Rel K C M0 H' σ env F → (∃ G, (∀ b ∈ G, b ∈ F) ∧ Rep K C (orF M0 F) H' v d G) → Q v H'
/-- the slots that no store changes -/
def Kp (kp : List Nat) (σ σ' : L2.St) : Prop := ∀ i ∈ kp, σ'[i]? = σ[i]?
variable (kp : List Nat)
def okS (M0 : Addr → Prop) (σ : L2.St) (F : List Addr) (H : Hp) (E : Ends) : Out → Prop
  | .nx e => ∀ σ' H' F', Rel K C M0 H' σ' e F' → Stp F H F' H' → Kp kp σ σ' → E.nx σ' H'
  | .rt r e => ∀ v σ' H' F', Rel K C M0 H' (some v :: σ') (some r :: e) F' → Stp F H F' H' → Kp kp σ σ' → E.rt v H'
  | .bk e => ∀ σ' H' F', Rel K C M0 H' σ' e F' → Stp F H F' H' → Kp kp σ σ' → E.bk σ' H'
  | .ct e => ∀ σ' H' F', Rel K C M0 H' σ' e F' → Stp F H F' H' → Kp kp σ σ' → E.ct σ' H'
  | .ex c ns ds e => ∀ od vs σ' H' F', Rel K C M0 H' σ' e F' → Stp F H F' H' → Kp kp σ σ' → hide (orF M0 F') H' od = some (.xd (ns.zip vs)) → ns.length = vs.length → RepL K C (orF M0 F') H' vs ds [] → W σ' (.ref (C c)) (some od) H'
  | .no => False
def tS (g : Env → Out) : TS := fun E σ H => ∃ M0 env F, Rel K C M0 H σ env F ∧ okS K C W kp M0 σ F H E (g env)
/-- a target: the value on top is stored -/
def gOf (g : D → Env → Option Env) : TG := fun v σ H Q => ∃ M0 d env F e, Rel K C M0 H (some v :: σ) (some d :: env) F ∧ g d env = some e ∧ ∀ σ' H' F', Rel K C M0 H' σ' e F' → Stp F H F' H' → Kp kp σ σ' → Q σ' H'
/-- a def's promise -/
def spP (n : Nat) (run : List D → R D) : Sp := fun vs H Q E => vs.length = n ∧ ∃ M0 ds F, Rel K C M0 H (vs.map some) (ds.map some) F ∧ match run ds with
  | .ok r outs => ∀ v H' F', Rel K C M0 H' (some v :: vs.map some) (some r :: outs) F' → Stp F H F' H' → Q v H'
  | .ex c ns xs outs => ∀ od us H' F', Rel K C M0 H' (vs.map some) outs F' → Stp F H F' H' → hide (orF M0 F') H' od = some (.xd (ns.zip us)) → ns.length = us.length → RepL K C (orF M0 F') H' us xs [] → E (.ref (C c)) (some od) H'
  | .no => False
end
/-! pure words -/
def R.bind {α β : Type} (r : R α) (k : α → Env → R β) : R β := match r with
  | .ok a e => k a e
  | .ex c ns vs e => .ex c ns vs e
  | .no => .no
/-- lent slots come back -/
def relink : List (Nat × Nat) → Env → Env → Env
  | [], _, e => e
  | (k, i) :: lk, outs, e => match outs[k]? with
    | some (some d) => relink lk (outs.set k none) (e.set i (some d))
    | _ => relink lk outs e
def callF (run : List D → R D) (lk : List (Nat × Nat)) (af : Env → R (List D)) : Env → R D := fun env => (af env).bind fun ds e => match run ds with
  | .ok r outs => .ok r (relink lk outs e)
  | .ex c ns xs outs => .ex c ns xs (relink lk outs e)
  | .no => .no
def args0 : Env → R (List D) := fun e => .ok [] e
def argV (f : Env → R D) (g : Env → R (List D)) : Env → R (List D) := fun env => (f env).bind fun d e => (g e).bind fun ds e2 => .ok (d :: ds) e2
def argR (i : Nat) (g : Env → R (List D)) : Env → R (List D) := fun env => match env[i]? with
  | some (some d) => (g (env.set i none)).bind fun ds e2 => .ok (d :: ds) e2
  | _ => .no
def lkV (lk : List (Nat × Nat)) : List (Nat × Nat) := lk.map fun q => (q.1 + 1, q.2)
def seqO (f g : Env → Out) : Env → Out := fun env => match f env with
  | .nx e => g e
  | o => o
def nilO : Env → Out := fun env => .nx env
def retO (f : Env → R D) : Env → Out := fun env => match f env with
  | .ok d e => .rt d e
  | .ex c ns vs e => .ex c ns vs e
  | .no => .no
def dropO (f : Env → R D) : Env → Out := fun env => match f env with
  | .ok _ e => .nx e
  | .ex c ns vs e => .ex c ns vs e
  | .no => .no
def ifO (c : Env → R Bool) (f g : Env → Out) : Env → Out := fun env => match c env with
  | .ok true e => f e
  | .ok false e => g e
  | .ex c ns vs e => .ex c ns vs e
  | .no => .no
def asgO (f : Env → R D) (g : D → Env → Option Env) : Env → Out := fun env => match f env with
  | .ok d e => match g d e with
    | some e' => .nx e'
    | none => .no
  | .ex c ns vs e => .ex c ns vs e
  | .no => .no
def outsOf (n : Nat) (kp : List Nat) (e : Env) : Env := (List.range n).map fun i => if i ∈ kp then (e[i]?).join else none
/-- a def: n parameters, kp of them no store changes, l other slots -/
def defF (n : Nat) (kp : List Nat) (l : Nat) (body : Env → Out) : List D → R D := fun ds => match body (ds.map some ++ List.replicate l none) with
  | .nx e => .ok .non (outsOf n kp e)
  | .rt r e => .ok r (outsOf n kp e)
  | .ex c ns vs e => .ex c ns vs (outsOf n kp e)
  | _ => .no
/-! defs that know that no repr is under way, and may raise -/
structure FnU (P : Program) (w : World) (K : PySem.W.Frag) (mg : Str → Option Value) (base : Heap) (k : Nat) (f : Addr) (fd : FuncData) (ps : List Str) (sp : Sp) : Prop where
  len : ∀ vs H Q E, sp vs H Q E → vs.length = ps.length
  run : ∀ (A : Around), A.guards = some [] → ∀ (outer : List PySem.Env) (s : Shared) (H : Hp) (args : Args) (us : List Value) (vs : List V) (Q : VK) (E : XK), Room k A → Env0 P w K mg base A outer s H → BindsTo s fd args (ps.zip us) → Vals vs us → sp vs H Q E → codeAny (model P w) A (.call (.ref f) args) (CR (L2.CX P w) outer P w H s Q E) s
section
variable {P : Program} {w : World} {K : PySem.W.Frag} {mg : Str → Option Value} {base : Heap}
/-- such a def by its body -/
theorem okU {x qual : Str} {q0 : Arguments} {body : List Stmt} {sc : Scope} {oc kV doc pm cdv ct dV : Value} {od an : Option Addr} {osl : Array (Option Value)} {f : Addr} {N ps : List Str} {k : Nat} {sp : Sp}
    (lk : K.lookup f = some ⟨oc, od, .func (PySem.W.fnOf x qual q0 body sc dV kV doc pm an cdv ct), osl⟩) (hcd : PySem.W.codeIn K cdv qual = true) (S : FnScope N ps sc) (len : ∀ vs H Q E, sp vs H Q E → vs.length = ps.length)
    (hbody : ∀ (A : Around) (outer : List PySem.Env) (s : Shared) (H : Hp) (vs : List V) (Q : VK) (E : XK), A.guards = some [] → Room k (A.deeper (envOfC qual sc s.heap.objs.size f cdv)) → sp vs H Q E →
      ∃ t, PSs (cxOf (L2.CX P w) P w K mg base N qual sc f cdv A outer s H E) body t ∧ t { nx := fun _ H' => Q .non H', rt := Q } (L2.start N vs) H) : FnU P w K mg base (k + 1) f (PySem.W.fnOf x qual q0 body sc dV kV doc pm an cdv ct) ps sp := by
  refine ⟨len, fun A hg outer s H args us vs Q E hr e0 hb r hsp => ?_⟩
  obtain ⟨t, ht, hq⟩ := hbody A outer s H vs Q E hg (hr.deeper _) hsp
  have keep : ∀ b o, base.get? b = some o → s.heap.get? b = some o := fun b o e => (e0.bs b o e).1
  have KX : K.In s.heap := e0.mod.kin.keeps keep
  refine codeAny_call_function hr.depth (KX _ _ lk) rfl S.co S.gen rfl (PySem.W.codeRec_of KX hcd) (hb _ _ _ _ ?_)
  refine wpAny_newFunctionEnv_cells S.kind (fun y hy => (S.par y.1 (List.of_mem_zip (show (y.1, y.2) ∈ ps.zip us from hy)).1).imp id fun q => ⟨q, PySem.W.cellsFrom_some _ _ _ (.inl q)⟩) fun env he s1 x => ?_
  subst he
  refine ⟨(e0.mod.nolimit.keeps keep).keeps x.toInCall.keep, codeAny_func ?_⟩
  have I := inv_start (E := E) (CX := L2.CX P w) S hr.hd e0 (len _ _ _ _ hsp) r x
  refine wpAny_mono (ht.run [] s1 (L2.start N vs) H _ I hq) (fun fl s' z => ?_) fun _ _ z => z
  match fl, z with
  | .ret u, ⟨v, σ', H', J, rv, q⟩ => exact ⟨v, H', J.os, J.bare, J.base, J.hok, rv, q⟩
  | .next, ⟨σ', H', J, q⟩ => exact ⟨V.non, H', J.os, J.bare, J.base, J.hok, rfl, q⟩
  | .brk, ⟨_, _, _, q⟩ => exact q.elim
  | .cont, ⟨_, _, _, q⟩ => exact q.elim
end
section
variable {X : Cx} {k : Nat} {f C : Addr} {fd : FuncData} {ps : List Str} {sp : Sp} {dvs : List V} {ds : List Value} {W : WX} {x m : Str} {p pos apos : Pos} {e o : Expr} {es : List Expr} {t : TA} {ta : TE}
theorem run_fnU {pins : List (Addr × Obj)} {σ : L2.St} {H : Hp} {s : Shared} {Q : VK} {us : List Value} {vs : List V} (F : FnU X.prog X.w X.K X.mg X.base k f fd ps sp) (hG : X.A.guards = some []) (hr : Room k X.A) (hb : Binds X.K fd ps ds) (hd : Vals dvs ds) (tk : Takes X W)
    (I : Inv X pins σ H s) (r : Vals vs us) (h : sp (vs ++ dvs) H Q (WE W σ)) : wpAny (model X.prog X.w) X.A (call (.ref f) us) (EP X pins σ Q) X.xe s := by
  have r2 : Vals (vs ++ dvs) (us ++ ds) := r.append hd
  have hl : (us ++ ds).length = ps.length := by rw [← r2.length]; exact F.len _ _ _ _ h
  refine wpAny_call (codeAny_mono (F.run X.A hG X.stack s H ⟨us, []⟩ (us ++ ds) (vs ++ dvs) Q (WE W σ) hr I.env0 (hb s us I.kIn hl) r2 h) fun r s' hq => ?_)
  cases r with
  | error e => exact passAt tk σ pins H s e s' I hq
  | ok fl =>
    cases fl with
    | ret u => exact I.after hq
    | next => exact False.elim hq
    | brk => exact False.elim hq
    | cont => exact False.elim hq
theorem pe_callU (F : FnU X.prog X.w X.K X.mg X.base k f fd ps sp) (hG : X.A.guards = some []) (hr : Room k X.A) (hg : Gl X x) (hm : X.mg x = some (.ref f)) (hk : PySem.W.keepIn X.K (.ref f) = true) (hb : Binds X.K fd ps ds) (hd : Vals dvs ds) (tk : Takes X W)
    (ha : PA X (e :: es) t) (hdb : (x == ("__debug__" : Str)) = false := by decide) (he : starEach (e :: es) X.env = (false, eval e X.env) :: starEach es X.env := by rfl) (hpl : (backTo pos (starEach es X.env)).any (·.1) = false := by rfl) :
    PE X (.Call (.Name x p) (e :: es) [] pos) (tCallSD sp dvs (WE W) t) := by
  refine ⟨fun pins s σ H Q I h => ?_⟩
  refine wpAny_Call_Name_kw (ld_glob I hg hm ?_ hdb)
  refine PySem.W.callWith_K (h₀ := X.base) I.ok.mod.kin hk (thn (ha.run pos pins s σ H _ I h) fun us s1 ⟨vs, H1, I1, r, q⟩ => ⟨I1.kIn, ?_⟩) he hpl
  exact run_fnU F hG hr hb hd tk I1 r q
/-- o.m(..), o.m() -/
def tMethU (C : Addr) (m : Str) (sp : Sp) (dvs : List V) (E : L2.St → XK) (ta : TE) (t : TA) : TE := fun σ H Q => ta σ H fun x H1 => ∃ a dx fs, x = .ref a ∧ H1 a = some (.ins C dx fs) ∧ fs.lookup m = none ∧
  t σ H1 fun vs H2 => sp (x :: (vs ++ dvs)) H2 Q (E σ)
theorem pe_methU {pl : Sem Bool} (he : PE X o ta) (c : Cls X.K C) (hm : Meth X.K C m f) (F : FnU X.prog X.w X.K X.mg X.base k f fd ps sp) (hG : X.A.guards = some []) (hr : Room k X.A) (hb : Binds X.K fd ps ds) (hd : Vals dvs ds) (tk : Takes X W) (ha : PA X (e :: es) t)
    (hst : starEach (e :: es) X.env = (false, eval e X.env) :: starEach es X.env := by rfl) (hpl : (backTo pos (starEach es X.env)).any (·.1) = false := by rfl)
    (ht : eval (.Call (.Attribute o m apos) (e :: es) [] pos) X.env = (do
      let ov ← eval o X.env
      standAt apos.atName
      let (f, first) ← holding [ov] (getMethod ov m pl)
      callWith pos f first (backTo pos (starEach (e :: es) X.env)) (backToKw pos (keywordEach [] X.env))) := by rfl) :
    PE X (.Call (.Attribute o m apos) (e :: es) [] pos) (tMethU C m sp dvs (WE W) ta t) := by
  refine ⟨fun pins s σ H Q I h => ?_⟩
  refine PySem.W.methodCall_KW (pl := pl) (thn (he.run pins s σ H _ I h) fun u s1 ⟨x, H1, I1, rx, a, dx, fs, ex, ea, l, q⟩ => ?_) ht
  subst ex
  obtain rfl : u = Value.ref a := rx
  refine getmeth_ok I1 ea c hm l ?_
  refine PySem.W.callWith_K (first := [.ref a]) (h₀ := X.base) I.ok.mod.kin hm.kp (thn (ha.run pos pins s1 σ H1 _ I1 q) fun us s2 ⟨vs, H2, I2, r, q2⟩ => ⟨I2.kIn, ?_⟩) hst hpl
  exact run_fnU (us := .ref a :: us) (vs := .ref a :: vs) F hG hr hb hd tk I2 (.cons rfl r) q2
theorem pe_methU0 {pl : Sem Bool} (he : PE X o ta) (c : Cls X.K C) (hm : Meth X.K C m f) (F : FnU X.prog X.w X.K X.mg X.base k f fd ps sp) (hG : X.A.guards = some []) (hr : Room k X.A) (hb : Binds X.K fd ps ds) (hd : Vals dvs ds) (tk : Takes X W)
    (ht : eval (.Call (.Attribute o m apos) [] [] pos) X.env = (do
      let ov ← eval o X.env
      standAt apos.atName
      let (f, first) ← holding [ov] (getMethod ov m pl)
      callWith pos f first (backTo pos (starEach [] X.env)) (backToKw pos (keywordEach [] X.env))) := by rfl) :
    PE X (.Call (.Attribute o m apos) [] [] pos) (tMethU C m sp dvs (WE W) ta tNil) := by
  refine ⟨fun pins s σ H Q I h => ?_⟩
  refine PySem.W.methodCall_KW (pl := pl) (thn (he.run pins s σ H _ I h) fun u s1 ⟨x, H1, I1, rx, a, dx, fs, ex, ea, l, q⟩ => ?_) ht
  subst ex
  obtain rfl : u = Value.ref a := rx
  refine getmeth_ok I1 ea c hm l ?_
  exact PySem.W.callWith_K0 (first := [.ref a]) I1.kIn hm.kp (run_fnU (us := [.ref a]) (vs := [.ref a]) F hG hr hb hd tk I1 (.cons rfl .nil) q)
end
/-! the frame around a call -/
section
variable {K : PySem.W.Frag} {C : CT} {M0 : Addr → Prop} {H H' H2 : Hp} {σ σ' : List (Option V)} {env env' : Env} {F F' F1 F2 G : List Addr} {v : V} {d : D}
theorem RepO.split {M : Addr → Prop} : ∀ {σ1 σ2 : List (Option V)} {e1 e2 : Env} {F : List Addr}, σ1.length = e1.length → RepO K C M H (σ1 ++ σ2) (e1 ++ e2) F → ∃ F1 F2, F = F1 ++ F2 ∧ RepO K C M H σ1 e1 F1 ∧ RepO K C M H σ2 e2 F2
  | [], _, [], _, _, _, h => ⟨[], _, rfl, .nil, h⟩
  | _ :: _, _, _ :: _, _, _, l, .gone t => by
    obtain ⟨F1, F2, e, a, b⟩ := RepO.split (by simpa using l) t
    exact ⟨F1, F2, e, .gone a, b⟩
  | _ :: _, _, _ :: _, _, _, l, .have_ (F := F0) h t => by
    obtain ⟨F1, F2, e, a, b⟩ := RepO.split (by simpa using l) t
    exact ⟨F0 ++ F1, F2, by rw [e, List.append_assoc], .have_ h a, b⟩
theorem RepO.app {M : Addr → Prop} : ∀ {σ1 σ2 : List (Option V)} {e1 e2 : Env} {F1 F2 : List Addr}, RepO K C M H σ1 e1 F1 → RepO K C M H σ2 e2 F2 → RepO K C M H (σ1 ++ σ2) (e1 ++ e2) (F1 ++ F2)
  | _, _, _, _, _, _, .nil, h => h
  | _, _, _, _, _, _, .gone t, h => .gone (t.app h)
  | _, _, _, _, _, _, .have_ a t, h => by rw [List.append_assoc]; exact .have_ a (t.app h)
theorem orF_swap {F G : List Addr} : orF (orF M0 F) G = orF (orF M0 G) F := by
  funext b; simp only [orF]; exact propext ⟨fun h => by rcases h with (h | h) | h <;> simp [h], fun h => by rcases h with (h | h) | h <;> simp [h]⟩
/-- the upper slots alone, what the lower ones own put aside -/
theorem Rel.upper {σ1 σ2 : List (Option V)} {e1 e2 : Env} (r : Rel K C M0 H (σ1 ++ σ2) (e1 ++ e2) F) (l : σ1.length = e1.length) : ∃ F1 F2, F = F1 ++ F2 ∧ RepO K C (orF M0 F) H σ2 e2 F2 ∧ Rel K C (orF M0 F2) H σ1 e1 F1 := by
  obtain ⟨rep, nd, dj, al, zd⟩ := r
  obtain ⟨F1, F2, rfl, a, b⟩ := RepO.split l rep
  have nd' := List.nodup_append.mp nd
  refine ⟨F1, F2, rfl, b, ⟨by rw [orF_swap, orF_app]; exact a, nd'.1, fun b hb z => ?_, fun b' z => ?_, by rw [orF_swap, orF_app]; exact zd⟩⟩
  · rcases z with z | z
    · exact dj b (List.mem_append_left _ hb) z
    · exact nd'.2.2 b hb b z rfl
  · rcases z with z | z
    · exact al b' z
    · exact repO_alive b b' z
/-- the upper slots have changed -/
theorem Rel.over {σ1 σ2 : List (Option V)} {e1 e2 : Env} (r : Rel K C M0 H σ env (F1 ++ F2)) (h2 : RepO K C (orF M0 (F1 ++ F2)) H σ2 e2 F2) (r1 : Rel K C (orF M0 F2) H' σ1 e1 F') (s : Stp F1 H F' H') :
    Rel K C M0 H' (σ1 ++ σ2) (e1 ++ e2) (F' ++ F2) ∧ Stp (F1 ++ F2) H (F' ++ F2) H' := by
  have nd := List.nodup_append.mp r.nd
  have k2 : ∀ b ∈ F2, ∀ o, H b = some o → NT o → H' b = some o := fun b hb o e _ => s.keep b o (fun z => nd.2.2 b z b hb rfl) e
  have h2' : RepO K C (orF M0 (F' ++ F2)) H' σ2 e2 F2 := by
    refine repO_mono ?_ h2 k2
    rw [← orF_app, ← orF_app, orF_swap, orF_swap (F := F')]
    refine Stp.hide s fun b hb z => ?_
    rcases z with z | z
    · exact r.dj b (List.mem_append_left _ hb) z
    · exact nd.2.2 b hb b z rfl
  have h1 := r1.rep
  rw [orF_swap, orF_app] at h1
  have zz := r1.zd
  rw [orF_swap, orF_app] at zz
  refine ⟨⟨h1.app h2', List.nodup_append.mpr ⟨r1.nd, nd.2.1, fun a ha b hb e => r1.dj a ha (.inr (e ▸ hb))⟩, fun b hb z => ?_, fun b z => r1.al b (.inl z), zz⟩, ⟨fun b o n e _ => s.keep b o (fun z => n (List.mem_append_left _ z)) e, fun b hb => ?_, s.tb⟩⟩
  · rcases List.mem_append.mp hb with q | q
    · exact r1.dj b q (.inl z)
    · exact r.dj b (List.mem_append_right _ q) z
  · rcases List.mem_append.mp hb with q | q
    · exact (s.new b q).imp (List.mem_append_left _) id
    · exact .inl (List.mem_append_right _ q)
/-- all upper slots are thrown away -/
theorem Rel.drops : ∀ {σ1 : List (Option V)} {e1 : Env} {F : List Addr}, σ1.length = e1.length → Rel K C M0 H (σ1 ++ σ) (e1 ++ env) F → ∃ F', Rel K C M0 H σ env F' ∧ ∀ b ∈ F', b ∈ F
  | [], [], _, _, r => ⟨_, r, fun _ h => h⟩
  | _ :: _, _ :: _, _, l, r => by
    obtain ⟨F1, r1, s1⟩ := Rel.drop r
    obtain ⟨F2, r2, s2⟩ := Rel.drops (by simpa using l) r1
    exact ⟨F2, r2, fun b h => s1.subset (s2 b h)⟩
theorem set_app_r {α : Type} (l1 l2 : List α) (i : Nat) (a : α) : (l1 ++ l2).set (l1.length + i) a = l1 ++ l2.set i a := by
  rw [List.set_append_right _ _ (Nat.le_add_right ..), Nat.add_sub_cancel_left]
theorem set_app_l {α : Type} (l1 l2 : List α) {i : Nat} (h : i < l1.length) (a : α) : (l1 ++ l2).set i a = l1.set i a ++ l2 := List.set_append_left _ _ h
/-- lent slots come back -/
theorem Rel.relink {vs : List V} : ∀ (lk : List (Nat × Nat)) {outs e : Env} {F : List Addr}, (∀ q ∈ lk, ∃ v, vs[q.1]? = some v ∧ σ[q.2]? = some (some v)) → vs.length = outs.length → Rel K C M0 H (vs.map some ++ σ) (outs ++ e) F →
    ∃ F', Rel K C M0 H σ (J.relink lk outs e) F' ∧ ∀ b ∈ F', b ∈ F
  | [], outs, e, F, _, l, r => Rel.drops (by rw [List.length_map]; exact l) r
  | (k, i) :: lk, outs, e, F, hk, l, r => by
    have tl : ∀ q ∈ lk, ∃ v, vs[q.1]? = some v ∧ σ[q.2]? = some (some v) := fun q hq => hk q (List.mem_cons_of_mem _ hq)
    obtain ⟨v, hv, hσ⟩ := hk (k, i) (List.mem_cons_self ..)
    unfold J.relink
    split
    · rename_i d ek
      have lk' : k < outs.length := by
        rcases Nat.lt_or_ge k outs.length with q | q
        · exact q
        · rw [List.getElem?_eq_none q] at ek; cases ek
      have e1 : (outs ++ e)[k]? = some (some d) := by rw [List.getElem?_append_left lk']; exact ek
      obtain ⟨v', F1, hv', r1, s1⟩ := r.take e1
      have ev : v' = v := by
        rw [List.getElem?_append_left (by rw [List.length_map, l]; exact lk'), List.getElem?_map] at hv'
        have hv2 : vs[k]? = some v := hv
        rw [hv2] at hv'
        simpa using hv'.symm
      subst ev
      have e2 : (vs.map some ++ σ)[outs.length + i]? = some (some v') := by
        rw [List.getElem?_append_right (by rw [List.length_map, l]; omega), List.length_map, l, Nat.add_sub_cancel_left]; exact hσ
      obtain ⟨F2, r2, s2⟩ := r1.put e2
      rw [set_app_l _ _ lk'] at r2
      have e3 : outs.length = (outs.set k none).length := by rw [List.length_set]
      rw [e3, set_app_r] at r2
      obtain ⟨F3, r3, s3⟩ := Rel.relink lk tl (by rw [List.length_set]; exact l) r2
      exact ⟨F3, r3, fun b h => s1 b (s2 b (s3 b h))⟩
    · exact Rel.relink lk tl l r
end
section
variable {K : PySem.W.Frag} {C : CT} {W : Wish} {kp : List Nat}
theorem _root_.L2.PE.imp {X : Cx} {e : Expr} {t t' : TE} (h : PE X e t) (i : ∀ σ H Q, t' σ H Q → t σ H Q) : PE X e t' := ⟨fun pins s σ H Q I q => h.run pins s σ H Q I (i σ H Q q)⟩
theorem _root_.L2.PA.imp {X : Cx} {e : List Expr} {t t' : TA} (h : PA X e t) (i : ∀ σ H Q, t' σ H Q → t σ H Q) : PA X e t' := ⟨fun pos pins s σ H Q I q => h.run pos pins s σ H Q I (i σ H Q q)⟩
theorem _root_.L2.PT.imp {X : Cx} {e : Expr} {t t' : TT} (h : PT X e t) (i : ∀ σ H Q, t' σ H Q → t σ H Q) : PT X e t' := ⟨fun pins s σ H Q I q => h.run pins s σ H Q I (i σ H Q q)⟩
theorem _root_.L2.PS.imp {X : Cx} {e : Stmt} {t t' : TS} (h : PS X e t) (i : ∀ E σ H, t' E σ H → t E σ H) : PS X e t' := ⟨fun pins s σ H E I q => h.run pins s σ H E I (i E σ H q)⟩
theorem _root_.L2.PSs.imp {X : Cx} {e : List Stmt} {t t' : TS} (h : PSs X e t) (i : ∀ E σ H, t' E σ H → t E σ H) : PSs X e t' := ⟨fun pins s σ H E I q => h.run pins s σ H E I (i E σ H q)⟩
theorem _root_.L2.PG.imp {X : Cx} {e : Expr} {t t' : TG} (h : PG X e t) (i : ∀ v σ H Q, t' v σ H Q → t v σ H Q) : PG X e t' := by
  obtain ⟨h⟩ := h
  constructor
  intros
  exact h _ _ _ _ _ _ _ (by assumption) (by assumption) (by apply i; assumption)
/-- a call by what stands on top -/
theorem call_core {n : Nat} {run : List D → R D} {lk : List (Nat × Nat)} {M0 : Addr → Prop} {σ : L2.St} {H : Hp} {vs : List V} {ds : List D} {e : Env} {F : List Addr} {Q : VK} (r : Rel K C M0 H (vs.map some ++ σ) (ds.map some ++ e) F) (l : vs.length = ds.length) (hn : ds.length = n)
    (hlk : ∀ q ∈ lk, ∃ v, vs[q.1]? = some v ∧ σ[q.2]? = some (some v)) (ol : ∀ r outs, run ds = .ok r outs → outs.length = n) (ox : ∀ c ns xs outs, run ds = .ex c ns xs outs → outs.length = n)
    (h : okT K C W M0 σ F H Q (match run ds with
      | .ok r outs => .ok r (relink lk outs e)
      | .ex c ns xs outs => .ex c ns xs (relink lk outs e)
      | .no => .no)) : spP K C n run vs H Q (W σ) := by
  refine ⟨l.trans hn, ?_⟩
  obtain ⟨F1, F2, rfl, h2, r1⟩ := r.upper (by simp [l])
  refine ⟨orF M0 F2, ds, F1, r1, ?_⟩
  cases er : run ds with
  | no => rw [er] at h; exact h
  | ok x outs =>
    rw [er] at h
    have lo := ol x outs er
    intro v H' F' r' s'
    obtain ⟨r3, s3⟩ := Rel.over r h2 r' s'
    obtain ⟨G1, G2, eG, hv, r4⟩ := Rel.pop r3
    obtain ⟨F5, r5, s5⟩ := Rel.relink lk hlk (by rw [l, hn, lo]) r4
    obtain ⟨r6, s6⟩ := Rel.back r3 G1 G2 eG hv r5 (.sub s5)
    exact h v H' _ r6 (s3.trans s6)
  | ex c ns xs outs =>
    rw [er] at h
    have lo := ox c ns xs outs er
    intro od us H' F' r' s' ho hl ru
    obtain ⟨r3, s3⟩ := Rel.over r h2 r' s'
    obtain ⟨F5, r5, s5⟩ := Rel.relink lk hlk (by rw [l, hn, lo]) r3
    have hm : ∀ b, orF M0 F5 b → orF (orF M0 F2) F' b := fun b z => by
      rcases z with z | z
      · exact .inl (.inl z)
      · rcases List.mem_append.mp (s5 b z) with q | q
        · exact .inr q
        · exact .inl (.inr q)
    exact h od us H' F5 r5 (s3.trans (.sub s5)) (hide_mono (.refl _) (fun b z => .inl (hm b z)) _ _ ho) hl (repL_mono (hide_mono (.refl _) fun b z => .inl (hm b z)) ru fun _ hb => by cases hb)
/-- the def of a body -/
theorem def_core {n l : Nat} {N : List Str} {body : Env → Out} {vs : List V} {H : Hp} {Q : VK} {E : XK} (hN : N.length = n + l) (hkp : ∀ i ∈ kp, i < n) (h : spP K C n (defF n kp l body) vs H Q E) :
    tS K C (fun _ => E) kp body { nx := fun _ H' => Q .non H', rt := Q } (L2.start N vs) H := by
  obtain ⟨lv, M0, ds, F, r, h⟩ := h
  have ld : ds.length = n := by
    have := r.rep.length
    simp only [List.length_map] at this
    omega
  have nones : ∀ (M : Addr → Prop) (m : Nat), RepO K C M H (List.replicate m none) (List.replicate m none) [] := fun M m => by
    induction m with
    | zero => exact .nil
    | succ m ih => exact .gone ih
  have r0 : Rel K C M0 H (L2.start N vs) (ds.map some ++ List.replicate l none) F := by
    unfold L2.start
    have e : N.length - vs.length = l := by omega
    rw [e]
    exact ⟨by have := r.rep.app (nones (orF M0 F) l); rw [List.append_nil] at this; exact this, r.nd, r.dj, r.al, r.zd⟩
  refine ⟨M0, _, F, r0, ?_⟩
  -- the parameters at the end
  have fin : ∀ {M : Addr → Prop} {H' : Hp} {σ' : L2.St} {e : Env} {F' : List Addr}, RepO K C M H' σ' e F' → Kp kp (L2.start N vs) σ' → ∃ F2, RepO K C M H' (vs.map some) (outsOf n kp e) F2 ∧ F2.Sublist F' := by
    intro M H' σ' e F' rr kk
    have key : ∀ (m : Nat), m ≤ n → ∃ F1 F2, F1.Sublist F' ∧ RepO K C M H' ((vs.map some).take m) ((List.range m).map fun i => if i ∈ kp then (e[i]?).join else none) F1 ∧ RepO K C M H' (σ'.drop m) (e.drop m) F2 ∧ (F1 ++ F2).Sublist F' := by
      intro m
      induction m with
      | zero => intro _; exact ⟨[], F', List.nil_sublist _, .nil, rr, .refl _⟩
      | succ m ih =>
        intro hm
        obtain ⟨F1, F2, _, a, b, sb⟩ := ih (by omega)
        obtain ⟨v, hv⟩ : ∃ v, vs[m]? = some v := ⟨vs[m]'(by omega), List.getElem?_eq_getElem _⟩
        have ev : (vs.map some).take (m + 1) = (vs.map some).take m ++ [some v] := by
          rw [List.take_add_one]; congr 1
          rw [List.getElem?_map, hv]; rfl
        rw [ev, List.range_succ, List.map_append, List.map_cons, List.map_nil]
        have hs : (L2.start N vs)[m]? = some (some v) := by
          unfold L2.start
          rw [List.getElem?_append_left (by simp; omega), List.getElem?_map, hv]; rfl
        by_cases hmk : m ∈ kp
        · rw [if_pos hmk]
          have hσ : σ'[m]? = some (some v) := by rw [kk m hmk]; exact hs
          have lσ : m < σ'.length := by
            rcases Nat.lt_or_ge m σ'.length with q | q
            · exact q
            · rw [List.getElem?_eq_none q] at hσ; cases hσ
          have le : m < e.length := by rw [← rr.length]; exact lσ
          rw [List.drop_eq_getElem_cons lσ, List.drop_eq_getElem_cons le] at b
          have e1 : σ'[m] = some v := by rw [List.getElem?_eq_getElem lσ] at hσ; exact Option.some.inj hσ
          rw [e1] at b
          rw [List.getElem?_eq_getElem le, Option.join_some]
          revert b
          generalize e[m] = y
          intro b
          cases b with
          | gone t => exact ⟨F1, F2, (List.sublist_append_left ..).trans sb, by have := a.app (RepO.gone (x := some v) RepO.nil); rw [List.append_nil] at this; exact this, t, sb⟩
          | have_ h t =>
            rename_i d G1 G2
            refine ⟨F1 ++ G1, G2, ?_, a.app (by have := RepO.have_ h RepO.nil; rw [List.append_nil] at this; exact this), t, by rw [List.append_assoc]; exact sb⟩
            rw [← List.append_assoc] at sb
            exact (List.sublist_append_left ..).trans sb
        · rw [if_neg hmk]
          have t : ∃ F3, RepO K C M H' (σ'.drop (m + 1)) (e.drop (m + 1)) F3 ∧ F3.Sublist F2 := by
            rcases Nat.lt_or_ge m σ'.length with lσ | lσ
            · have le : m < e.length := by rw [← rr.length]; exact lσ
              rw [List.drop_eq_getElem_cons lσ, List.drop_eq_getElem_cons le] at b
              revert b
              generalize e[m] = y
              generalize σ'[m] = z
              intro b
              cases b with
              | gone t => exact ⟨_, t, .refl _⟩
              | have_ h t => exact ⟨_, t, List.sublist_append_right ..⟩
            · have le : e.length ≤ m := by rw [← rr.length]; exact lσ
              rw [List.drop_eq_nil_of_le (by omega), List.drop_eq_nil_of_le (by omega)]
              exact ⟨[], .nil, List.nil_sublist _⟩
          obtain ⟨F3, t, s3⟩ := t
          exact ⟨F1, F3, (List.sublist_append_left ..).trans sb, by have := a.app (RepO.gone (x := some v) RepO.nil); rw [List.append_nil] at this; exact this, t, (s3.append_left F1).trans sb⟩
    obtain ⟨F1, F2, s1, a, _, _⟩ := key n (Nat.le_refl _)
    rw [List.take_of_length_le (by simp; omega)] at a
    exact ⟨F1, a, s1⟩
  unfold defF at h
  generalize body (ds.map some ++ List.replicate l none) = o at h
  have low : ∀ {H' : Hp} {σ' : L2.St} {e : Env} {F' : List Addr}, Rel K C M0 H' σ' e F' → Kp kp (L2.start N vs) σ' → ∃ F2, Rel K C M0 H' (vs.map some) (outsOf n kp e) F2 ∧ F2.Sublist F' := by
    intro H' σ' e F' rr kk
    obtain ⟨F2, a, s⟩ := fin rr.rep kk
    exact ⟨F2, .mono_ a rr.nd s rr.dj rr.al rr.zd, s⟩
  cases o with
  | nx e =>
    intro σ' H' F' r' s' kk
    obtain ⟨F2, r2, s2⟩ := low r' kk
    exact h .non H' F2 (Rel.data r2 .non) (s'.trans (.subl s2))
  | rt x e =>
    intro v σ' H' F' r' s' kk
    obtain ⟨G1, G2, eG, hv, r4⟩ := Rel.pop r'
    obtain ⟨F2, a, s2⟩ := fin r4.rep kk
    have r5 : Rel K C (orF M0 G1) H' (vs.map some) (outsOf n kp e) F2 := .mono_ a r4.nd s2 r4.dj r4.al r4.zd
    obtain ⟨r6, s6⟩ := Rel.back r' G1 G2 eG hv r5 (.subl s2)
    exact h v H' _ r6 (s'.trans s6)
  | bk e => exact h.elim
  | ct e => exact h.elim
  | no => exact h
  | ex c ns xs e =>
    intro od us σ' H' F' r' s' kk ho hl ru
    obtain ⟨F2, r2, s2⟩ := low r' kk
    exact h od us H' F2 r2 (s'.trans (.subl s2)) (hide_mono (.refl _) (fun b z => .inl (z.imp id fun q => s2.subset q)) _ _ ho) hl (repL_mono (hide_mono (.refl _) fun b z => .inl (z.imp id fun q => s2.subset q)) ru fun _ hb => by cases hb)
theorem outsOf_length {n : Nat} {kp : List Nat} {e : Env} : (outsOf n kp e).length = n := by simp [outsOf]
theorem defF_outs {n l : Nat} {body : Env → Out} {ds : List D} : (∀ r outs, defF n kp l body ds = .ok r outs → outs.length = n) ∧ ∀ c ns xs outs, defF n kp l body ds = .ex c ns xs outs → outs.length = n := by
  unfold defF
  generalize body _ = o
  cases o <;> refine ⟨fun r outs h => ?_, fun c ns xs outs h => ?_⟩ <;> simp only [R.ok.injEq, R.ex.injEq, reduceCtorEq] at h
  · rw [← h.2]; exact outsOf_length
  · rw [← h.2]; exact outsOf_length
  · rw [← h.2.2.2]; exact outsOf_length
end
end J
/-! Rules: a construct of the text and its pure word. -/
namespace J
open PySem L2 PySem.Spec PyProof.Rows
section
variable {K : PySem.W.Frag} {C : CT} {W : Wish} {kp : List Nat} {M0 : Addr → Prop} {H H' H2 : Hp} {σ σ' : L2.St} {env env' : Env} {F F' F1 F2 G : List Addr} {v w : V} {d e : D}
/-! ### what stands on top -/
theorem Rel.less (r : Rel K C (orF M0 G) H σ env F) : Rel K C M0 H σ env F :=
  have hm : Same (hide (orF (orF M0 G) F) H) (hide (orF M0 F) H) := hide_mono (.refl _) fun b z => .inl (by rcases z with z | z; exact .inl (.inl z); exact .inr z)
  ⟨repO_mono hm r.rep fun _ _ _ e _ => e, r.nd, fun b hb z => r.dj b hb (.inl z), fun b z => r.al b (.inl z), r.zd.mono hm⟩
theorem Stp.wide (s : Stp F2 H F' H') : Stp (F1 ++ F2) H F' H' := ⟨fun b o n e _ => s.keep b o (fun z => n (List.mem_append_right _ z)) e, fun b hb => (s.new b hb).imp (List.mem_append_right _) id, s.tb⟩
theorem ExOk.lift {c : Nat} {ns : List Str} {ds : List D} (h : ExOk K C W M0 σ F H c ns ds env) (s : Stp F H (F1 ++ F2) H') : ExOk K C W (orF M0 F1) σ F2 H' c ns ds env := by
  intro od vs H2 F' r s2 ho hl rl
  have hm : ∀ b, orF M0 F' b → orF (orF M0 F1) F' b := fun b z => by
    rcases z with z | z
    · exact .inl (.inl z)
    · exact .inr z
  exact h od vs H2 F' r.less (s.trans s2.wide) (hide_mono (.refl _) (fun b z => .inl (hm b z)) _ _ ho) hl (repL_mono (hide_mono (.refl _) fun b z => .inl (hm b z)) rl fun _ hb => by cases hb)
theorem ExOk.trans {c : Nat} {ns : List Str} {ds : List D} (h : ExOk K C W M0 σ F H c ns ds env) (s : Stp F H F2 H') : ExOk K C W M0 σ F2 H' c ns ds env :=
  fun od vs H2 F' r s2 ho hl rl => h od vs H2 F' r (s.trans s2) ho hl rl
/-- a first evaluation, then another with its value put aside -/
theorem then_tOf {f : Env → R D} {k : D → Env → R D} {t : V → TE} {Q : VK} (h : tOf K C W (fun env => (f env).bind k) σ H Q)
    (ht : ∀ d e1 v H1 M0 F, Rel K C M0 H1 (some v :: σ) (some d :: e1) F → okT K C W M0 σ F H1 Q (k d e1) → t v σ H1 Q) : tOf K C W f σ H fun v H1 => t v σ H1 Q := by
  obtain ⟨M0, env, F, r, h⟩ := h
  have h : okT K C W M0 σ F H Q ((f env).bind k) := h
  refine ⟨M0, env, F, r, ?_⟩
  cases ef : f env with
  | no => rw [ef] at h; exact h
  | ex c ns ds e => rw [ef] at h; exact h
  | ok d e =>
    rw [ef] at h
    intro v H1 F1 r1 s1
    refine ht d e v H1 M0 F1 r1 ?_
    simp only [R.bind] at h
    cases ek : k d e with
    | no => rw [ek] at h; exact h
    | ok x e2 => rw [ek] at h; exact fun u H2 F2 r2 s2 => h u H2 F2 r2 (s1.trans s2)
    | ex c ns ds e2 => rw [ek] at h; exact ExOk.trans h s1
/-- a second evaluation below a value -/
theorem below_tOf {f : Env → R D} {k : D → Env → R D} {R_ : V → Hp → Prop} {Q : VK} (r : Rel K C M0 H (some v :: σ) (some d :: env) F) (h : okT K C W M0 σ F H Q ((f env).bind k))
    (hk : ∀ x e1 w H1 F1, Rel K C M0 H1 (some v :: some w :: σ) (some d :: some x :: e1) F1 → okT K C W M0 σ F1 H1 Q (k x e1) → R_ w H1) : tOf K C W f σ H R_ := by
  obtain ⟨G1, G2, eG, hv, r2⟩ := r.pop
  refine ⟨orF M0 G1, env, G2, r2, ?_⟩
  cases ef : f env with
  | no => rw [ef] at h; exact h
  | ex c ns ds e => rw [ef] at h; subst eG; exact ExOk.lift h .refl
  | ok x e1 =>
    rw [ef] at h
    intro w H1 F1 r1 s1
    obtain ⟨r3, s3⟩ := Rel.back r G1 G2 eG hv r1 s1
    refine hk x e1 w H1 _ r3 ?_
    simp only [R.bind] at h
    cases ek : k x e1 with
    | no => rw [ek] at h; exact h
    | ok y e2 => rw [ek] at h; exact fun u H2 F2 r2 s2 => h u H2 F2 r2 (s3.trans s2)
    | ex c ns ds e2 => rw [ek] at h; exact ExOk.trans h s3
/-! ### names, constants -/
/-- a name read as data -/
def rdF (i : Nat) : Env → R D := fun env => match env[i]? with
  | some (some d) => .ok d.fz (env.set i (some d.fz))
  | _ => .no
/-- a name read, its value moved out -/
def rdM (i : Nat) : Env → R D := fun env => match env[i]? with
  | some (some d) => .ok d (env.set i none)
  | _ => .no
def rdB (i : Nat) : Env → Option D := fun env => (env[i]?).join
def okC (d : D) : Env → R D := fun env => .ok d env
theorem i_rdF {i : Nat} {Q : VK} (h : tOf K C W (rdF i) σ H Q) : tVar i σ H Q := by
  obtain ⟨M0, env, F, r, h⟩ := h
  rcases ed : env[i]? with _ | _ | d
  · simp only [rdF, ed] at h; exact h.elim
  · simp only [rdF, ed] at h; exact h.elim
  · simp only [rdF, ed] at h
    obtain ⟨v, F1, hσ, r1, s1⟩ := r.take ed
    obtain ⟨F2, r2, s2⟩ := r1.fz
    obtain ⟨F3, r3, s3⟩ := r2.dup
    obtain ⟨G1, G2, eG, hv, r4⟩ := r3.pop
    obtain ⟨F5, r5, s5⟩ := r4.put hσ
    rw [List.set_set] at r5
    obtain ⟨r6, s6⟩ := Rel.back r3 G1 G2 eG hv r5 (.sub s5)
    exact ⟨v, hσ, h v H _ r6 (Stp.trans (.sub fun b hb => s1 b (s2.subset (s3 b hb))) s6)⟩
theorem i_rdM {i : Nat} {Q : VK} (h : tOf K C W (rdM i) σ H Q) : tVar i σ H Q := by
  obtain ⟨M0, env, F, r, h⟩ := h
  rcases ed : env[i]? with _ | _ | d
  · simp only [rdM, ed] at h; exact h.elim
  · simp only [rdM, ed] at h; exact h.elim
  · simp only [rdM, ed] at h
    obtain ⟨v, F1, hσ, r1, s1⟩ := r.take ed
    exact ⟨v, hσ, h v H _ r1 (.sub s1)⟩
theorem i_rdB {i : Nat} {Q : VK} (h : bOf K C (rdB i) σ H Q) : tVar i σ H Q := by
  obtain ⟨M0, env, F, r, d, ed, h⟩ := h
  unfold rdB at ed
  have ed : env[i]? = some (some d) := by
    cases e1 : env[i]? with
    | none => rw [e1] at ed; cases ed
    | some y => rw [e1] at ed; simp only [Option.join_some] at ed; rw [ed]
  obtain ⟨v, G, F1, F2, hσ, hv, eF, _⟩ := r.rep.at ed
  exact ⟨v, hσ, h v H (.refl _) r ⟨G, fun b hb => by rw [eF]; simp [hb], hv⟩⟩
/-- a value that no heap bears -/
inductive Sc : V → D → Prop
  | non : Sc .non .non | bl (b : Bool) : Sc (.bl b) (.bl b) | int (i : Int) : Sc (.int i) (.int i) | str (s : Str) : Sc (.str s) (.str s)
theorem Sc.rep {M : Addr → Prop} (h : Sc v d) : Rep K C M H v d [] := by cases h <;> constructor
theorem i_okC {Q : VK} (s : Sc v d) (h : tOf K C W (okC d) σ H Q) : tC v σ H Q := by
  obtain ⟨M0, env, F, r, h⟩ := h
  exact h v H F (Rel.data r s.rep) .refl
theorem i_bC {Q : VK} (s : Sc v d) (h : bOf K C (fun _ => some d) σ H Q) : tC v σ H Q := by
  obtain ⟨M0, env, F, r, d', ed, h⟩ := h
  obtain rfl := Option.some.inj ed
  exact h v H (.refl _) r ⟨[], fun _ hb => absurd hb List.not_mem_nil, s.rep⟩
/-- what is read alone, as data -/
def toT (f : Env → Option D) : Env → R D := fun env => match f env with
  | some d => if d.noOwn then .ok d env else .no
  | none => .no
theorem i_toT {f : Env → Option D} {Q : VK} (h : tOf K C W (toT f) σ H Q) : bOf K C f σ H Q := by
  obtain ⟨M0, env, F, r, h⟩ := h
  cases ed : f env with
  | none => simp only [toT, ed] at h; exact h.elim
  | some d =>
    by_cases hn : d.noOwn = true
    · simp only [toT, ed, hn, if_true] at h
      refine ⟨M0, env, F, r, d, ed, fun v H' s r' ⟨G, hG, hv⟩ => ?_⟩
      obtain ⟨rfl, _⟩ := fz_noOwn hv hn
      exact h v H' F (Rel.data r' hv) (.same s.w fun b hb => .inl hb)
    · simp only [toT, ed, hn] at h; exact h.elim
/-! ### operators by values -/
/-- an operator's reading r does g -/
def Op2 (K : PySem.W.Frag) (C : CT) (r : R2) (g : D → D → Option D) : Prop := ∀ (M0 : Addr → Prop) (σ : L2.St) (env : Env) (F : List Addr) (H : Hp) (v w : V) (d e x : D) (Q : VK), Rel K C M0 H (some v :: some w :: σ) (some d :: some e :: env) F → g d e = some x →
  (∀ u H' F', Rel K C M0 H' (some u :: σ) (some x :: env) F' → Stp F H F' H' → Q u H') → r v w H Q
def Op1 (K : PySem.W.Frag) (C : CT) (r : V → Hp → VK → Prop) (g : D → Option D) : Prop := ∀ (M0 : Addr → Prop) (σ : L2.St) (env : Env) (F : List Addr) (H : Hp) (v : V) (d x : D) (Q : VK), Rel K C M0 H (some v :: σ) (some d :: env) F → g d = some x →
  (∀ u H' F', Rel K C M0 H' (some u :: σ) (some x :: env) F' → Stp F H F' H' → Q u H') → r v H Q
def lift1 (g : D → Option D) (f : Env → R D) : Env → R D := fun env => (f env).bind fun d e => match g d with | some x => .ok x e | none => .no
def lift2 (g : D → D → Option D) (f f2 : Env → R D) : Env → R D := fun env => (f env).bind fun d e1 => (f2 e1).bind fun d2 e2 => match g d d2 with | some x => .ok x e2 | none => .no
theorem i_op2 {r : R2} {g : D → D → Option D} {f f2 : Env → R D} {Q : VK} (o : Op2 K C r g) (h : tOf K C W (lift2 g f f2) σ H Q) : tOp r (tOf K C W f) (tOf K C W f2) σ H Q := by
  refine then_tOf (k := fun d e1 => (f2 e1).bind fun d2 e2 => match g d d2 with | some x => .ok x e2 | none => .no) (t := fun v σ H1 Q => tOf K C W f2 σ H1 fun y H2 => r v y H2 Q) h ?_
  intro d e1 v H1 M0 F r1 h1
  refine below_tOf r1 h1 ?_
  intro x e2 w H2 F2 r2 h2
  cases ey : g d x with
  | some y => rw [ey] at h2; exact o M0 σ e2 F2 H2 v w d x y Q r2 ey h2
  | none => rw [ey] at h2; exact h2.elim
theorem i_op1 {r : V → Hp → VK → Prop} {g : D → Option D} {f : Env → R D} {Q : VK} (o : Op1 K C r g) (h : tOf K C W (lift1 g f) σ H Q) : tUn r (tOf K C W f) σ H Q := by
  refine then_tOf (k := fun d e => match g d with | some x => .ok x e | none => .no) (t := fun v _ H1 Q => r v H1 Q) h ?_
  intro d e1 v H1 M0 F r1 h1
  cases ey : g d with
  | some y => rw [ey] at h1; exact o M0 σ e1 F H1 v d y Q r1 ey h1
  | none => rw [ey] at h1; exact h1.elim
theorem Op2.or {r r' : R2} {g g' : D → D → Option D} (h : Op2 K C r g) (h' : Op2 K C r' g') : Op2 K C (fun x y H Q => r x y H Q ∨ r' x y H Q) (fun d e => (g d e).or (g' d e)) := by
  intro M0 σ env F H v w d e x Q rl eg q
  have eg : (g d e).or (g' d e) = some x := eg
  cases e1 : g d e with
  | some y =>
    rw [e1] at eg
    obtain rfl : y = x := by simpa using eg
    exact .inl (h M0 σ env F H v w d e y Q rl e1 q)
  | none =>
    rw [e1] at eg
    exact .inr (h' M0 σ env F H v w d e x Q rl (by simpa using eg) q)
theorem OpR.or_ {X : Cx} {f : Value → Value → Sem Value} {r r' : R2} (h : OpR X f r) (h' : OpR X f r') : OpR X f (fun x y H Q => r x y H Q ∨ r' x y H Q) :=
  fun pins s σ H x y v u Q I rx ry q => q.elim (h pins s σ H x y v u Q I rx ry) (h' pins s σ H x y v u Q I rx ry)
theorem IxR.or_ {X : Cx} {r r' : R2} (h : IxR X r) (h' : IxR X r') : IxR X (fun x y H Q => r x y H Q ∨ r' x y H Q) :=
  fun a b pins s σ H x y v u Q I rx ry q => q.elim (h a b pins s σ H x y v u Q I rx ry) (h' a b pins s σ H x y v u Q I rx ry)
/-- ints on top -/
theorem Rel.two (r : Rel K C M0 H (some v :: some w :: σ) (some d :: some e :: env) F) : ∃ F1 F2 F3, F = F1 ++ (F2 ++ F3) ∧ Rep K C (orF M0 F) H v d F1 ∧ Rep K C (orF M0 F) H w e F2 ∧ ∃ F', Rel K C M0 H σ env F' ∧ ∀ b ∈ F', b ∈ F := by
  obtain ⟨F4, r4, s4⟩ := r.drop
  obtain ⟨F5, r5, s5⟩ := r4.drop
  have rr := r.rep
  cases rr with
  | have_ h t =>
    cases t with
    | have_ h2 t2 => exact ⟨_, _, _, rfl, h, h2, F5, r5, fun b hb => s4.subset (s5.subset hb)⟩
theorem Rel.sc1 (r : Rel K C M0 H (some v :: σ) (some d :: env) F) {u : V} {x : D} (s : Sc u x) {Q : VK} (q : ∀ u H' F', Rel K C M0 H' (some u :: σ) (some x :: env) F' → Stp F H F' H' → Q u H') : Q u H := by
  obtain ⟨F4, r4, s4⟩ := r.drop
  exact q u H F4 (Rel.data r4 s.rep) (.subl s4)
theorem Rel.sc2 (r : Rel K C M0 H (some v :: some w :: σ) (some d :: some e :: env) F) {u : V} {x : D} (s : Sc u x) {Q : VK} (q : ∀ u H' F', Rel K C M0 H' (some u :: σ) (some x :: env) F' → Stp F H F' H' → Q u H') : Q u H := by
  obtain ⟨F4, r4, s4⟩ := r.drop
  obtain ⟨F5, r5, s5⟩ := r4.drop
  exact q u H F5 (Rel.data r5 s.rep) (.sub fun b hb => s4.subset (s5.subset hb))
theorem op2_int {g : Int → Int → V} {g' : Int → Int → D} (hg : ∀ i j, Sc (g i j) (g' i j)) : Op2 K C (rI0 g) (fun d e => match d, e with | .int i, .int j => some (g' i j) | _, _ => none) := by
  intro M0 σ env F H v w d e x Q r eg q
  obtain ⟨F1, F2, F3, eF, hv, hw, _⟩ := r.two
  dsimp only at eg
  split at eg
  · cases hv; cases hw
    rename_i i j
    obtain rfl := Option.some.inj eg
    exact ⟨i, j, rfl, rfl, Rel.sc2 r (hg i j) q⟩
  · cases eg
/-! reading -/
theorem Rep.lstR {M : Addr → Prop} {o : Bool} {xs : List D} (h : Rep K C M H v (.lst o xs) F) : ∃ a vs G, v = .ref a ∧ H a = some (.lst vs) ∧ RepL K C M H vs xs G ∧ ∀ b ∈ G, b ∈ F := by
  cases h with
  | lst h _ t => exact ⟨_, _, _, rfl, hide_le _ _ h, t, fun _ hb => hb⟩
  | own h t => exact ⟨_, _, _, rfl, h, t, fun _ hb => List.mem_cons_of_mem _ hb⟩
theorem Rep.tupR {M : Addr → Prop} {xs : List D} (h : Rep K C M H v (.tup xs) F) : ∃ a vs, v = .ref a ∧ H a = some (.tup vs) ∧ RepL K C M H vs xs F := by
  cases h with
  | tup h t => exact ⟨_, _, rfl, hide_le _ _ h, t⟩
theorem RepL.get {M : Addr → Prop} : ∀ {vs : List V} {ds : List D} {F : List Addr} {i : Nat} {d : D}, RepL K C M H vs ds F → ds[i]? = some d → ∃ v G, vs[i]? = some v ∧ Rep K C M H v d G ∧ ∀ b ∈ G, b ∈ F
  | _, _, _, _, _, .nil, e => by simp at e
  | _, _, _, 0, _, .cons h _, e => by simp at e; subst e; exact ⟨_, _, rfl, h, fun b hb => List.mem_append_left _ hb⟩
  | _, _, _, i + 1, _, .cons _ t, e => by
    obtain ⟨v, G, h1, h2, h3⟩ := t.get (i := i) (by simpa using e)
    exact ⟨v, G, by simpa using h1, h2, fun b hb => List.mem_append_right _ (h3 b hb)⟩
theorem RepL.atI {M : Addr → Prop} {vs : List V} {ds : List D} {i : Int} {d : D} (h : RepL K C M H vs ds F) (e : L2.atI ds i = some d) : ∃ v G, L2.atI vs i = some v ∧ Rep K C M H v d G ∧ ∀ b ∈ G, b ∈ F := by
  unfold L2.atI at e ⊢
  rw [h.length]
  cases q : ixN ds.length i with
  | none => rw [q] at e; cases e
  | some j =>
    rw [q] at e
    exact h.get (by simpa using e)
end
end J
/-! Tests, statements, loops, calls. -/
namespace J
open PySem L2 PySem.Spec PyProof.Rows
section
variable {K : PySem.W.Frag} {C : CT} {W : Wish} {kp : List Nat} {M0 : Addr → Prop} {H H' H2 : Hp} {σ σ' : L2.St} {env env' : Env} {F F' F1 F2 G : List Addr} {v w : V} {d e : D}
/-! ### tests -/
def asB (f : Env → R D) : Env → R Bool := fun env => match f env with
  | .ok (.bl b) e => .ok b e
  | .ex c ns vs e => .ex c ns vs e
  | _ => .no
def ofB (f : Env → R Bool) : Env → R D := fun env => match f env with
  | .ok b e => .ok (.bl b) e
  | .ex c ns vs e => .ex c ns vs e
  | .no => .no
def andB (f g : Env → R Bool) : Env → R Bool := fun env => match f env with
  | .ok true e => g e
  | r => r
def orB (f g : Env → R Bool) : Env → R Bool := fun env => match f env with
  | .ok false e => g e
  | r => r
def notB (f : Env → R Bool) : Env → R Bool := fun env => match f env with
  | .ok b e => .ok (!b) e
  | .ex c ns vs e => .ex c ns vs e
  | .no => .no
theorem i_asB {f : Env → R D} {Q : Bool → Hp → Prop} (h : ttOf K C W (asB f) σ H Q) : tTest (tOf K C W f) σ H Q := by
  obtain ⟨M0, env, F, r, h⟩ := h
  refine ⟨M0, env, F, r, ?_⟩
  cases ef : f env with
  | no => simp only [asB, ef] at h; exact h
  | ex c ns ds e => simp only [asB, ef] at h; exact h
  | ok d e =>
    cases d with
    | bl b =>
      simp only [asB, ef] at h
      intro v H' F' r' s'
      obtain ⟨F4, r4, s4⟩ := r'.drop
      have rr := r'.rep
      cases rr with
      | have_ hv _ => cases hv; exact ⟨b, rfl, h H' F4 r4 (s'.trans (.subl s4))⟩
    | _ => simp only [asB, ef] at h; exact h.elim
theorem i_asB2 {f : Env → R D} {Q : Bool → Hp → Prop} (h : ttOf K C W (asB f) σ H Q) : tB (tOf K C W f) σ H Q := i_asB h
theorem i_andB {f g : Env → R Bool} {Q : Bool → Hp → Prop} (h : ttOf K C W (andB f g) σ H Q) : tAnd (ttOf K C W f) (ttOf K C W g) σ H Q := by
  obtain ⟨M0, env, F, r, h⟩ := h
  refine ⟨M0, env, F, r, ?_⟩
  cases ef : f env with
  | no => simp only [andB, ef] at h; exact h
  | ex c ns ds e => simp only [andB, ef] at h; exact h
  | ok b e =>
    cases b with
    | true =>
      simp only [andB, ef] at h
      intro H' F' r' s'
      rw [if_pos rfl]
      refine ⟨M0, e, F', r', ?_⟩
      cases eg : g e with
      | no => rw [eg] at h; exact h
      | ok b e2 => rw [eg] at h; exact fun H2 F2 r2 s2 => h H2 F2 r2 (s'.trans s2)
      | ex c ns ds e2 => rw [eg] at h; exact ExOk.trans h s'
    | false =>
      simp only [andB, ef] at h
      intro H' F' r' s'
      rw [if_neg (by decide)]
      exact h H' F' r' s'
theorem i_orB {f g : Env → R Bool} {Q : Bool → Hp → Prop} (h : ttOf K C W (orB f g) σ H Q) : tOr (ttOf K C W f) (ttOf K C W g) σ H Q := by
  obtain ⟨M0, env, F, r, h⟩ := h
  refine ⟨M0, env, F, r, ?_⟩
  cases ef : f env with
  | no => simp only [orB, ef] at h; exact h
  | ex c ns ds e => simp only [orB, ef] at h; exact h
  | ok b e =>
    cases b with
    | false =>
      simp only [orB, ef] at h
      intro H' F' r' s'
      rw [if_neg (by decide)]
      refine ⟨M0, e, F', r', ?_⟩
      cases eg : g e with
      | no => rw [eg] at h; exact h
      | ok b e2 => rw [eg] at h; exact fun H2 F2 r2 s2 => h H2 F2 r2 (s'.trans s2)
      | ex c ns ds e2 => rw [eg] at h; exact ExOk.trans h s'
    | true =>
      simp only [orB, ef] at h
      intro H' F' r' s'
      rw [if_pos rfl]
      exact h H' F' r' s'
theorem i_notB {f : Env → R Bool} {Q : Bool → Hp → Prop} (h : ttOf K C W (notB f) σ H Q) : tNot (ttOf K C W f) σ H Q := by
  obtain ⟨M0, env, F, r, h⟩ := h
  refine ⟨M0, env, F, r, ?_⟩
  cases ef : f env with
  | no => simp only [notB, ef] at h; exact h
  | ex c ns ds e => simp only [notB, ef] at h; exact h
  | ok b e => simp only [notB, ef] at h; exact h
/-- as values -/
theorem i_andV {f g : Env → R Bool} {Q : VK} (h : tOf K C W (ofB (andB f g)) σ H Q) : tAndV (tOf K C W (ofB f)) (tOf K C W (ofB g)) σ H Q := by
  obtain ⟨M0, env, F, r, h⟩ := h
  refine ⟨M0, env, F, r, ?_⟩
  cases ef : f env with
  | no => simp only [ofB, andB, ef] at h ⊢; exact h
  | ex c ns ds e => simp only [ofB, andB, ef] at h ⊢; exact h
  | ok b e =>
    simp only [ofB, ef]
    intro v H' F' r' s'
    obtain ⟨F4, r4, s4⟩ := r'.drop
    have rr := r'.rep
    cases rr with
    | have_ hv _ =>
      cases hv
      refine ⟨b, rfl, ?_⟩
      cases b with
      | true =>
        rw [if_pos rfl]
        simp only [ofB, andB, ef] at h
        refine ⟨M0, e, F4, r4, ?_⟩
        have s5 := s'.trans (Stp.subl s4)
        cases eg : g e with
        | no => rw [eg] at h; simp only [ofB, eg]; exact h
        | ok b e2 => rw [eg] at h; simp only [ofB, eg]; exact fun u H2 F2 r2 s2 => h u H2 F2 r2 (s5.trans s2)
        | ex c ns ds e2 => rw [eg] at h; simp only [ofB, eg]; exact ExOk.trans h s5
      | false =>
        rw [if_neg (by decide)]
        simp only [ofB, andB, ef] at h
        exact h (.bl false) H' _ r' s'
theorem i_orV {f g : Env → R Bool} {Q : VK} (h : tOf K C W (ofB (orB f g)) σ H Q) : tOrV (tOf K C W (ofB f)) (tOf K C W (ofB g)) σ H Q := by
  obtain ⟨M0, env, F, r, h⟩ := h
  refine ⟨M0, env, F, r, ?_⟩
  cases ef : f env with
  | no => simp only [ofB, orB, ef] at h ⊢; exact h
  | ex c ns ds e => simp only [ofB, orB, ef] at h ⊢; exact h
  | ok b e =>
    simp only [ofB, ef]
    intro v H' F' r' s'
    obtain ⟨F4, r4, s4⟩ := r'.drop
    have rr := r'.rep
    cases rr with
    | have_ hv _ =>
      cases hv
      refine ⟨b, rfl, ?_⟩
      cases b with
      | false =>
        rw [if_neg (by decide)]
        simp only [ofB, orB, ef] at h
        refine ⟨M0, e, F4, r4, ?_⟩
        have s5 := s'.trans (.subl s4)
        cases eg : g e with
        | no => rw [eg] at h; simp only [ofB, eg]; exact h
        | ok b e2 => rw [eg] at h; simp only [ofB, eg]; exact fun u H2 F2 r2 s2 => h u H2 F2 r2 (s5.trans s2)
        | ex c ns ds e2 => rw [eg] at h; simp only [ofB, eg]; exact ExOk.trans h s5
      | true =>
        rw [if_pos rfl]
        simp only [ofB, orB, ef] at h
        exact h (.bl true) H' _ r' s'
theorem i_notV {f : Env → R Bool} {Q : VK} (h : tOf K C W (ofB (notB f)) σ H Q) : tNotV (tOf K C W (ofB f)) σ H Q := by
  obtain ⟨M0, env, F, r, h⟩ := h
  refine ⟨M0, env, F, r, ?_⟩
  cases ef : f env with
  | no => simp only [ofB, notB, ef] at h ⊢; exact h
  | ex c ns ds e => simp only [ofB, notB, ef] at h ⊢; exact h
  | ok b e =>
    simp only [ofB, notB, ef] at h ⊢
    intro v H' F' r' s'
    obtain ⟨F4, r4, s4⟩ := r'.drop
    have rr := r'.rep
    cases rr with
    | have_ hv _ => cases hv; exact ⟨b, rfl, h _ H' F4 (Rel.data r4 (.bl _)) (s'.trans (.subl s4))⟩
/-- a value that is a bool -/
theorem i_ofB {f : Env → R D} {Q : VK} (h : tOf K C W (ofB (asB f)) σ H Q) : tOf K C W f σ H Q := by
  obtain ⟨M0, env, F, r, h⟩ := h
  refine ⟨M0, env, F, r, ?_⟩
  cases ef : f env with
  | no => simp only [ofB, asB, ef] at h ⊢; exact h
  | ex c ns ds e => simp only [ofB, asB, ef] at h ⊢; exact h
  | ok d e =>
    cases d with
    | bl b => simp only [ofB, asB, ef] at h ⊢; exact h
    | _ => simp only [ofB, asB, ef] at h ⊢; exact h.elim
def ifE (c : Env → R Bool) (f g : Env → R D) : Env → R D := fun env => match c env with
  | .ok true e => f e
  | .ok false e => g e
  | .ex c ns vs e => .ex c ns vs e
  | .no => .no
theorem i_ifE {c : Env → R Bool} {f g : Env → R D} {Q : VK} (h : tOf K C W (ifE c f g) σ H Q) : tIf (ttOf K C W c) (tOf K C W f) (tOf K C W g) σ H Q := by
  obtain ⟨M0, env, F, r, h⟩ := h
  refine ⟨M0, env, F, r, ?_⟩
  cases ef : c env with
  | no => simp only [ifE, ef] at h; exact h
  | ex c ns ds e => simp only [ifE, ef] at h; exact h
  | ok b e =>
    intro H' F' r' s'
    have fin : ∀ g : Env → R D, okT K C W M0 σ F H Q (g e) → tOf K C W g σ H' Q := fun g h => by
      refine ⟨M0, e, F', r', ?_⟩
      cases eg : g e with
      | no => rw [eg] at h; exact h
      | ok b e2 => rw [eg] at h; exact fun u H2 F2 r2 s2 => h u H2 F2 r2 (s'.trans s2)
      | ex c ns ds e2 => rw [eg] at h; exact ExOk.trans h s'
    cases b with
    | true => simp only [ifE, ef] at h; rw [if_pos rfl]; exact fin f h
    | false => simp only [ifE, ef] at h; rw [if_neg (by decide)]; exact fin g h
/-! ### statements -/
theorem okS_trans {E : Ends} {o : Out} (h : okS K C W kp M0 σ F H E o) (s : Stp F H F' H') (k : Kp kp σ σ') : okS K C W kp M0 σ' F' H' E o := by
  have kt : ∀ {τ}, Kp kp σ' τ → Kp kp σ τ := fun x i hi => (x i hi).trans (k i hi)
  cases o with
  | nx e => exact fun σ2 H2 F2 r2 s2 k2 => h σ2 H2 F2 r2 (s.trans s2) (kt k2)
  | rt d e => exact fun v σ2 H2 F2 r2 s2 k2 => h v σ2 H2 F2 r2 (s.trans s2) (kt k2)
  | bk e => exact fun σ2 H2 F2 r2 s2 k2 => h σ2 H2 F2 r2 (s.trans s2) (kt k2)
  | ct e => exact fun σ2 H2 F2 r2 s2 k2 => h σ2 H2 F2 r2 (s.trans s2) (kt k2)
  | ex c ns ds e => exact fun od vs σ2 H2 F2 r2 s2 k2 => h od vs σ2 H2 F2 r2 (s.trans s2) (kt k2)
  | no => exact h
theorem Kp.rfl : Kp kp σ σ := fun _ _ => Eq.refl _
theorem exS {E : Ends} {c : Nat} {ns : List Str} {ds : List D} (h : okS K C W kp M0 σ F H E (.ex c ns ds env)) : ExOk K C W M0 σ F H c ns ds env := fun od vs H' F' r s ho hl rl => h od vs σ H' F' r s Kp.rfl ho hl rl
theorem i_seq {f g : Env → Out} {E : Ends} (h : tS K C W kp (seqO f g) E σ H) : tSeq (tS K C W kp f) (tS K C W kp g) E σ H := by
  obtain ⟨M0, env, F, r, h⟩ := h
  refine ⟨M0, env, F, r, ?_⟩
  cases ef : f env with
  | nx e =>
    simp only [seqO, ef] at h
    exact fun σ' H' F' r' s' k' => ⟨M0, e, F', r', okS_trans h s' k'⟩
  | _ => simp only [seqO, ef] at h; exact h
theorem i_nil {E : Ends} (h : tS K C W kp nilO E σ H) : tNext E σ H := by
  obtain ⟨M0, env, F, r, h⟩ := h
  exact h σ H F r .refl Kp.rfl
theorem i_ret {f : Env → R D} {E : Ends} (h : tS K C W kp (retO f) E σ H) : tRet (tOf K C W f) E σ H := by
  obtain ⟨M0, env, F, r, h⟩ := h
  refine ⟨M0, env, F, r, ?_⟩
  cases ef : f env with
  | no => simp only [retO, ef] at h; exact h
  | ex c ns ds e => simp only [retO, ef] at h; exact exS h
  | ok d e => simp only [retO, ef] at h; exact fun v H' F' r' s' => h v σ H' F' r' s' Kp.rfl
theorem i_drop {f : Env → R D} {E : Ends} (h : tS K C W kp (dropO f) E σ H) : tDrop (tOf K C W f) E σ H := by
  obtain ⟨M0, env, F, r, h⟩ := h
  refine ⟨M0, env, F, r, ?_⟩
  cases ef : f env with
  | no => simp only [dropO, ef] at h; exact h
  | ex c ns ds e => simp only [dropO, ef] at h; exact exS h
  | ok d e =>
    simp only [dropO, ef] at h
    intro v H' F' r' s'
    obtain ⟨F4, r4, s4⟩ := r'.drop
    exact h σ H' F4 r4 (s'.trans (.subl s4)) Kp.rfl
theorem i_if {c : Env → R Bool} {f g : Env → Out} {E : Ends} (h : tS K C W kp (ifO c f g) E σ H) : tIfS (ttOf K C W c) (tS K C W kp f) (tS K C W kp g) E σ H := by
  obtain ⟨M0, env, F, r, h⟩ := h
  refine ⟨M0, env, F, r, ?_⟩
  cases ef : c env with
  | no => simp only [ifO, ef] at h; exact h
  | ex c ns ds e => simp only [ifO, ef] at h; exact exS h
  | ok b e =>
    intro H' F' r' s'
    cases b with
    | true => simp only [ifO, ef] at h; rw [if_pos rfl]; exact ⟨M0, e, F', r', okS_trans h s' Kp.rfl⟩
    | false => simp only [ifO, ef] at h; rw [if_neg (by decide)]; exact ⟨M0, e, F', r', okS_trans h s' Kp.rfl⟩
def bkO : Env → Out := fun env => .bk env
def ctO : Env → Out := fun env => .ct env
theorem i_asg {f : Env → R D} {g : D → Env → Option Env} {E : Ends} (h : tS K C W kp (asgO f g) E σ H) : tAsg (tOf K C W f) (gOf K C kp g) E σ H := by
  obtain ⟨M0, env, F, r, h⟩ := h
  refine ⟨M0, env, F, r, ?_⟩
  cases ef : f env with
  | no => simp only [asgO, ef] at h; exact h
  | ex c ns ds e => simp only [asgO, ef] at h; exact exS h
  | ok d e =>
    intro v H' F' r' s'
    cases eg : g d e with
    | none => simp only [asgO, ef, eg] at h; exact h.elim
    | some e2 =>
      simp only [asgO, ef, eg] at h
      exact ⟨M0, d, e, F', e2, r', eg, fun σ2 H2 F2 r2 s2 k2 => h σ2 H2 F2 r2 (s'.trans s2) k2⟩
/-! targets -/
def setG (i : Nat) : D → Env → Option Env := fun d env => if i < env.length then some (env.set i (some d)) else none
theorem i_setG {i : Nat} {Q : L2.St → Hp → Prop} (hk : i ∉ kp) (h : gOf K C kp (setG i) v σ H Q) : gName i v σ H Q := by
  obtain ⟨M0, d, env, F, e, r, eg, h⟩ := h
  unfold setG at eg
  by_cases hi : i < env.length
  · rw [if_pos hi] at eg
    obtain rfl := Option.some.inj eg
    obtain ⟨F', r', s'⟩ := r.store hi
    refine h _ H F' r' (.sub s') fun j hj => ?_
    rw [List.getElem?_set_ne]
    rintro rfl
    exact hk hj
  · rw [if_neg hi] at eg; cases eg
theorem RepL.toO {M : Addr → Prop} : ∀ {vs : List V} {ds : List D} {F : List Addr}, RepL K C M H vs ds F → RepO K C M H (vs.map some) (ds.map some) F
  | _, _, _, .nil => .nil
  | _, _, _, .cons h t => .have_ h t.toO
/-- a tuple on top is taken apart -/
theorem Rel.untup {ds : List D} (r : Rel K C M0 H (some v :: σ) (some (.tup ds) :: env) F) : ∃ a vs, v = .ref a ∧ SqT K H a vs ∧ vs.length = ds.length ∧ Rel K C M0 H (vs.map some ++ σ) (ds.map some ++ env) F := by
  obtain ⟨rep, nd, dj, al, zd⟩ := r
  cases rep with
  | have_ hv t =>
    cases hv with
    | tup h2 t2 => exact ⟨_, _, rfl, .inl (.inl (hide_le _ _ h2)), t2.length, t2.toO.app t, nd, dj, al, zd⟩
/-- upper slots are put aside -/
theorem Rel.pops {σ1 σ2 : List (Option V)} {e1 e2 : Env} (r : Rel K C M0 H (σ1 ++ σ2) (e1 ++ e2) F) (l : σ1.length = e1.length) : ∃ F1 F2, F = F1 ++ F2 ∧ RepO K C (orF M0 F) H σ1 e1 F1 ∧ Rel K C (orF M0 F1) H σ2 e2 F2 := by
  obtain ⟨rep, nd, dj, al, zd⟩ := r
  obtain ⟨F1, F2, rfl, a, b⟩ := RepO.split l rep
  have nd' := List.nodup_append.mp nd
  refine ⟨F1, F2, rfl, a, ⟨by rw [orF_app]; exact b, nd'.2.1, fun b hb z => ?_, fun b' z => ?_, by rw [orF_app]; exact zd⟩⟩
  · rcases z with z | z
    · exact dj b (List.mem_append_right _ hb) z
    · exact nd'.2.2 b z b hb rfl
  · rcases z with z | z
    · exact al b' z
    · exact repO_alive a b' z
theorem Rel.backs {σ1 σ2 : List (Option V)} {e1 e2 : Env} {τ : List (Option V)} {ε : Env} (r : Rel K C M0 H τ ε F) (F1 F2 : List Addr) (eF : F = F1 ++ F2) (h : RepO K C (orF M0 F) H σ1 e1 F1) (r2 : Rel K C (orF M0 F1) H' σ2 e2 F') (s : Stp F2 H F' H') :
    Rel K C M0 H' (σ1 ++ σ2) (e1 ++ e2) (F1 ++ F') ∧ Stp F H (F1 ++ F') H' := by
  subst eF
  have nd := r.nd
  rw [List.nodup_append] at nd
  have k1 : ∀ b ∈ F1, ∀ o, H b = some o → NT o → H' b = some o := fun b hb o e _ => s.keep b o (fun z => nd.2.2 b hb b z rfl) e
  have h1 : RepO K C (orF M0 (F1 ++ F')) H' σ1 e1 F1 := by
    refine repO_mono ?_ h k1
    rw [← orF_app, ← orF_app]
    refine Stp.hide s fun b hb z => ?_
    rcases z with z | z
    · exact r.dj b (List.mem_append_right _ hb) z
    · exact nd.2.2 b z b hb rfl
  have h2 := r2.rep
  rw [orF_app] at h2
  have zz := r2.zd
  rw [orF_app] at zz
  refine ⟨⟨h1.app h2, List.nodup_append.mpr ⟨nd.1, r2.nd, fun a ha b hb e => r2.dj b hb (.inr (e ▸ ha))⟩, fun b hb z => ?_, fun b z => r2.al b (.inl z), zz⟩, ⟨fun b o n e _ => s.keep b o (fun z => n (List.mem_append_right _ z)) e, fun b hb => ?_, s.tb⟩⟩
  · rcases List.mem_append.mp hb with q | q
    · exact r.dj b (List.mem_append_left _ q) z
    · exact r2.dj b q (.inl z)
  · rcases List.mem_append.mp hb with q | q
    · exact .inl (List.mem_append_left _ q)
    · exact (s.new b q).imp (List.mem_append_right _) id
/-- one value and a list of values change places -/
theorem Rel.swap {σ1 σ2 : List (Option V)} {e1 e2 : Env} {x : Option V} {y : Option D} (r : Rel K C M0 H (x :: (σ1 ++ σ2)) (y :: (e1 ++ e2)) F) (l : σ1.length = e1.length) : ∃ F', Rel K C M0 H (σ1 ++ (x :: σ2)) (e1 ++ (y :: e2)) F' ∧ ∀ b, b ∈ F' ↔ b ∈ F := by
  obtain ⟨rep, nd, dj, al, zd⟩ := r
  have rep : RepO K C (orF M0 F) H ([x] ++ (σ1 ++ σ2)) ([y] ++ (e1 ++ e2)) F := rep
  obtain ⟨F1, F2, rfl, a, b⟩ := RepO.split (by rfl) rep
  obtain ⟨F3, F4, rfl, b, c⟩ := RepO.split l b
  have m : ∀ b, b ∈ F3 ++ (F1 ++ F4) ↔ b ∈ F1 ++ (F3 ++ F4) := fun b => by simp only [List.mem_append]; exact ⟨fun h => by rcases h with h | h | h <;> simp [h], fun h => by rcases h with h | h | h <;> simp [h]⟩
  refine ⟨F3 ++ (F1 ++ F4), ⟨?_, nodup_mid nd, fun b hb => dj b ((m b).mp hb), al, by rw [orF_mid]; exact zd⟩, m⟩
  rw [orF_mid]
  exact b.app (a.app c)
def gsOf (K : PySem.W.Frag) (C : CT) (kp : List Nat) (g : List D → Env → Option Env) : TGs := fun vs σ H Q => ∃ M0 ds env F e, Rel K C M0 H (vs.map some ++ σ) (ds.map some ++ env) F ∧ vs.length = ds.length ∧ g ds env = some e ∧ ∀ σ' H' F', Rel K C M0 H' σ' e F' → Stp F H F' H' → Kp kp σ σ' → Q σ' H'
def nilG : List D → Env → Option Env := fun ds env => match ds with | [] => some env | _ => none
def consG (g : D → Env → Option Env) (k : List D → Env → Option Env) : List D → Env → Option Env := fun ds env => match ds with
  | d :: ds => (g d env).bind fun e => k ds e
  | [] => none
/-- the items of a tuple -/
def tupG (n : Nat) (g : List D → Env → Option Env) : D → Env → Option Env := fun d env => match d with
  | .tup ds => if ds.length = n then g ds env else none
  | _ => none
theorem i_nilG {vs : List V} {Q : L2.St → Hp → Prop} (h : gsOf K C kp nilG vs σ H Q) : gNil vs σ H Q := by
  obtain ⟨M0, ds, env, F, e, r, l, eg, h⟩ := h
  unfold nilG at eg
  cases ds with
  | nil =>
    obtain rfl := Option.some.inj eg
    obtain rfl : vs = [] := List.length_eq_zero_iff.mp l
    exact ⟨rfl, h σ H F r .refl Kp.rfl⟩
  | cons a b => cases eg
theorem i_consG {g : D → Env → Option Env} {k : List D → Env → Option Env} {vs : List V} {Q : L2.St → Hp → Prop} (h : gsOf K C kp (consG g k) vs σ H Q) : gCons (gOf K C kp g) (gsOf K C kp k) vs σ H Q := by
  obtain ⟨M0, ds, env, F, e, r, l, eg, h⟩ := h
  cases ds with
  | nil => cases eg
  | cons d ds =>
    cases vs with
    | nil => cases l
    | cons v vs =>
      cases e1 : g d env with
      | none => simp only [consG, e1, Option.bind_none] at eg; cases eg
      | some e2 =>
        simp only [consG, e1, Option.bind_some] at eg
        have l' : vs.length = ds.length := by simpa using l
        have lm : (vs.map some).length = (ds.map some).length := by simp [l']
        refine ⟨v, vs, rfl, ?_⟩
        obtain ⟨F0, r0, m0⟩ := Rel.swap (σ1 := vs.map some) (e1 := ds.map some) r lm
        obtain ⟨G1, G2, eG, hv, r2⟩ := Rel.pops r0 lm
        refine ⟨orF M0 G1, d, env, G2, e2, r2, e1, fun σ' H' F' r3 s3 k3 => ?_⟩
        obtain ⟨r4, s4⟩ := Rel.backs r0 G1 G2 eG hv r3 s3
        have s0 : Stp F H F0 H := .sub fun b hb => (m0 b).mp hb
        exact ⟨M0, ds, e2, _, e, r4, l', eg, fun σ2 H2 F2 r5 s5 k5 => h σ2 H2 F2 r5 ((s0.trans s4).trans s5) fun i hi => (k5 i hi).trans (k3 i hi)⟩
theorem i_tupG {n : Nat} {g : List D → Env → Option Env} {Q : L2.St → Hp → Prop} (h : gOf K C kp (tupG n g) v σ H Q) : gTup K n (gsOf K C kp g) v σ H Q := by
  obtain ⟨M0, d, env, F, e, r, eg, h⟩ := h
  unfold tupG at eg
  split at eg
  · rename_i ds
    split at eg
    · rename_i hn
      obtain ⟨a, vs, rfl, hs, lv, r1⟩ := r.untup
      exact ⟨a, vs, rfl, hs, lv.trans hn, M0, ds, env, F, e, r1, lv, eg, h⟩
    · cases eg
  · cases eg
/-! ### arguments, calls -/
theorem i_args0 {Q : List V → Hp → Prop} (h : aOf K C W args0 [] σ H Q) : tNil σ H Q := by
  obtain ⟨M0, env, F, r, h⟩ := h
  exact h [] H F r .refl rfl fun _ hq => by cases hq
theorem i_argV {f : Env → R D} {g : Env → R (List D)} {lk : List (Nat × Nat)} {Q : List V → Hp → Prop} (h : aOf K C W (argV f g) (lkV lk) σ H Q) : tCons (tOf K C W f) (aOf K C W g lk) σ H Q := by
  obtain ⟨M0, env, F, r, h⟩ := h
  refine ⟨M0, env, F, r, ?_⟩
  cases ef : f env with
  | no => simp only [argV, ef, R.bind] at h; exact h
  | ex c ns ds e => simp only [argV, ef, R.bind] at h; exact h
  | ok d e =>
    intro v H1 F1 r1 s1
    obtain ⟨G1, G2, eG, hv, r2⟩ := r1.pop
    refine ⟨orF M0 G1, e, G2, r2, ?_⟩
    cases eg : g e with
    | no => simp only [argV, ef, eg, R.bind] at h; exact h
    | ex c ns ds e2 => simp only [argV, ef, eg, R.bind] at h; subst eG; exact ExOk.lift h s1
    | ok ds e2 =>
      simp only [argV, ef, eg, R.bind] at h
      intro vs H2 F2 r3 s3 l3 k3
      obtain ⟨r4, s4⟩ := Rel.back r1 G1 G2 eG hv r3 s3
      refine h (v :: vs) H2 _ r4 (s1.trans s4) (by simp [l3]) fun q hq => ?_
      obtain ⟨q', hq', rfl⟩ := List.mem_map.mp hq
      obtain ⟨u, h1, h2⟩ := k3 q' hq'
      exact ⟨u, by simpa using h1, h2⟩
theorem i_argR {i : Nat} {g : Env → R (List D)} {lk : List (Nat × Nat)} {Q : List V → Hp → Prop} (h : aOf K C W (argR i g) ((0, i) :: lkV lk) σ H Q) : tCons (tVar i) (aOf K C W g lk) σ H Q := by
  obtain ⟨M0, env, F, r, h⟩ := h
  rcases ed : env[i]? with _ | _ | d
  · simp only [argR, ed] at h; exact h.elim
  · simp only [argR, ed] at h; exact h.elim
  obtain ⟨v, F1, hσ, r1, s1⟩ := r.take ed
  refine ⟨v, hσ, ?_⟩
  obtain ⟨G1, G2, eG, hv, r2⟩ := r1.pop
  refine ⟨orF M0 G1, _, G2, r2, ?_⟩
  have s1' : Stp F H F1 H := .sub s1
  cases eg : g (env.set i none) with
  | no => simp only [argR, ed, eg, R.bind] at h; exact h
  | ex c ns ds e2 => simp only [argR, ed, eg, R.bind] at h; subst eG; exact ExOk.lift h s1'
  | ok ds e2 =>
    simp only [argR, ed, eg, R.bind] at h
    intro vs H2 F2 r3 s3 l3 k3
    obtain ⟨r4, s4⟩ := Rel.back r1 G1 G2 eG hv r3 s3
    refine h (v :: vs) H2 _ r4 (s1'.trans s4) (by simp [l3]) fun q hq => ?_
    rcases List.mem_cons.mp hq with rfl | hq
    · exact ⟨v, rfl, hσ⟩
    · obtain ⟨q', hq', rfl⟩ := List.mem_map.mp hq
      obtain ⟨u, h1, h2⟩ := k3 q' hq'
      exact ⟨u, by simpa using h1, h2⟩
/-- a def by its pure run -/
structure Pure (n : Nat) (run : List D → R D) : Prop where
  len : ∀ ds, (∀ r outs, run ds = .ok r outs → outs.length = n) ∧ ∀ c ns xs outs, run ds = .ex c ns xs outs → outs.length = n
theorem Pure.defF {n l : Nat} {body : Env → Out} : Pure n (J.defF n kp l body) := ⟨fun _ => defF_outs⟩
theorem i_call {n : Nat} {run : List D → R D} {af : Env → R (List D)} {lk : List (Nat × Nat)} {Q : VK} (P : Pure n run) (hn : ∀ env ds e, af env = .ok ds e → ds.length = n) (h : tOf K C W (callF run lk af) σ H Q) : tCallSD (spP K C n run) [] W (aOf K C W af lk) σ H Q := by
  obtain ⟨M0, env, F, r, h⟩ := h
  refine ⟨M0, env, F, r, ?_⟩
  cases ef : af env with
  | no => simp only [callF, ef, R.bind] at h; exact h
  | ex c ns ds e => simp only [callF, ef, R.bind] at h; exact h
  | ok ds e =>
    simp only [callF, ef, R.bind] at h
    intro vs H1 F1 r1 s1 l1 k1
    rw [List.append_nil]
    refine call_core r1 l1 (hn _ _ _ ef) k1 (P.len ds).1 (P.len ds).2 ?_
    cases er : run ds with
    | no => rw [er] at h; exact h
    | ok x outs => rw [er] at h; exact fun u H2 F2 r2 s2 => h u H2 F2 r2 (s1.trans s2)
    | ex c ns xs outs => rw [er] at h; exact ExOk.trans h s1
end
end J
/-! What is walked; for, while, list comprehensions. -/
namespace J
open PySem L2 PySem.Spec PyProof.Rows
section
variable {K : PySem.W.Frag} {C : CT} {W : Wish} {kp : List Nat} {M0 : Addr → Prop} {H H' H2 : Hp} {σ σ' : L2.St} {env env' : Env} {F F' F1 F2 G : List Addr} {v w : V} {d e : D}
/-- J walks the items ds, wherever the data of (F0, H0) stand -/
def Walks (K : PySem.W.Frag) (C : CT) (J : It) (M0 : Addr → Prop) (F0 : List Addr) (H0 : Hp) (ds : List D) : Prop :=
  ∀ (i : Nat) (M1 : Addr → Prop) (σ : L2.St) (env : Env) (F : List Addr) (H : Hp), Rel K C M1 H σ env F → Same (hide (orF M0 F0) H0) (hide (orF M1 F) H) → (i < ds.length → J.go i H) ∧ (ds.length = i → J.stop i H) ∧
    ∀ x H', J.yld i H x H' → i < ds.length → ∃ d F', ds[i]? = some d ∧ Rel K C M1 H' (some x :: σ) (some d :: env) F' ∧ Stp F H F' H'
variable (K C W)
def okI (M0 : Addr → Prop) (σ : L2.St) (F : List Addr) (H : Hp) (Q : It → Hp → Prop) : R (List D) → Prop
  | .ok ds e => ∀ J H' F', Rel K C M0 H' σ e F' → Stp F H F' H' → Walks K C J M0 F' H' ds → Q J H'
  | .ex c ns ds e => ExOk K C W M0 σ F H c ns ds e
  | .no => False
def iOf (f : Env → R (List D)) : TI := fun σ H Q => ∃ M0 env F, Rel K C M0 H σ env F ∧ okI K C W M0 σ F H Q (f env)
variable {K C W}
/-- data stay data -/
theorem Rep.data (h : Rep K C (orF M0 F) H v d []) (r : Rel K C M0 H σ env F) (s : Stp F H F' H') : Rep K C (orF M0 F') H' v d [] :=
  rep_mono (Stp.hide s r.dj) h fun _ hb => absurd hb List.not_mem_nil
theorem RepL.data {vs : List V} {ds : List D} (h : RepL K C (orF M0 F) H vs ds []) (r : Rel K C M0 H σ env F) (s : Stp F H F' H') : RepL K C (orF M0 F') H' vs ds [] :=
  repL_mono (Stp.hide s r.dj) h fun _ hb => absurd hb List.not_mem_nil
/-- data on top, read -/
theorem Rel.dataTop (r : Rel K C M0 H (some v :: σ) (some d.fz :: env) F) : ∃ F', Rel K C M0 H σ env F' ∧ F'.Sublist F ∧ Rep K C (orF M0 F') H v d.fz [] := by
  have rr := r.rep
  cases rr with
  | have_ hv t =>
    rename_i F1 F2
    obtain ⟨rfl, _⟩ := fz_noOwn hv (Rel.dup.noOwn_fz d)
    have rd := r.drop
    obtain ⟨F', r', s'⟩ := rd
    exact ⟨F', r', s', rep_mono (hide_mono (.refl _) fun b z => .inl (z.imp id fun q => s'.subset q)) hv fun _ hb => absurd hb List.not_mem_nil⟩
/-- a list that is data, or was owned and is data from now on -/
def lstI (f : Env → R D) : Env → R (List D) := fun env => match f env with
  | .ok (.lst _ xs) e => .ok (D.fzL xs) e
  | .ex c ns vs e => .ex c ns vs e
  | _ => .no
theorem i_lstI {f : Env → R D} {Q : It → Hp → Prop} (h : iOf K C W (lstI f) σ H Q) : iList K (tOf K C W f) σ H Q := by
  obtain ⟨M0, env, F, r, h⟩ := h
  refine ⟨M0, env, F, r, ?_⟩
  cases ef : f env with
  | no => simp only [lstI, ef] at h; exact h
  | ex c ns ds e => simp only [lstI, ef] at h; exact h
  | ok d e =>
    cases d with
    | lst o xs =>
      simp only [lstI, ef] at h
      intro v H1 F1 r1 s1
      obtain ⟨F2, r2, s2⟩ := r1.fz
      obtain ⟨F3, r3, s3, hv⟩ := r2.dataTop
      have s03 := s1.trans (.sub fun b hb => s2.subset (s3.subset hb))
      have hv' : Rep K C (orF M0 F3) H1 v (.lst false (D.fzL xs)) [] := hv
      cases hv' with
      | lst hs hF t =>
        rename_i a vs
        have hs : SqL K (_root_.J.hide (orF M0 F3) H1) a vs := .of hs
        refine ⟨a, rfl, ⟨vs, sqL_le hs⟩, h _ H1 F3 r3 s03 fun i M1 σ' env' F' H' r' hd => ?_⟩
        have hs' : SqL K H' a vs := sqL_le (sqL_hide hd hs)
        have t' := repL_mono (M' := orF M1 F') (H' := H') hd t fun _ hb => absurd hb List.not_mem_nil
        refine ⟨fun hi => ⟨vs, vs[i]'(by rw [t.length]; exact hi), hs', List.getElem?_eq_getElem _⟩, fun hi => ⟨vs, hs', by rw [t.length]; exact Nat.le_of_eq hi⟩, fun x H'' y hi => ?_⟩
        obtain ⟨rfl, y⟩ := y
        obtain ⟨u, G, e1, e2, e3⟩ := t'.get (i := i) (d := (D.fzL xs)[i]) (List.getElem?_eq_getElem hi)
        have := y vs hs'
        rw [e1] at this
        obtain rfl := Option.some.inj this
        obtain rfl : G = [] := List.eq_nil_iff_forall_not_mem.mpr fun b hb => absurd (e3 b hb) List.not_mem_nil
        exact ⟨_, F', List.getElem?_eq_getElem hi, Rel.data r' e2, .refl⟩
    | _ => simp only [lstI, ef] at h; exact h.elim
/-- the items of a tuple -/
def tupI (f : Env → R D) : Env → R (List D) := fun env => match f env with
  | .ok (.tup xs) e => .ok (D.fzL xs) e
  | .ex c ns vs e => .ex c ns vs e
  | _ => .no
theorem i_tupI {f : Env → R D} {Q : It → Hp → Prop} (h : iOf K C W (tupI f) σ H Q) : iTup K (tOf K C W f) σ H Q := by
  obtain ⟨M0, env, F, r, h⟩ := h
  refine ⟨M0, env, F, r, ?_⟩
  cases ef : f env with
  | no => simp only [tupI, ef] at h; exact h
  | ex c ns ds e => simp only [tupI, ef] at h; exact h
  | ok d e =>
    cases d with
    | tup xs =>
      simp only [tupI, ef] at h
      intro v H1 F1 r1 s1
      obtain ⟨F2, r2, s2⟩ := r1.fz
      obtain ⟨F3, r3, s3, hv⟩ := r2.dataTop
      have s03 := s1.trans (.sub fun b hb => s2.subset (s3.subset hb))
      have hv' : Rep K C (orF M0 F3) H1 v (.tup (D.fzL xs)) [] := hv
      cases hv' with
      | tup hs t =>
        rename_i a vs
        have hs : SqT K (_root_.J.hide (orF M0 F3) H1) a vs := .inl (.inl hs)
        refine ⟨a, rfl, ⟨vs, sqT_le hs⟩, h _ H1 F3 r3 s03 fun i M1 σ' env' F' H' r' hd => ?_⟩
        have hs' : SqT K H' a vs := sqT_le (sqT_hide hd hs)
        have t' := repL_mono (M' := orF M1 F') (H' := H') hd t fun _ hb => absurd hb List.not_mem_nil
        refine ⟨fun hi => ⟨vs, vs[i]'(by rw [t.length]; exact hi), hs', List.getElem?_eq_getElem _⟩, fun hi => ⟨vs, hs', by rw [t.length]; exact Nat.le_of_eq hi⟩, fun x H'' y hi => ?_⟩
        obtain ⟨rfl, y⟩ := y
        obtain ⟨u, G, e1, e2, e3⟩ := t'.get (i := i) (d := (D.fzL xs)[i]) (List.getElem?_eq_getElem hi)
        have := y vs hs'
        rw [e1] at this
        obtain rfl := Option.some.inj this
        obtain rfl : G = [] := List.eq_nil_iff_forall_not_mem.mpr fun b hb => absurd (e3 b hb) List.not_mem_nil
        exact ⟨_, F', List.getElem?_eq_getElem hi, Rel.data r' e2, .refl⟩
    | _ => simp only [tupI, ef] at h; exact h.elim
/-- a new object that holds data: data itself -/
theorem Rel.newData {o : HO} {p : Addr} {x : D} (r : Rel K C M0 H σ env F) (np : H p = none) (h : ∀ M', (∀ b, M' b → orF M0 F b) → ¬ M' p → Rep K C M' (upd H p o) (.ref p) x []) : Rel K C M0 (upd H p o) (some (.ref p) :: σ) (some x :: env) F ∧ Stp F H F (upd H p o) := by
  have nF : p ∉ F := fun z => (repO_alive r.rep p z).ne np
  have nM : ¬ M0 p := fun z => (r.al p z).ne np
  refine ⟨Rel.data ⟨repO_mono (hide_mono (new_sameW np) fun b z => .inl z) r.rep fun b _ o e _ => new_same np b o e, r.nd, r.dj, fun b z => (r.al b z).same (new_sameW np), r.zd.mono (hide_mono (new_sameW np) fun b z => .inl z)⟩ (h _ (fun b z => z) fun z => z.elim nM nF), .same (new_sameW np) fun b hb => .inl hb⟩
/-- enumerate, of a list -/
def enumD (k : Int) (xs : List D) : List D := (List.range xs.length).map fun i => .tup [.int (k + (i : Nat)), xs.getD i .non]
def enumI (k : Int) (f : Env → R (List D)) : Env → R (List D) := fun env => match f env with
  | .ok [.lst _ xs] e => .ok (enumD k (D.fzL xs)) e
  | .ex c ns vs e => .ex c ns vs e
  | _ => .no
theorem enumD_length {k : Int} {xs : List D} : (enumD k xs).length = xs.length := by simp [enumD]
theorem enumD_get {k : Int} {xs : List D} {i : Nat} (h : i < xs.length) : (enumD k xs)[i]? = some (.tup [.int (k + (i : Nat)), xs[i]]) := by
  simp [enumD, h]
theorem enum_walks {k : Int} {xs : List D} {J : It} {a : Addr} {vs : List V} (r3 : Rel K C M0 H σ env F) (hs : SqL K (_root_.J.hide (orF M0 F) H) a vs) (t : RepL K C (orF M0 F) H vs xs [])
    (j1 : ∀ i H, (∃ (xs : List V) (x : V), SqL K H a xs ∧ xs[i]? = some x) → J.go i H) (j2 : ∀ i H, (∃ xs : List V, SqL K H a xs ∧ xs.length = i) → J.stop i H)
    (j3 : ∀ i H v H', J.yld i H v H' → (∃ xs : List V, SqL K H a xs ∧ i < xs.length) → ∃ T x, v = .ref T ∧ H T = none ∧ H' = upd H T (.tup [.int (k + (i : Nat)), x]) ∧ ∀ xs, SqL K H a xs → xs[i]? = some x) : Walks K C J M0 F H (enumD k xs) := by
  intro i M1 σ' env' F' H' r' hd
  have hs' : SqL K H' a vs := sqL_le (sqL_hide hd hs)
  have t' := repL_mono (M' := orF M1 F') (H' := H') hd t fun _ hb => absurd hb List.not_mem_nil
  rw [enumD_length]
  refine ⟨fun hi => j1 _ _ ⟨vs, vs[i]'(by rw [t.length]; exact hi), hs', List.getElem?_eq_getElem _⟩, fun hi => j2 _ _ ⟨vs, hs', by rw [t.length]; exact hi⟩, fun x H'' y hi => ?_⟩
  obtain ⟨T, z, rfl, nT, rfl, y2⟩ := j3 _ _ _ _ y ⟨vs, hs', by rw [t.length]; exact hi⟩
  obtain ⟨u, G, e1, e2, e3⟩ := t'.get (i := i) (d := xs[i]) (List.getElem?_eq_getElem hi)
  have := y2 vs hs'
  rw [e1] at this
  obtain rfl := Option.some.inj this
  obtain rfl : G = [] := List.eq_nil_iff_forall_not_mem.mpr fun b hb => absurd (e3 b hb) List.not_mem_nil
  obtain ⟨r4, s4⟩ := Rel.newData (o := .tup [.int (k + (i : Nat)), u]) (x := .tup [.int (k + (i : Nat)), xs[i]]) r' nT fun M' hM nM => .tup (F := []) (hide_at nM upd_same) (.cons (F := []) (G := []) (.int _) (.cons (F := []) (G := []) (rep_mono (hide_mono (new_sameW nT) fun b z => .inl (hM b z)) e2 fun _ hb => absurd hb List.not_mem_nil) .nil))
  exact ⟨_, F', enumD_get hi, r4, s4⟩
theorem i_enumI {f : Env → R (List D)} {Q : It → Hp → Prop} (h : iOf K C W (enumI 0 f) σ H Q) : iEnum K (aOf K C W f []) σ H Q := by
  obtain ⟨M0, env, F, r, h⟩ := h
  refine ⟨M0, env, F, r, ?_⟩
  cases ef : f env with
  | no => simp only [enumI, ef] at h; exact h
  | ex c ns ds e => simp only [enumI, ef] at h; exact h
  | ok ds e =>
    unfold enumI at h
    rw [ef] at h
    split at h
    · rename_i o xs e' heq
      obtain ⟨rfl, rfl⟩ : ds = [.lst o xs] ∧ e = e' := by injection heq with a b; exact ⟨a, b⟩
      intro vs0 H1 F1 r1 s1 l1 k1
      obtain ⟨v, rfl⟩ : ∃ v, vs0 = [v] := List.length_eq_one_iff.mp l1
      obtain ⟨F2, r2, s2⟩ := Rel.fz (d := .lst o xs) r1
      obtain ⟨F3, r3, s3, hv⟩ := r2.dataTop
      have s03 := s1.trans (.sub fun b hb => s2.subset (s3.subset hb))
      have hv' : Rep K C (orF M0 F3) H1 v (.lst false (D.fzL xs)) [] := hv
      cases hv' with
      | lst hs hF t =>
        rename_i a vs
        have hs : SqL K (_root_.J.hide (orF M0 F3) H1) a vs := .of hs
        refine ⟨a, vs, rfl, sqL_le hs, h _ H1 F3 r3 s03 (enum_walks (J := Ite K a) r3 hs t (fun i H z => z) (fun i H ⟨ys, h1, h2⟩ => ⟨ys, h1, Nat.le_of_eq h2⟩) fun i H v H' y _ => ?_)⟩
        obtain ⟨T, x, a, b, c, d⟩ := y
        exact ⟨T, x, a, b, by rw [Int.zero_add]; exact c, d⟩
    · rename_i heq; cases heq
    · exact h.elim
def enumSI (f g : Env → R (List D)) : Env → R (List D) := fun env => match f env with
  | .ok [.lst _ xs] e => (match g e with
    | .ok [.int k] e2 => if -(2 ^ 62) ≤ k ∧ k < 2 ^ 62 then .ok (enumD k (D.fzL xs)) e2 else .no
    | _ => .no)
  | .ex c ns vs e => .ex c ns vs e
  | _ => .no
def rngD (lo : Int) (n : Nat) : List D := (List.range n).map fun i => .int (lo + (i : Nat))
theorem rng_walks {lo : Int} {n : Nat} : Walks K C (Itr lo n) M0 F H (rngD lo n) := by
  intro i M1 σ' env' F' H' r' hd
  have l : (rngD lo n).length = n := by simp [rngD]
  rw [l]
  refine ⟨fun hi => hi, fun hi => Nat.le_of_eq hi, fun x H'' y hi => ?_⟩
  obtain ⟨rfl, rfl⟩ := y
  exact ⟨.int (lo + i), F', by simp [rngD, hi], Rel.data r' (.int _), .refl⟩
def rng1I (f : Env → R (List D)) : Env → R (List D) := fun env => match f env with
  | .ok [.int j] e => if -(2 ^ 62) ≤ j ∧ j < 2 ^ 62 then .ok (rngD 0 j.toNat) e else .no
  | .ex c ns vs e => .ex c ns vs e
  | _ => .no
def rng2I (f : Env → R (List D)) : Env → R (List D) := fun env => match f env with
  | .ok [.int i, .int j] e => if -(2 ^ 62) ≤ i ∧ i < 2 ^ 62 ∧ -(2 ^ 62) ≤ j ∧ j < 2 ^ 62 then .ok (rngD i (j - i).toNat) e else .no
  | .ex c ns vs e => .ex c ns vs e
  | _ => .no
theorem i_rng1I {f : Env → R (List D)} {Q : It → Hp → Prop} (h : iOf K C W (rng1I f) σ H Q) : iRng1 (aOf K C W f []) σ H Q := by
  obtain ⟨M0, env, F, r, h⟩ := h
  refine ⟨M0, env, F, r, ?_⟩
  unfold rng1I at h
  split at h
  · rename_i j e ef
    rw [ef]
    split at h
    · rename_i hj
      intro vs0 H1 F1 r1 s1 l1 k1
      obtain ⟨v, rfl⟩ : ∃ v, vs0 = [v] := List.length_eq_one_iff.mp l1
      obtain ⟨F2, r2, s2⟩ := Rel.drop r1
      have rr := r1.rep
      cases rr with
      | have_ hv _ => cases hv; exact ⟨j, rfl, hj.1, hj.2, h _ H1 F2 r2 (s1.trans (.subl s2)) rng_walks⟩
    · exact h.elim
  · rename_i ef; rw [ef]; exact h
  · exact h.elim
theorem i_rng2I {f : Env → R (List D)} {Q : It → Hp → Prop} (h : iOf K C W (rng2I f) σ H Q) : iRng2 (aOf K C W f []) σ H Q := by
  obtain ⟨M0, env, F, r, h⟩ := h
  refine ⟨M0, env, F, r, ?_⟩
  unfold rng2I at h
  split at h
  · rename_i i j e ef
    rw [ef]
    split at h
    · rename_i hj
      intro vs0 H1 F1 r1 s1 l1 k1
      obtain ⟨v, w, rfl⟩ : ∃ v w, vs0 = [v, w] := by
        match vs0, l1 with | [v, w], _ => exact ⟨v, w, rfl⟩
      obtain ⟨F2, r2, s2⟩ := Rel.drop r1
      obtain ⟨F3, r3, s3⟩ := Rel.drop r2
      have rr := r1.rep
      cases rr with
      | have_ hv t =>
        cases t with
        | have_ hw _ =>
        cases hv
        cases hw
        exact ⟨i, j, rfl, hj, h _ H1 F3 r3 (s1.trans (.sub fun b hb => s2.subset (s3.subset hb))) rng_walks⟩
    · exact h.elim
  · rename_i ef; rw [ef]; exact h
  · exact h.elim
/-- zip of two lists -/
def zipD (xs ys : List D) : List D := List.zipWith (fun x y => .tup [x, y]) xs ys
/-! ### for -/
def forL (g : D → Env → Option Env) (b : Env → Out) : List D → Env → Out
  | [], e => .nx e
  | d :: ds, e => match g d e with
    | none => .no
    | some e1 => match b e1 with
      | .nx e2 => forL g b ds e2
      | .ct e2 => forL g b ds e2
      | .bk e2 => .nx e2
      | o => o
def forO (it : Env → R (List D)) (g : D → Env → Option Env) (b : Env → Out) : Env → Out := fun env => match it env with
  | .ok ds e => forL g b ds e
  | .ex c ns vs e => .ex c ns vs e
  | .no => .no
theorem i_for0 {it : Env → R (List D)} {g : D → Env → Option Env} {b : Env → Out} {E : Ends} (h : okS K C W kp M0 σ F H E (forO it g b env)) : tFor (fun σ H R => okI K C W M0 σ F H R (it env)) (gOf K C kp g) (tS K C W kp b) E σ H := by
  show okI K C W M0 σ F H _ (it env)
  cases ef : it env with
  | no => simp only [forO, ef] at h; exact h
  | ex c ns ds e => simp only [forO, ef] at h; exact exS h
  | ok ds e =>
    simp only [forO, ef] at h
    intro J H1 F1 r1 s1 wk
    have h := okS_trans h s1 Kp.rfl
    -- the rest of the loop does the same
    refine ⟨fun i m σ' H' => m = ds.length - i ∧ i ≤ ds.length ∧ ∃ e' F', Rel K C M0 H' σ' e' F' ∧ Stp F1 H1 F' H' ∧ Kp kp σ σ' ∧ okS K C W kp M0 σ' F' H' E (forL g b (ds.drop i) e'), ⟨ds.length, by simp, Nat.zero_le _, e, F1, r1, .refl, Kp.rfl, h⟩, ?_⟩
    rintro i m σ' H' ⟨rfl, hi, e', F', r', s', k', ho⟩
    obtain ⟨wgo, wst, wy⟩ := wk i M0 σ' e' F' H' r' (Stp.hide s' r1.dj)
    rcases Nat.lt_or_ge i ds.length with lt | ge
    · refine .inr ⟨wgo lt, fun σ2 H2 => ∃ e2 F2, Rel K C M0 H2 σ2 e2 F2 ∧ Stp F1 H1 F2 H2 ∧ Kp kp σ σ2 ∧ okS K C W kp M0 σ2 F2 H2 E (forL g b (ds.drop (i + 1)) e2), fun σ2 H2 z => ⟨ds.length - (i + 1), by omega, rfl, lt, z⟩, fun x H2 y => ?_⟩
      obtain ⟨d, F2, ed, r2, s2⟩ := wy x H2 y lt
      have edr : ds.drop i = d :: ds.drop (i + 1) := by
        rw [List.drop_eq_getElem_cons lt]
        rw [List.getElem?_eq_getElem lt] at ed
        rw [Option.some.inj ed]
      rw [edr] at ho
      cases eg : g d e' with
      | none => simp only [forL, eg] at ho; exact ho.elim
      | some e3 =>
        simp only [forL, eg] at ho
        refine ⟨M0, d, e', F2, e3, r2, eg, fun σ3 H3 F3 r3 s3 k3 => ⟨M0, e3, F3, r3, ?_⟩⟩
        have s23 := s2.trans s3
        have s13 := s'.trans s23
        have kk : Kp kp σ σ3 := fun j hj => (k3 j hj).trans (k' j hj)
        cases eb : b e3 with
        | nx e4 =>
          simp only [eb] at ho
          exact fun σ4 H4 F4 r4 s4 k4 => ⟨e4, F4, r4, s13.trans s4, fun j hj => (k4 j hj).trans (kk j hj), okS_trans ho (s23.trans s4) fun j hj => (k4 j hj).trans (k3 j hj)⟩
        | ct e4 =>
          simp only [eb] at ho
          exact fun σ4 H4 F4 r4 s4 k4 => ⟨e4, F4, r4, s13.trans s4, fun j hj => (k4 j hj).trans (kk j hj), okS_trans ho (s23.trans s4) fun j hj => (k4 j hj).trans (k3 j hj)⟩
        | bk e4 =>
          simp only [eb] at ho
          exact fun σ4 H4 F4 r4 s4 k4 => ho σ4 H4 F4 r4 (s23.trans s4) fun j hj => (k4 j hj).trans (k3 j hj)
        | rt x e4 =>
          simp only [eb] at ho
          exact fun v σ4 H4 F4 r4 s4 k4 => ho v σ4 H4 F4 r4 (s23.trans s4) fun j hj => (k4 j hj).trans (k3 j hj)
        | ex c ns xs e4 =>
          simp only [eb] at ho
          exact fun od vs σ4 H4 F4 r4 s4 k4 => ho od vs σ4 H4 F4 r4 (s23.trans s4) fun j hj => (k4 j hj).trans (k3 j hj)
        | no => simp only [eb] at ho; exact ho.elim
    · obtain rfl : i = ds.length := Nat.le_antisymm hi ge
      rw [List.drop_length] at ho
      exact .inl ⟨wst rfl, ho σ' H' F' r' .refl Kp.rfl⟩
theorem i_for {it : Env → R (List D)} {g : D → Env → Option Env} {b : Env → Out} {E : Ends} (h : tS K C W kp (forO it g b) E σ H) : tFor (iOf K C W it) (gOf K C kp g) (tS K C W kp b) E σ H := by
  obtain ⟨M0, env, F, r, h⟩ := h
  exact ⟨M0, env, F, r, i_for0 h⟩
/-! ### while -/
def whileL (c : Env → R Bool) (b : Env → Out) : Nat → Env → Out
  | 0, _ => .no
  | n + 1, e => match c e with
    | .ok true e1 => (match b e1 with
      | .nx e2 => whileL c b n e2
      | .ct e2 => whileL c b n e2
      | .bk e2 => .nx e2
      | o => o)
    | .ok false e1 => .nx e1
    | .ex c ns vs e => .ex c ns vs e
    | .no => .no
theorem i_while {n : Nat} {c : Env → R Bool} {b : Env → Out} {E : Ends} (h : tS K C W kp (whileL c b n) E σ H) : tWhile (ttOf K C W c) (tS K C W kp b) E σ H := by
  obtain ⟨M0, env, F, r, h⟩ := h
  refine ⟨fun m σ' H' => ∃ e' F', Rel K C M0 H' σ' e' F' ∧ Kp kp σ σ' ∧ okS K C W kp M0 σ' F' H' E (whileL c b m e'), ⟨n, env, F, r, Kp.rfl, h⟩, ?_⟩
  rintro m σ' H' ⟨e', F', r', k', ho⟩
  cases m with
  | zero => exact ho.elim
  | succ m =>
    refine ⟨M0, e', F', r', ?_⟩
    cases ec : c e' with
    | no => simp only [whileL, ec] at ho; exact ho
    | ex c ns ds e => simp only [whileL, ec] at ho; exact exS ho
    | ok t e1 =>
      intro H1 F1 r1 s1
      cases t with
      | false =>
        simp only [whileL, ec] at ho
        rw [if_neg (by decide)]
        exact ho σ' H1 F1 r1 s1 Kp.rfl
      | true =>
        simp only [whileL, ec] at ho
        rw [if_pos rfl]
        refine ⟨fun σ2 H2 => ∃ e2 F2, Rel K C M0 H2 σ2 e2 F2 ∧ Kp kp σ σ2 ∧ okS K C W kp M0 σ2 F2 H2 E (whileL c b m e2), fun σ2 H2 z => ⟨m, Nat.lt_succ_self _, z⟩, M0, e1, F1, r1, ?_⟩
        cases eb : b e1 with
        | nx e4 =>
          simp only [eb] at ho
          exact fun σ4 H4 F4 r4 s4 k4 => ⟨e4, F4, r4, fun j hj => (k4 j hj).trans (k' j hj), okS_trans ho (s1.trans s4) k4⟩
        | ct e4 =>
          simp only [eb] at ho
          exact fun σ4 H4 F4 r4 s4 k4 => ⟨e4, F4, r4, fun j hj => (k4 j hj).trans (k' j hj), okS_trans ho (s1.trans s4) k4⟩
        | bk e4 =>
          simp only [eb] at ho
          exact fun σ4 H4 F4 r4 s4 k4 => ho σ4 H4 F4 r4 (s1.trans s4) k4
        | rt x e4 =>
          simp only [eb] at ho
          exact fun v σ4 H4 F4 r4 s4 k4 => ho v σ4 H4 F4 r4 (s1.trans s4) k4
        | ex c ns xs e4 =>
          simp only [eb] at ho
          exact fun od vs σ4 H4 F4 r4 s4 k4 => ho od vs σ4 H4 F4 r4 (s1.trans s4) k4
        | no => simp only [eb] at ho; exact ho.elim
end
end J
/-! Owned containers written; list comprehensions; displays. -/
namespace J
open PySem L2 PySem.Spec PyProof.Rows
section
variable {K : PySem.W.Frag} {C : CT} {W : Wish} {kp : List Nat} {M0 : Addr → Prop} {H H' H2 : Hp} {σ σ' : L2.St} {env env' : Env} {F F' F1 F2 G G' : List Addr} {v w : V} {d e : D} {l : Addr} {o : HO}
theorem hide_upd {M : Addr → Prop} (h : M l) (t : TbK H (upd H l o)) : Same (hide M H) (hide M (upd H l o)) := hide_sub (fun b o' n e _ => by rw [upd_ne (fun z => n (by rw [z]; exact h))]; exact e) t fun _ _ n _ => n
theorem rep_upd {M : Addr → Prop} (h : M l) (t : TbK H (upd H l o)) (n : l ∉ G) (x : Rep K C M H v d G) : Rep K C M (upd H l o) v d G := rep_mono (hide_upd h t) x fun b hb o' e _ => by rw [upd_ne (fun z => n (by rw [← z]; exact hb))]; exact e
theorem repL_upd {M : Addr → Prop} (h : M l) (t : TbK H (upd H l o)) (n : l ∉ G) {vs : List V} {ds : List D} (x : RepL K C M H vs ds G) : RepL K C M (upd H l o) vs ds G := repL_mono (hide_upd h t) x fun b hb o' e _ => by rw [upd_ne (fun z => n (by rw [← z]; exact hb))]; exact e
theorem repO_upd {M : Addr → Prop} (h : M l) (t : TbK H (upd H l o)) (n : l ∉ G) (x : RepO K C M H σ env G) : RepO K C M (upd H l o) σ env G := repO_mono (hide_upd h t) x fun b hb o' e _ => by rw [upd_ne (fun z => n (by rw [← z]; exact hb))]; exact e
/-- the object at l, owned by what stands on top, is written; G: what its items own, G': what the new items own -/
theorem own_write {x : D} (lv : Liv H l) (nd : (l :: (G ++ F2)).Nodup) (dj : ∀ b ∈ l :: (G ++ F2), ¬ M0 b) (al : ∀ b, M0 b → Liv H b) (zd : Zd K C (orF M0 (l :: (G ++ F2))) H) (tail : RepO K C (orF M0 (l :: (G ++ F2))) H σ env F2) (nd' : G'.Nodup) (sub : ∀ b ∈ G', b ∈ G)
    (mk : ∀ M', (∀ b, M' b → orF M0 (l :: (G ++ F2)) b) → M' l → Rep K C M' (upd H l o) (.ref l) x (l :: G')) :
    Rel K C M0 (upd H l o) (some (.ref l) :: σ) (some x :: env) (l :: (G' ++ F2)) ∧ Stp (l :: (G ++ F2)) H (l :: (G' ++ F2)) (upd H l o) := by
  have nd0 := List.nodup_cons.mp nd
  have nd1 := List.nodup_append.mp nd0.2
  have mem : ∀ b ∈ l :: (G' ++ F2), b ∈ l :: (G ++ F2) := fun b hb => by
    rcases List.mem_cons.mp hb with q | q
    · exact q ▸ List.mem_cons_self ..
    · exact List.mem_cons_of_mem _ ((List.mem_append.mp q).elim (fun z => List.mem_append_left _ (sub b z)) fun z => List.mem_append_right _ z)
  refine ⟨⟨?_, List.nodup_cons.mpr ⟨fun z => nd0.1 ((List.mem_append.mp z).elim (fun q => List.mem_append_left _ (sub l q)) fun q => List.mem_append_right _ q), List.nodup_append.mpr ⟨nd', nd1.2.1, fun a ha b hb => nd1.2.2 a (sub a ha) b hb⟩⟩, fun b hb => dj b (mem b hb), fun b z => (al b z).upd fun e => dj l (List.mem_cons_self ..) (e ▸ z), zd.mono ((hide_upd (.inr (List.mem_cons_self ..)) lv.tbk).trans (hide_mono (.refl _) fun b z => .inl (z.imp id (mem b))))⟩, ⟨fun b o' n e _ => ?_, fun b hb => .inl (mem b hb), lv.tbk⟩⟩
  · have t2 := repO_upd (o := o) (.inr (List.mem_cons_self ..)) lv.tbk (fun z => nd0.1 (List.mem_append_right _ z)) tail
    have t3 := repO_mono (M' := orF M0 (l :: (G' ++ F2))) (hide_mono (.refl _) fun b z => .inl (z.imp id (mem b))) t2 fun _ _ _ e _ => e
    exact .have_ (F := l :: G') (G := F2) (mk _ (fun b z => z.imp id (mem b)) (.inr (List.mem_cons_self ..))) t3
  · rw [upd_ne (fun z => n (by rw [z]; exact List.mem_cons_self ..))]; exact e
theorem RepL.app {M : Addr → Prop} : ∀ {vs ws : List V} {ds es : List D} {F G : List Addr}, RepL K C M H vs ds F → RepL K C M H ws es G → RepL K C M H (vs ++ ws) (ds ++ es) (F ++ G)
  | _, _, _, _, _, _, .nil, h => h
  | _, _, _, _, _, _, .cons a t, h => by rw [List.append_assoc]; exact .cons a (t.app h)
theorem Rel.append {xs : List D} (r : Rel K C M0 H (some (.ref l) :: some v :: σ) (some (.lst true xs) :: some d :: env) F) : ∃ ys F', H l = some (.lst ys) ∧ ys.length = xs.length ∧ Rel K C M0 (upd H l (.lst (ys ++ [v]))) (some (.ref l) :: σ) (some (.lst true (xs ++ [d])) :: env) F' ∧ Stp F H F' (upd H l (.lst (ys ++ [v]))) := by
  obtain ⟨rep, nd, dj, al, zd⟩ := r
  cases rep with
  | have_ h t =>
    cases t with
    | have_ hv t =>
      cases h with
      | own hl tl =>
        rename_i F1 F2 ys G
        have eq : (l :: G) ++ (F1 ++ F2) = l :: ((G ++ F1) ++ F2) := by simp
        rw [eq] at nd dj t hv tl zd ⊢
        have nd0 := List.nodup_cons.mp nd
        obtain ⟨r2, s2⟩ := own_write (G := G ++ F1) (G' := G ++ F1) (o := .lst (ys ++ [v])) (x := .lst true (xs ++ [d])) (liv_of hl) nd dj al zd t (List.nodup_append.mp nd0.2).1 (fun _ h => h) fun M' hM ml => .own upd_same (by
          have h2 := tl.app (.cons hv .nil)
          rw [List.append_nil] at h2
          have h3 := repL_upd (o := .lst (ys ++ [v])) (.inr (List.mem_cons_self ..)) (liv_of hl).tbk (fun z => nd0.1 (List.mem_append_left _ z)) h2
          exact repL_mono (hide_mono (.refl _) fun b z => .inl (hM b z)) h3 fun _ _ _ e _ => e)
        exact ⟨ys, _, hl, tl.length, r2, s2⟩
/-! slots of a comprehension -/
def wipeE (e : Env) : List Nat → Env
  | [] => e
  | v :: vs => (wipeE e vs).set v none
theorem Rel.forget {i : Nat} {x : Option V} (r : Rel K C M0 H σ env F) : ∃ F', Rel K C M0 H (σ.set i x) (env.set i none) F' ∧ F'.Sublist F := by
  obtain ⟨F', a, s⟩ := r.rep.forget i x
  exact ⟨F', .mono_ a r.nd s r.dj r.al r.zd, s⟩
theorem Rel.wipe_ (r : Rel K C M0 H σ env F) : ∀ vs, ∃ F', Rel K C M0 H (wipe σ vs) (wipeE env vs) F' ∧ F'.Sublist F
  | [] => ⟨F, r, .refl _⟩
  | v :: vs => by
    obtain ⟨F1, r1, s1⟩ := Rel.wipe_ r vs
    obtain ⟨F2, r2, s2⟩ := r1.forget (i := v) (x := none)
    exact ⟨F2, r2, s2.trans s1⟩
theorem wipeE_at (e : Env) : ∀ vs i, i ∈ vs → ∀ d, (wipeE e vs)[i]? ≠ some (some d)
  | v :: vs, i, h, d => by
    simp only [wipeE]
    intro z
    by_cases q : v = i
    · subst q
      rw [List.getElem?_set] at z
      split at z
      · split at z <;> cases z
      · cases ‹¬ v = v› rfl
    · rw [List.getElem?_set_ne q] at z
      rcases List.mem_cons.mp h with rfl | h
      · exact q rfl
      · exact wipeE_at e vs i h d z
theorem wipe_ne {σ : L2.St} : ∀ vs i, i ∉ vs → (wipe σ vs)[i]? = σ[i]?
  | [], _, _ => rfl
  | v :: vs, i, h => by
    simp only [wipe]
    rw [List.getElem?_set_ne (fun z => h (by rw [z]; exact List.mem_cons_self ..)), wipe_ne vs i fun z => h (List.mem_cons_of_mem _ z)]
theorem wipe_ext {σ τ : L2.St} (hl : σ.length = τ.length) : ∀ vs, (∀ i, i ∉ vs → σ[i]? = τ[i]?) → wipe σ vs = wipe τ vs := fun vs h => by
  have wl : (wipe σ vs).length = (wipe τ vs).length := by rw [wipe_length, wipe_length, hl]
  refine List.ext_getElem? fun i => ?_
  by_cases hi : i ∈ vs
  · have at_ : ∀ (ρ : L2.St) (vs : List Nat), i ∈ vs → (wipe ρ vs)[i]? = if i < ρ.length then some none else none := fun ρ vs => by
      induction vs with
      | nil => intro h; cases h
      | cons v vs ih =>
        intro h
        simp only [wipe]
        by_cases q : v = i
        · subst q
          rw [List.getElem?_set, wipe_length]
          simp
        · rw [List.getElem?_set_ne q]
          exact ih ((List.mem_cons.mp h).resolve_left fun z => q z.symm)
    rw [at_ σ vs hi, at_ τ vs hi, hl]
  · rw [wipe_ne vs i hi, wipe_ne vs i hi, h i hi]
theorem RepO.reslot {M : Addr → Prop} : ∀ {σ σ' : List (Option V)} {e : Env} {F : List Addr}, RepO K C M H σ e F → σ'.length = σ.length → (∀ (i : Nat) (d : D), e[i]? = some (some d) → σ'[i]? = σ[i]?) → RepO K C M H σ' e F
  | _, [], _, _, .nil, _, _ => .nil
  | _, x :: σ', _, _, .gone t, l, h => .gone (RepO.reslot t (by simpa using l) fun i d e => by simpa using h (i + 1) d (by simpa using e))
  | _, x :: σ', _, _, .have_ a t, l, h => by
    have e := h 0 _ rfl
    simp only [List.getElem?_cons_zero, Option.some.injEq] at e
    subst e
    exact .have_ a (RepO.reslot t (by simpa using l) fun i d e => by simpa using h (i + 1) d (by simpa using e))
theorem Rel.reslot (r : Rel K C M0 H σ env F) (l : σ'.length = σ.length) (h : ∀ (i : Nat) (d : D), env[i]? = some (some d) → σ'[i]? = σ[i]?) : Rel K C M0 H σ' env F := ⟨r.rep.reslot l h, r.nd, r.dj, r.al, r.zd⟩
/-! ### [elt for target in iter if test] -/
def W0 : Wish := fun _ _ _ _ => False
def compL (g : D → Env → Option Env) (c : Env → R Bool) (f : Env → R D) (vs : List Nat) : List D → List D → Env → R D
  | acc, [], e => .ok (.lst true acc) e
  | acc, d :: ds, e => match g d e with
    | none => .no
    | some e1 => match c e1 with
      | .ok true e2 => (match f e2 with
        | .ok x e3 => compL g c f vs (acc ++ [x]) ds (wipeE e3 vs)
        | _ => .no)
      | .ok false e2 => compL g c f vs acc ds (wipeE e2 vs)
      | _ => .no
def compO (it : Env → R (List D)) (g : D → Env → Option Env) (c : Env → R Bool) (f : Env → R D) (vs : List Nat) : Env → R D := fun env => match it env with
  | .ok ds e => if ds.length ≤ 1000000 then compL g c f vs [] ds (wipeE e vs) else .no
  | .ex c ns vs e => .ex c ns vs e
  | .no => .no
def yesB : Env → R Bool := fun e => .ok true e
theorem i_yes {Q : Bool → Hp → Prop} (h : ttOf K C W yesB σ H Q) : tYes σ H Q := by
  obtain ⟨M0, env, F, r, h⟩ := h
  exact h H F r .refl
theorem okT_trans {Q : VK} {o : R D} (h : okT K C W M0 σ F H Q o) (s : Stp F H F' H') : okT K C W M0 σ F' H' Q o := by
  cases o with
  | ok d e => exact fun u H2 F2 r2 s2 => h u H2 F2 r2 (s.trans s2)
  | ex c ns ds e => exact ExOk.trans h s
  | no => exact h
theorem i_comp {it : Env → R (List D)} {g : D → Env → Option Env} {c : Env → R Bool} {f : Env → R D} {vs : List Nat} {n : Nat} {Q : VK} (hn : ∀ i, i < n → i ∉ vs → i ∈ kp) (hσ : σ.length = n) (hg : ∀ d e e1, g d e = some e1 → e1.length = e.length) (h : tOf K C W (compO it g c f vs) σ H Q) :
    tLc (iOf K C W it) (gOf K C kp g) (ttOf K C W0 c) (tOf K C W0 f) vs σ H Q := by
  obtain ⟨M0, env, F, r, h⟩ := h
  refine ⟨M0, env, F, r, ?_⟩
  cases ef : it env with
  | no => simp only [compO, ef] at h; exact h
  | ex c ns ds e => simp only [compO, ef] at h; exact h
  | ok ds e =>
    simp only [compO, ef] at h
    split at h
    case isFalse => exact h.elim
    rename_i hsz
    intro J H1 F1 r1 s1 wk Dd nD
    obtain ⟨Fw, rw_, sw⟩ := r1.wipe_ vs
    obtain ⟨r2, s2⟩ := Rel.new (p := Dd) (o := .lst []) (x := .lst true []) rw_ nD fun M' _ => .own (F := []) upd_same .nil
    have s02 := s1.trans ((Stp.subl sw).trans s2)
    refine ⟨fun i m H' => m = ds.length - i ∧ i ≤ ds.length ∧ ∃ acc e' FF, acc.length ≤ i ∧ Rel K C M0 H' (some (.ref Dd) :: wipe σ vs) (some (.lst true acc) :: e') FF ∧ (∀ j ∈ vs, ∀ d, e'[j]? ≠ some (some d)) ∧ Stp F1 H1 FF H' ∧ okT K C W M0 σ FF H' Q (compL g c f vs acc (ds.drop i) e'),
      ⟨ds.length, by simp, Nat.zero_le _, [], wipeE e vs, _, Nat.le_refl _, r2, wipeE_at e vs, (Stp.subl sw).trans s2, okT_trans h s02⟩, ?_⟩
    rintro i m H' ⟨rfl, hi, acc, e', FF, ha, r', we, s', ho⟩
    obtain ⟨G1, G2, eG, hD, r4⟩ := r'.pop
    have hd : Same (hide (orF M0 F1) H1) (hide (orF (orF M0 G1) G2) H') := by
      rw [orF_app, ← eG]; exact Stp.hide s' r1.dj
    obtain ⟨wgo, wst, wy⟩ := wk i (orF M0 G1) (wipe σ vs) e' G2 H' r4 hd
    rcases Nat.lt_or_ge i ds.length with lt | ge
    · refine .inr ⟨wgo lt, fun H2 => ∃ acc e' FF, acc.length ≤ i + 1 ∧ Rel K C M0 H2 (some (.ref Dd) :: wipe σ vs) (some (.lst true acc) :: e') FF ∧ (∀ j ∈ vs, ∀ d, e'[j]? ≠ some (some d)) ∧ Stp F1 H1 FF H2 ∧ okT K C W M0 σ FF H2 Q (compL g c f vs acc (ds.drop (i + 1)) e'), fun H2 z => ⟨ds.length - (i + 1), by omega, rfl, lt, z⟩, fun x H2 y => ?_⟩
      obtain ⟨d, F2, ed, r5, s5⟩ := wy x H2 y lt
      have edr : ds.drop i = d :: ds.drop (i + 1) := by
        rw [List.drop_eq_getElem_cons lt]
        rw [List.getElem?_eq_getElem lt] at ed
        rw [Option.some.inj ed]
      rw [edr] at ho
      cases eg : g d e' with
      | none => simp only [compL, eg] at ho; exact ho.elim
      | some e3 =>
        simp only [compL, eg] at ho
        refine ⟨orF M0 G1, d, e', F2, e3, r5, eg, fun σ3 H3 F3 r6 s6 k6 => ?_⟩
        have l3 : σ3.length = n := by rw [r6.rep.length, hg _ _ _ eg, ← r4.rep.length, wipe_length, hσ]
        have wσ : wipe σ3 vs = wipe σ vs := wipe_ext (by rw [l3, hσ]) vs fun j hj => by
          rcases Nat.lt_or_ge j n with q | q
          · rw [k6 j (hn j q hj), wipe_ne vs j hj]
          · rw [List.getElem?_eq_none (by omega), List.getElem?_eq_none (by omega)]
        refine ⟨wσ, orF M0 G1, e3, F3, r6, ?_⟩
        have s56 := s5.trans s6
        -- the end of a turn without an item
        have fin : ∀ (acc2 : List D) (σ4 : L2.St) (e4 : Env) (H4 : Hp) (FF4 : List Addr), σ4 = σ3 → acc2.length ≤ i + 1 → Rel K C M0 H4 (some (.ref Dd) :: σ4) (some (.lst true acc2) :: e4) FF4 → Stp FF H' FF4 H4 → okT K C W M0 σ FF H' Q (compL g c f vs acc2 (ds.drop (i + 1)) (wipeE e4 vs)) →
            ∃ acc e' FF, acc.length ≤ i + 1 ∧ Rel K C M0 H4 (some (.ref Dd) :: wipe σ vs) (some (.lst true acc) :: e') FF ∧ (∀ j ∈ vs, ∀ d, e'[j]? ≠ some (some d)) ∧ Stp F1 H1 FF H4 ∧ okT K C W M0 σ FF H4 Q (compL g c f vs acc (ds.drop (i + 1)) e') := by
          intro acc2 σ4 e4 H4 FF4 eσ hacc r7 s7 ho
          obtain ⟨X1, X2, eX, hX, r8⟩ := r7.pop
          obtain ⟨X3, r9, s9⟩ := r8.wipe_ vs
          rw [eσ, wσ] at r9
          obtain ⟨r10, s10⟩ := Rel.back r7 X1 X2 eX hX r9 (.subl s9)
          exact ⟨acc2, wipeE e4 vs, _, hacc, r10, wipeE_at e4 vs, s'.trans (s7.trans s10), okT_trans ho (s7.trans s10)⟩
        cases ec : c e3 with
        | no => simp only [ec] at ho; exact ho.elim
        | ex c2 ns xs e4 => simp only [ec] at ho; exact ho.elim
        | ok t e4 =>
          intro H5 F5 r7 s7
          have s57 := s56.trans s7
          cases t with
          | false =>
            simp only [ec] at ho
            rw [if_neg (by decide)]
            obtain ⟨r8, s8⟩ := Rel.back r' G1 G2 eG hD r7 s57
            exact fin acc σ3 e4 H5 _ rfl (by omega) r8 s8 ho
          | true =>
            simp only [ec] at ho
            rw [if_pos rfl]
            refine ⟨orF M0 G1, e4, F5, r7, ?_⟩
            cases eF : f e4 with
            | no => simp only [eF] at ho; exact ho.elim
            | ex c2 ns xs e5 => simp only [eF] at ho; exact ho.elim
            | ok x e5 =>
              simp only [eF] at ho
              intro y H6 F6 r8 s8
              obtain ⟨r9, s9⟩ := Rel.back r' G1 G2 eG hD r8 (s57.trans s8)
              obtain ⟨ys, FF7, hl, ly, r10, s10⟩ := r9.append
              have hlt : ys.length < sizeLine := by
                have : ys.length < 1000000 := by omega
                exact Nat.lt_of_lt_of_le this (by rw [sizeLine_eq]; decide)
              exact ⟨ys, hl, hlt, fin (acc ++ [x]) σ3 e5 _ FF7 rfl (by simp; omega) r10 (s9.trans s10) ho⟩
    · obtain rfl : i = ds.length := Nat.le_antisymm hi ge
      rw [List.drop_length] at ho
      refine .inl ⟨wst rfl, ho (.ref Dd) H' FF (r'.reslot (by simp [wipe_length]) fun j d ej => ?_) .refl⟩
      cases j with
      | zero => rfl
      | succ j =>
        simp only [List.getElem?_cons_succ] at ej ⊢
        exact (wipe_ne vs j fun z => we j z d ej).symm
/-! ### displays -/
def lstF (f : Env → R (List D)) : Env → R D := fun env => match f env with
  | .ok ds e => if ds.length ≤ 1000000 then .ok (.lst true ds) e else .no
  | .ex c ns vs e => .ex c ns vs e
  | .no => .no
def tupF (f : Env → R (List D)) : Env → R D := fun env => match f env with
  | .ok ds e => if ds.length ≤ 1000000 then .ok (.tup ds) e else .no
  | .ex c ns vs e => .ex c ns vs e
  | .no => .no
/-- the values on top are the items of a new object -/
theorem Rel.pack {vs : List V} {ds : List D} {p : Addr} {x : D} (own : Bool) (r : Rel K C M0 H (vs.map some ++ σ) (ds.map some ++ env) F) (l : vs.length = ds.length) (np : H p = none)
    (mk : ∀ M' G, (M' p ↔ own = true) → RepL K C M' (upd H p o) vs ds G → Rep K C M' (upd H p o) (.ref p) x (if own then p :: G else G)) : ∃ F', Rel K C M0 (upd H p o) (some (.ref p) :: σ) (some x :: env) F' ∧ Stp F H F' (upd H p o) := by
  obtain ⟨rep, nd, dj, al, zd⟩ := r
  obtain ⟨G1, G2, rfl, a, b⟩ := RepO.split (by simp [l]) rep
  have toL : ∀ {M : Addr → Prop} {vs : List V} {ds : List D} {G : List Addr}, RepO K C M H (vs.map some) (ds.map some) G → RepL K C M H vs ds G := by
    intro M vs
    induction vs with
    | nil => intro ds G h; cases ds with | nil => cases h; exact .nil | cons d ds => cases h
    | cons v vs ih =>
      intro ds G h
      cases ds with
      | nil => cases h
      | cons d ds => cases h with | have_ h t => exact .cons h (ih t)
  have nF : p ∉ G1 ++ G2 := fun z => (repO_alive rep p z).ne np
  have nM : ¬ M0 p := fun z => (al p z).ne np
  have up : SameW H (upd H p o) := new_sameW np
  have al' : ∀ b, M0 b → Liv (upd H p o) b := fun b z => (al b z).same up
  cases own with
  | true =>
    have s1 : Same (hide (orF M0 (G1 ++ G2)) H) (hide (orF M0 (p :: (G1 ++ G2))) (upd H p o)) := hide_mono up fun b z => by
      rcases z with z | z
      · exact .inl (.inl z)
      · exact (List.mem_cons.mp z).elim (fun q => .inr (by rw [q]; exact np)) fun q => .inl (.inr q)
    refine ⟨p :: (G1 ++ G2), ⟨?_, List.nodup_cons.mpr ⟨nF, nd⟩, fun b hb => ?_, al', zd.mono s1⟩, .same up fun b hb => ?_⟩
    · have hm := mk (orF M0 (p :: (G1 ++ G2))) G1 ⟨fun _ => rfl, fun _ => .inr (List.mem_cons_self ..)⟩ (repL_mono s1 (toL a) fun b _ o e n => up.keep b o e n)
      rw [if_pos rfl] at hm
      exact .have_ (F := p :: G1) (G := G2) hm (repO_mono s1 b fun b _ o e n => up.keep b o e n)
    · rcases List.mem_cons.mp hb with q | q
      · rw [q]; exact nM
      · exact dj b q
    · rcases List.mem_cons.mp hb with q | q
      · exact .inr (by rw [q]; exact np)
      · exact .inl q
  | false =>
    have s1 : Same (hide (orF M0 (G1 ++ G2)) H) (hide (orF M0 (G1 ++ G2)) (upd H p o)) := hide_mono up fun b z => .inl z
    refine ⟨G1 ++ G2, ⟨?_, nd, dj, al', zd.mono s1⟩, .same up fun b hb => .inl hb⟩
    have hm := mk (orF M0 (G1 ++ G2)) G1 ⟨fun z => absurd z (fun z => z.elim nM nF), fun z => nomatch z⟩ (repL_mono s1 (toL a) fun b _ o e n => up.keep b o e n)
    rw [if_neg (by decide)] at hm
    exact .have_ hm (repO_mono s1 b fun b _ o e n => up.keep b o e n)
theorem i_lst {f : Env → R (List D)} {Q : VK} (h : tOf K C W (lstF f) σ H Q) : tLst (aOf K C W f []) σ H Q := by
  obtain ⟨M0, env, F, r, h⟩ := h
  refine ⟨M0, env, F, r, ?_⟩
  cases ef : f env with
  | no => simp only [lstF, ef] at h; exact h
  | ex c ns ds e => simp only [lstF, ef] at h; exact h
  | ok ds e =>
    simp only [lstF, ef] at h
    split at h
    case isFalse => exact h.elim
    rename_i hz
    intro vs H1 F1 r1 s1 l1 k1
    refine ⟨Nat.le_trans (by omega : vs.length ≤ 1000000) (by rw [sizeLine_eq]; decide), fun p np => ?_⟩
    obtain ⟨F2, r2, s2⟩ := Rel.pack (o := .lst vs) (x := .lst true ds) true r1 l1 np fun M' G hM t => by rw [if_pos rfl]; exact .own upd_same t
    exact h _ _ F2 r2 (s1.trans s2)
theorem i_tup {f : Env → R (List D)} {Q : VK} (h : tOf K C W (tupF f) σ H Q) : tTup (aOf K C W f []) σ H Q := by
  obtain ⟨M0, env, F, r, h⟩ := h
  refine ⟨M0, env, F, r, ?_⟩
  cases ef : f env with
  | no => simp only [tupF, ef] at h; exact h
  | ex c ns ds e => simp only [tupF, ef] at h; exact h
  | ok ds e =>
    simp only [tupF, ef] at h
    split at h
    case isFalse => exact h.elim
    rename_i hz
    intro vs H1 F1 r1 s1 l1 k1
    refine ⟨Nat.le_trans (by omega : vs.length ≤ 1000000) (by rw [sizeLine_eq]; decide), fun p np => ?_⟩
    obtain ⟨F2, r2, s2⟩ := Rel.pack (o := .tup vs) (x := .tup ds) false r1 l1 np fun M' G hM t => by
      rw [if_neg (by decide)]
      exact .tup (hide_at (fun z => Bool.noConfusion (hM.mp z)) upd_same) t
    exact h _ _ F2 r2 (s1.trans s2)
end
end J
/-! Operators and built-ins on pure values. -/
namespace J
open PySem L2 PySem.Spec PyProof.Rows
section
variable {K : PySem.W.Frag} {C : CT} {W : Wish} {kp : List Nat} {M0 : Addr → Prop} {H H' H2 : Hp} {σ σ' : L2.St} {env env' : Env} {F F' F1 F2 G G' : List Addr} {v w : V} {d e : D} {l : Addr} {o : HO} {X : Cx}
/-! data, as the library has it -/
mutual
def D.toP : D → PyData
  | .non => .none | .bl b => .bool b | .int i => .int i | .str s => .str s
  | .lst _ xs => .list (D.toPL xs)
  | .scr xs => .list (D.toPL xs)
  | .tup xs => .tuple (D.toPL xs)
  | .dK _ _ _ => .dict [] | .dT _ _ _ => .dict [] | .tK _ _ => .dict [] | .ins _ _ _ _ => .dict [] | .hole => .dict [] | .exc => .dict []
def D.toPL : List D → List PyData
  | [] => []
  | d :: ds => d.toP :: D.toPL ds
end
mutual
/-- without dicts and instances -/
def D.okP : D → Bool
  | .non => true | .bl _ => true | .int _ => true | .str _ => true
  | .lst _ xs => D.okPL xs
  | .scr xs => D.okPL xs
  | .tup xs => D.okPL xs
  | .dK _ _ _ => false | .dT _ _ _ => false | .tK _ _ => false | .ins _ _ _ _ => false | .hole => false | .exc => false
def D.okPL : List D → Bool
  | [] => true
  | d :: ds => d.okP && D.okPL ds
end
theorem toPL_ints (ns : List Int) : D.toPL (ns.map D.int) = ns.map PyData.int := by
  induction ns with
  | nil => rfl
  | cons a b ih => simp only [List.map_cons, D.toPL, D.toP, ih]
mutual
theorem rep_dp {M : Addr → Prop} : ∀ {v : V} {d : D} {F : List Addr}, Rep K C M H v d F → d.okP = true → Dp K H v d.toP
  | _, _, _, .non, _ => .non
  | _, _, _, .bl b, _ => .bl b
  | _, _, _, .int i, _ => .int i
  | _, _, _, .str x, _ => .str x
  | _, _, _, .hole v, k => nomatch k
  | _, _, _, .exc, k => nomatch k
  | _, _, _, .lst h _ t, k => .lst (.of (hide_le _ _ h)) (repL_dp t k)
  | _, _, _, .own h t, k => .lst (.of h) (repL_dp t k)
  | _, _, _, .scr (ns := ns) h, _ => .lst (sqL_le h) (by rw [toPL_ints]; exact ints_dpAll ns)
  | _, _, _, .tup h t, k => .tup (.inl (.inl (hide_le _ _ h))) (repL_dp t k)
  | _, _, _, .dKf _ _ _ _, k => nomatch k
  | _, _, _, .dKo _ _ _, k => nomatch k
  | _, _, _, .tK _ _ _ _, k => nomatch k
  | _, _, _, .dTf _ _ _ _, k => nomatch k
  | _, _, _, .dTo _ _ _, k => nomatch k
  | _, _, _, .insF _ _ _ _, k => nomatch k
  | _, _, _, .insO _ _ _, k => nomatch k
theorem repL_dp {M : Addr → Prop} : ∀ {vs : List V} {ds : List D} {F : List Addr}, RepL K C M H vs ds F → D.okPL ds = true → DpAll K H vs (D.toPL ds)
  | _, _, _, .nil, _ => .nil
  | _, _, _, .cons h t, k => by
    simp only [D.okPL, Bool.and_eq_true] at k
    exact .cons (rep_dp h k.1) (repL_dp t k.2)
end
def shp (d : D) : Bool := d.okP && SeqAt.shaped d.toP
def eqD (d e : D) : Option D := if shp d && shp e then some (.bl (PyData.eqv d.toP e.toP)) else none
def neD (d e : D) : Option D := if shp d && shp e then some (.bl (!PyData.eqv d.toP e.toP)) else none
theorem p_eqD : Op2 K C (rEqD K) eqD := by
  intro M0 σ env F H v w d e x Q r eg q
  obtain ⟨F1, F2, F3, eF, hv, hw, _⟩ := r.two
  unfold eqD at eg
  split at eg
  · rename_i hs
    simp only [shp, Bool.and_eq_true] at hs
    obtain rfl := Option.some.inj eg
    exact ⟨_, _, rep_dp hv hs.1.1, rep_dp hw hs.2.1, hs.1.2, hs.2.2, Rel.sc2 r (.bl _) q⟩
  · cases eg
theorem p_neD : Op2 K C (rNeD K) neD := by
  intro M0 σ env F H v w d e x Q r eg q
  obtain ⟨F1, F2, F3, eF, hv, hw, _⟩ := r.two
  unfold neD at eg
  split at eg
  · rename_i hs
    simp only [shp, Bool.and_eq_true] at hs
    obtain rfl := Option.some.inj eg
    exact ⟨_, _, rep_dp hv hs.1.1, rep_dp hw hs.2.1, hs.1.2, hs.2.2, Rel.sc2 r (.bl _) q⟩
  · cases eg
/-- x in a list, a tuple of flat items -/
def D.flat : D → Bool
  | .non => true | .bl _ => true | .int _ => true | .str _ => true | _ => false
/-! + -/
/-- a new list of data on top, in the place of two values -/
theorem Rel.new2 {xs : List D} {vs : List V} {x y : Option V} {a b : Option D} (own : Bool) (r : Rel K C M0 H (x :: y :: σ) (a :: b :: env) F) (t : RepL K C (orF M0 F) H vs xs []) {p : Addr} (np : H p = none) : ∃ F', Rel K C M0 (upd H p (.lst vs)) (some (.ref p) :: σ) (some (.lst true xs) :: env) F' ∧ Stp F H F' (upd H p (.lst vs)) := by
  obtain ⟨F4, r4, s4⟩ := r.drop
  obtain ⟨F5, r5, s5⟩ := r4.drop
  have sub : ∀ b ∈ F5, b ∈ F := fun b hb => s4.subset (s5.subset hb)
  obtain ⟨r6, s6⟩ := Rel.new (p := p) (o := .lst vs) (x := .lst true xs) r5 np fun M' hM => .own (F := []) upd_same (repL_mono (hide_mono (new_sameW np) fun b z => (hM b z).imp (fun q => q.imp id (sub b)) fun q => by rw [q]; exact np) t fun _ hb => absurd hb List.not_mem_nil)
  exact ⟨_, r6, (Stp.sub sub).trans s6⟩
theorem Rel.newT2 {xs : List D} {vs : List V} {x y : Option V} {a b : Option D} (r : Rel K C M0 H (x :: y :: σ) (a :: b :: env) F) (t : RepL K C (orF M0 F) H vs xs []) {p : Addr} (np : H p = none) : ∃ F', Rel K C M0 (upd H p (.tup vs)) (some (.ref p) :: σ) (some (.tup xs) :: env) F' ∧ Stp F H F' (upd H p (.tup vs)) := by
  obtain ⟨F4, r4, s4⟩ := r.drop
  obtain ⟨F5, r5, s5⟩ := r4.drop
  have sub : ∀ b ∈ F5, b ∈ F := fun b hb => s4.subset (s5.subset hb)
  obtain ⟨r6, s6⟩ := Rel.newData (p := p) (o := .tup vs) (x := .tup xs) r5 np fun M' hM nM => .tup (F := []) (hide_at nM upd_same) (repL_mono (hide_mono (new_sameW np) fun b z => .inl ((hM b z).imp id (sub b))) t fun _ hb => absurd hb List.not_mem_nil)
  exact ⟨_, r6, (Stp.sub sub).trans s6⟩
theorem RepL.nn {M : Addr → Prop} {vs : List V} {ds : List D} (h : RepL K C M H vs ds F) (hn : D.noOwnL ds = true) : RepL K C M H vs ds [] := by
  obtain ⟨rfl, _⟩ := fz_noOwnL h hn
  exact h
theorem p_cat : Op2 K C rCat (fun d e => match d, e with | .lst _ xs, .lst _ ys => if D.noOwnL xs && D.noOwnL ys && decide (xs.length + ys.length ≤ 1000000) then some (.lst true (xs ++ ys)) else none | _, _ => none) := by
  intro M0 σ env F H v w d e x Q r eg q
  obtain ⟨F1, F2, F3, eF, hv, hw, _⟩ := r.two
  dsimp only at eg
  split at eg
  · split at eg
    · rename_i hs
      simp only [Bool.and_eq_true, decide_eq_true_eq] at hs
      obtain rfl := Option.some.inj eg
      obtain ⟨a, vs, G1, rfl, h1, t1, _⟩ := hv.lstR
      obtain ⟨b, ws, G2, rfl, h2, t2, _⟩ := hw.lstR
      refine ⟨a, b, vs, ws, rfl, rfl, h1, h2, by rw [t1.length, t2.length]; exact Nat.le_trans hs.2 (by rw [sizeLine_eq]; decide), fun p np => ?_⟩
      obtain ⟨F', r', s'⟩ := Rel.new2 true r (RepL.app (F := []) (G := []) (t1.nn hs.1.1) (t2.nn hs.1.2)) np
      exact q _ _ F' r' s'
    · cases eg
  · cases eg
theorem Rel.dat2 {x : D} {u : V} (r : Rel K C M0 H (some v :: some w :: σ) (some d :: some e :: env) F) (h : Rep K C (orF M0 F) H u x []) {Q : VK} (q : ∀ u H' F', Rel K C M0 H' (some u :: σ) (some x :: env) F' → Stp F H F' H' → Q u H') : Q u H := by
  obtain ⟨F4, r4, s4⟩ := r.drop
  obtain ⟨F5, r5, s5⟩ := r4.drop
  have sub : ∀ b ∈ F5, b ∈ F := fun b hb => s4.subset (s5.subset hb)
  exact q u H F5 (Rel.data r5 (rep_mono (hide_mono (.refl _) fun b z => .inl (z.imp id (sub b))) h fun _ hb => absurd hb List.not_mem_nil)) (.sub sub)
theorem p_catA : Op2 K C (rCatA K) (fun d e => match d, e with | .tup xs, .tup ys => if D.noOwnL xs && D.noOwnL ys && decide (xs.length + ys.length ≤ 1000000) then some (.tup (xs ++ ys)) else none | _, _ => none) := by
  intro M0 σ env F H v w d e x Q r eg q
  obtain ⟨F1, F2, F3, eF, hv, hw, _⟩ := r.two
  dsimp only at eg
  split at eg
  · split at eg
    · rename_i hs
      simp only [Bool.and_eq_true, decide_eq_true_eq] at hs
      obtain rfl := Option.some.inj eg
      obtain ⟨a, vs, rfl, h1, t1⟩ := hv.tupR
      obtain ⟨b, ws, rfl, h2, t2⟩ := hw.tupR
      obtain ⟨rfl, _⟩ := fz_noOwnL t1 hs.1.1
      obtain ⟨rfl, _⟩ := fz_noOwnL t2 hs.1.2
      refine ⟨a, b, vs, ws, rfl, rfl, .inl (.inl h1), .inl (.inl h2), by rw [t1.length, t2.length]; exact Nat.le_trans hs.2 (by rw [sizeLine_eq]; decide), fun e => ?_, fun _ e => ?_, fun n1 n2 p np => ?_⟩
      · subst e
        cases t1
        exact Rel.dat2 r hw q
      · subst e
        cases t2
        rw [List.append_nil] at q
        exact Rel.dat2 r hv q
      · obtain ⟨F', r', s'⟩ := Rel.newT2 r (RepL.app (F := []) (G := []) t1 t2) np
        exact q _ _ F' r' s'
    · cases eg
  · cases eg
theorem p_addS : Op2 K C (fun x y H Q => ∃ i j, x = .str i ∧ y = .str j ∧ i.length + j.length ≤ sizeLine ∧ Q (.str (i ++ j)) H) (fun d e => match d, e with | .str x, .str y => if x.length + y.length ≤ 1000000 then some (.str (x ++ y)) else none | _, _ => none) := by
  intro M0 σ env F H v w d e x Q r eg q
  obtain ⟨F1, F2, F3, eF, hv, hw, _⟩ := r.two
  dsimp only at eg
  split at eg
  · split at eg
    · rename_i hs
      obtain rfl := Option.some.inj eg
      cases hv; cases hw
      exact ⟨_, _, rfl, rfl, Nat.le_trans hs (by rw [sizeLine_eq]; decide), Rel.sc2 r (.str _) q⟩
    · cases eg
  · cases eg
/-- + -/
def addD (d e : D) : Option D := match d, e with
  | .int i, .int j => some (.int (i + j))
  | .lst _ xs, .lst _ ys => if D.noOwnL xs && D.noOwnL ys && decide (xs.length + ys.length ≤ 1000000) then some (.lst true (xs ++ ys)) else none
  | .tup xs, .tup ys => if D.noOwnL xs && D.noOwnL ys && decide (xs.length + ys.length ≤ 1000000) then some (.tup (xs ++ ys)) else none
  | .str x, .str y => if x.length + y.length ≤ 1000000 then some (.str (x ++ y)) else none
  | _, _ => none
theorem Op2.ext {r : R2} {g g' : D → D → Option D} (h : Op2 K C r g) (e : ∀ a b x, g' a b = some x → g a b = some x) : Op2 K C r g' := fun M0 σ env F H v w d e' x Q rl eg q => h M0 σ env F H v w d e' x Q rl (e _ _ _ eg) q
def rAdd (K : PySem.W.Frag) : R2 := fun x y H Q => rI0 (fun i j => .int (i + j)) x y H Q ∨ (rCat x y H Q ∨ (rCatA K x y H Q ∨ ∃ i j, x = .str i ∧ y = .str j ∧ i.length + j.length ≤ sizeLine ∧ Q (.str (i ++ j)) H))
theorem o_add : OpR X (binaryOp .Add) (rAdd X.K) := OpR.or_ op_add (OpR.or_ op_cat (OpR.or_ op_catA op_add_str))
theorem p_add : Op2 K C (rAdd K) addD := by
  refine Op2.ext (Op2.or (op2_int (g' := fun i j => .int (i + j)) fun i j => .int _) (Op2.or p_cat (Op2.or p_catA p_addS))) fun a b x h => ?_
  cases a <;> cases b <;> simp only [addD] at h <;> first | (cases h; done) | simpa using h
def subD (d e : D) : Option D := match d, e with | .int i, .int j => some (.int (i - j)) | _, _ => none
theorem p_sub : Op2 K C (rI0 fun i j => .int (i - j)) subD := op2_int (g' := fun i j => .int (i - j)) fun i j => .int _
/-- * -/
def mulOk (i j : Int) : Bool := (decide (-(2 ^ 64) < i) && decide (i < 2 ^ 64)) || ((decide (-(2 ^ 64) < j) && decide (j < 2 ^ 64)) || decide (i.natAbs.log2 + j.natAbs.log2 < 1000000))
def mulD (d e : D) : Option D := match d, e with
  | .int i, .int j => if mulOk i j then some (.int (i * j)) else none
  | .lst _ xs, .int k => if D.noOwnL xs && (decide (-(2 ^ 63) ≤ k) && (decide (k < 2 ^ 63) && decide (xs.length * k.toNat ≤ 1000000))) then some (.lst true (List.replicate k.toNat xs).flatten) else none
  | _, _ => none
def rMul (K : PySem.W.Frag) : R2 := fun x y H Q => rI L2.CMul (fun i j => .int (i * j)) x y H Q ∨ (rI L2.CMulW (fun i j => .int (i * j)) x y H Q ∨ rRep x y H Q)
theorem o_mul : OpR X (binaryOp .Mult) (rMul X.K) := OpR.or_ op_mul (OpR.or_ op_mulW op_rep)
theorem RepL.rep {M : Addr → Prop} {vs : List V} {ds : List D} (h : RepL K C M H vs ds []) : ∀ n, RepL K C M H (List.replicate n vs).flatten (List.replicate n ds).flatten []
  | 0 => .nil
  | n + 1 => by
    rw [List.replicate_succ, List.replicate_succ, List.flatten_cons, List.flatten_cons]
    exact RepL.app (F := []) (G := []) h (RepL.rep h n)
theorem p_mul : Op2 K C (rMul K) mulD := by
  intro M0 σ env F H v w d e x Q r eg q
  obtain ⟨F1, F2, F3, eF, hv, hw, _⟩ := r.two
  unfold mulD at eg
  split at eg
  · split at eg
    · rename_i hs
      obtain rfl := Option.some.inj eg
      cases hv; cases hw
      rename_i i j
      simp only [mulOk, Bool.or_eq_true, Bool.and_eq_true, decide_eq_true_eq] at hs
      rcases hs with hs | hs | hs
      · exact .inl ⟨_, _, rfl, rfl, .inl hs, Rel.sc2 r (.int _) q⟩
      · exact .inl ⟨_, _, rfl, rfl, .inr hs, Rel.sc2 r (.int _) q⟩
      · exact .inr (.inl ⟨_, _, rfl, rfl, hs, Rel.sc2 r (.int _) q⟩)
    · cases eg
  · split at eg
    · rename_i hs
      simp only [Bool.and_eq_true, decide_eq_true_eq] at hs
      obtain rfl := Option.some.inj eg
      obtain ⟨a, vs, G1, rfl, h1, t1, _⟩ := hv.lstR
      cases hw
      refine .inr (.inr ⟨a, _, vs, rfl, rfl, h1, hs.2.1, hs.2.2.1, by rw [t1.length]; exact Nat.le_trans hs.2.2.2 (by rw [sizeLine_eq]; decide), fun p np => ?_⟩)
      obtain ⟨F', r', s'⟩ := Rel.new2 true r ((t1.nn hs.1).rep _) np
      exact q _ _ F' r' s'
    · cases eg
  · cases eg
/-- // % ** -/
def divD (d e : D) : Option D := match d, e with
  | .int i, .int j => if 0 < j then (if j.natAbs.log2 < 9000 then some (.int (i / j)) else none) else if j ≠ 0 ∧ j.natAbs < 1073741824 then some (.int (i.fdiv j)) else none
  | _, _ => none
def modD (d e : D) : Option D := match d, e with
  | .int i, .int j => if 0 < j then some (.int (i % j)) else if j ≠ 0 then some (.int (i.fmod j)) else none
  | _, _ => none
def powD (d e : D) : Option D := match d, e with
  | .int i, .int j => if 0 ≤ j ∧ j ≤ 1000000 ∧ i.natAbs < 2 ^ 64 then some (.int (i ^ j.toNat)) else none
  | _, _ => none
def rDiv : R2 := fun x y H Q => rI L2.CDivW (fun i j => .int (i / j)) x y H Q ∨ rI CDivN (fun i j => .int (i.fdiv j)) x y H Q
def rMod : R2 := fun x y H Q => rI (fun _ j => 0 < j) (fun i j => .int (i % j)) x y H Q ∨ rI (fun _ j => j ≠ 0) (fun i j => .int (i.fmod j)) x y H Q
theorem o_div : OpR X (binaryOp .FloorDiv) rDiv := OpR.or_ op_fdivW op_fdivN
theorem o_mod : OpR X (binaryOp .Mod) rMod := OpR.or_ op_mod op_modN
theorem p_div : Op2 K C rDiv divD := by
  intro M0 σ env F H v w d e x Q r eg q
  obtain ⟨F1, F2, F3, eF, hv, hw, _⟩ := r.two
  unfold divD at eg
  split at eg
  · cases hv; cases hw
    split at eg
    · rename_i h0
      split at eg
      · rename_i h1
        obtain rfl := Option.some.inj eg
        exact .inl ⟨_, _, rfl, rfl, ⟨h0, h1⟩, Rel.sc2 r (.int _) q⟩
      · cases eg
    · split at eg
      · rename_i h1
        obtain rfl := Option.some.inj eg
        exact .inr ⟨_, _, rfl, rfl, h1, Rel.sc2 r (.int _) q⟩
      · cases eg
  · cases eg
theorem p_mod : Op2 K C rMod modD := by
  intro M0 σ env F H v w d e x Q r eg q
  obtain ⟨F1, F2, F3, eF, hv, hw, _⟩ := r.two
  unfold modD at eg
  split at eg
  · cases hv; cases hw
    split at eg
    · rename_i h0
      obtain rfl := Option.some.inj eg
      exact .inl ⟨_, _, rfl, rfl, h0, Rel.sc2 r (.int _) q⟩
    · split at eg
      · rename_i h1
        obtain rfl := Option.some.inj eg
        exact .inr ⟨_, _, rfl, rfl, h1, Rel.sc2 r (.int _) q⟩
      · cases eg
  · cases eg
theorem p_pow : Op2 K C (rI CPow fun i j => .int (i ^ j.toNat)) powD := by
  intro M0 σ env F H v w d e x Q r eg q
  obtain ⟨F1, F2, F3, eF, hv, hw, _⟩ := r.two
  unfold powD at eg
  split at eg
  · cases hv; cases hw
    split at eg
    · rename_i h0
      obtain rfl := Option.some.inj eg
      exact ⟨_, _, rfl, rfl, h0, Rel.sc2 r (.int _) q⟩
    · cases eg
  · cases eg
/-- comparisons of ints -/
def cmpD (f : Int → Int → Bool) (d e : D) : Option D := match d, e with | .int i, .int j => some (.bl (f i j)) | _, _ => none
theorem p_cmp {f : Int → Int → Bool} : Op2 K C (rI0 fun i j => .bl (f i j)) (cmpD f) := op2_int (g' := fun i j => .bl (f i j)) fun i j => .bl _
def isNonD (d e : D) : Option D := match e with | .non => (match d with | .hole => none | .non => some (.bl true) | _ => some (.bl false)) | _ => none
def isNotNonD (d e : D) : Option D := match e with | .non => (match d with | .hole => none | .non => some (.bl false) | _ => some (.bl true)) | _ => none
/-! xs[i] -/
def ixD (d e : D) : Option D := match e with
  | .int i => (match d with
    | .lst _ xs => L2.atI xs i
    | .scr xs => L2.atI xs i
    | .tup xs => L2.atI xs i
    | _ => none)
  | _ => none
def rIx (K : PySem.W.Frag) : R2 := fun x y H Q => rIxL K x y H Q ∨ rIxT K x y H Q
theorem x_ix : IxR X (rIx X.K) := IxR.or_ ix_list ix_tup
theorem atI_map {α β : Type} (f : α → β) {xs : List α} {i : Int} {y : β} (h : L2.atI (xs.map f) i = some y) : ∃ x, L2.atI xs i = some x ∧ y = f x := by
  unfold L2.atI at h ⊢
  rw [List.length_map] at h
  cases q : ixN xs.length i with
  | none => rw [q] at h; cases h
  | some j =>
    rw [q] at h
    simp only [Option.bind_some, List.getElem?_map, Option.map_eq_some_iff] at h ⊢
    obtain ⟨x, h1, h2⟩ := h
    exact ⟨x, h1, h2.symm⟩
theorem atI_map' {α β : Type} (f : α → β) {xs : List α} {i : Int} {x : α} (h : L2.atI xs i = some x) : L2.atI (xs.map f) i = some (f x) := by
  unfold L2.atI at h ⊢
  rw [List.length_map]
  cases q : ixN xs.length i with
  | none => rw [q] at h; cases h
  | some j =>
    rw [q] at h
    simp only [Option.bind_some] at h ⊢
    rw [List.getElem?_map, h]; rfl
/-- what is read alone: an item (borrowed) -/
theorem ix_rep {M : Addr → Prop} {i : Int} {x : D} (hv : Rep K C M H v d F) (e : ixD d (.int i) = some x) {Q : VK} (q : ∀ u G, Rep K C M H u x G → (∀ b ∈ G, b ∈ F) → Q u H) : rIx K v (.int i) H Q := by
  cases d <;> simp only [ixD, reduceCtorEq] at e
  · obtain ⟨a, vs, G1, rfl, h1, t1, sub⟩ := hv.lstR
    obtain ⟨u, G, e1, hu, sg⟩ := t1.atI e
    exact .inl ⟨a, vs, i, u, rfl, rfl, .of h1, e1, q u G hu fun b hb => sub b (sg b hb)⟩
  · cases hv with
    | scr h =>
      obtain ⟨k, e1, rfl⟩ := atI_map _ e
      exact .inl ⟨_, _, i, .int k, rfl, rfl, sqL_le h, atI_map' _ e1, q _ [] (.int k) fun b hb => absurd hb List.not_mem_nil⟩
  · obtain ⟨a, vs, rfl, h1, t1⟩ := hv.tupR
    obtain ⟨u, G, e1, hu, sg⟩ := t1.atI e
    exact .inr ⟨a, vs, i, u, rfl, rfl, .inl (.inl h1), e1, q u G hu sg⟩
theorem ixD_int {x : D} (h : ixD d e = some x) : ∃ i, e = .int i := by
  cases e <;> simp only [ixD, reduceCtorEq] at h
  exact ⟨_, rfl⟩
/-- an item that is data -/
def ixF (d e : D) : Option D := match ixD d e with
  | some x => if x.noOwn then some x else none
  | none => none
theorem p_ix : Op2 K C (rIx K) ixF := by
  intro M0 σ env F H v w d e x Q r eg q
  obtain ⟨F1, F2, F3, eF, hv, hw, _⟩ := r.two
  unfold ixF at eg
  split at eg
  · rename_i y ey
    split at eg
    · rename_i hn
      obtain rfl := Option.some.inj eg
      obtain ⟨i, rfl⟩ := ixD_int ey
      cases hw
      refine ix_rep hv ey fun u G hu _ => ?_
      obtain ⟨rfl, _⟩ := fz_noOwn hu hn
      exact Rel.dat2 r hu q
    · cases eg
  · cases eg
/-! read alone -/
def bop2 (g : D → D → Option D) (f f2 : Env → Option D) : Env → Option D := fun env => match f env, f2 env with
  | some d, some e => g d e
  | _, _ => none
def bop1 (g : D → Option D) (f : Env → Option D) : Env → Option D := fun env => match f env with
  | some d => g d
  | none => none
/-- an operator that reads alone -/
def BOp2 (K : PySem.W.Frag) (C : CT) (r : R2) (g : D → D → Option D) : Prop := ∀ (M : Addr → Prop) (H : Hp) (v w : V) (d e x : D) (F : List Addr) (Q : VK), (∃ G, (∀ b ∈ G, b ∈ F) ∧ Rep K C M H v d G) → (∃ G, (∀ b ∈ G, b ∈ F) ∧ Rep K C M H w e G) → g d e = some x →
  (∀ u, (∃ G, (∀ b ∈ G, b ∈ F) ∧ Rep K C M H u x G) → Q u H) → r v w H Q
theorem i_bop2 {r : R2} {g : D → D → Option D} {f f2 : Env → Option D} {Q : VK} (o : BOp2 K C r g) (h : bOf K C (bop2 g f f2) σ H Q) : tOp r (bOf K C f) (bOf K C f2) σ H Q := by
  obtain ⟨M0, env, F, rl, x, ex, h⟩ := h
  unfold bop2 at ex
  split at ex
  · rename_i d e ed ee
    refine ⟨M0, env, F, rl, d, ed, fun v H1 s1 r1 ⟨G1, s1', h1⟩ => ⟨M0, env, F, r1, e, ee, fun w H2 s2 r2 h2 => ?_⟩⟩
    have h1' := rep_mono (hide_mono s2.w fun b z => .inl z) h1 fun b _ o e _ => s2 b o e
    exact o (orF M0 F) H2 v w d e x F Q ⟨G1, s1', h1'⟩ h2 ex fun u hu => h u H2 (s1.trans s2) r2 hu
  · cases ex
theorem b_ix : BOp2 K C (rIx K) ixD := by
  intro M H v w d e x F Q ⟨G1, s1, hv⟩ ⟨G2, s2, hw⟩ ey q
  obtain ⟨i, rfl⟩ := ixD_int ey
  cases hw
  exact ix_rep hv ey fun u G hu sg => q u ⟨G, fun b hb => s1 b (sg b hb), hu⟩
theorem BOp2.or {r r' : R2} {g g' : D → D → Option D} (h : BOp2 K C r g) : BOp2 K C (fun x y H Q => r x y H Q ∨ r' x y H Q) g := fun M H v w d e x F Q a b c q => .inl (h M H v w d e x F Q a b c q)
def addB (d e : D) : Option D := match d, e with | .int i, .int j => some (.int (i + j)) | _, _ => none
/-! len -/
def lenD (d : D) : Option D := match d with
  | .lst _ xs => some (.int xs.length)
  | .scr xs => some (.int xs.length)
  | .tup xs => some (.int xs.length)
  | .str s => if s.length ≤ 1000000 then some (.int s.length) else none
  | _ => none
theorem len_rep {M : Addr → Prop} {x : D} (hv : Rep K C M H v d F) (e : lenD d = some x) {Q : VK} (q : ∀ u, Sc u x → Q u H) : ∃ x n, [v] = [x] ∧ LenV K x H n ∧ Q (.int n) H := by
  cases d <;> simp only [lenD, reduceCtorEq, Option.some.injEq] at e
  · rename_i s
    split at e
    · rename_i hs
      obtain rfl := Option.some.inj e
      cases hv
      exact ⟨_, _, rfl, ⟨Nat.le_trans hs (by rw [sizeLine_eq]; decide), rfl⟩, q _ (.int _)⟩
    · cases e
  · subst e
    obtain ⟨a, vs, G1, rfl, h1, t1, sub⟩ := hv.lstR
    exact ⟨_, _, rfl, .inl ⟨vs, .of h1, t1.length.symm⟩, q _ (.int _)⟩
  · subst e
    cases hv with
    | scr h => exact ⟨_, _, rfl, .inl ⟨_, sqL_le h, by simp⟩, q _ (.int _)⟩
  · subst e
    obtain ⟨a, vs, rfl, h1, t1⟩ := hv.tupR
    exact ⟨_, _, rfl, .inr ⟨vs, .inl (.inl h1), t1.length.symm⟩, q _ (.int _)⟩
theorem i_cb1 {r : List V → Hp → VK → Prop} {g : D → Option D} {f : Env → R D} {Q : VK} (o : Op1 K C (fun v H Q => r [v] H Q) g) (h : tOf K C W (lift1 g f) σ H Q) : tCB r (tCons (tOf K C W f) tNil) σ H Q := i_op1 (r := fun v H Q => r [v] H Q) o h
theorem i_cb1b {r : List V → Hp → VK → Prop} {g : D → Option D} {f : Env → Option D} {Q : VK} (o : ∀ M H v d x F Q, Rep K C M H v d F → g d = some x → (∀ u, Sc u x → Q u H) → r [v] H Q) (h : bOf K C (bop1 g f) σ H Q) : tCB r (tCons (bOf K C f) tNil) σ H Q := by
  obtain ⟨M0, env, F, rl, x, ex, h⟩ := h
  unfold bop1 at ex
  split at ex
  · rename_i d ed
    exact ⟨M0, env, F, rl, d, ed, fun v H1 s1 r1 ⟨G1, s1', h1⟩ => o _ _ _ _ _ _ _ h1 ex fun u hu => h u H1 s1 r1 ⟨[], fun _ hb => absurd hb List.not_mem_nil, hu.rep⟩⟩
  · cases ex
theorem op1_rd {r : V → Hp → VK → Prop} {g : D → Option D} (o : ∀ M H v d x F Q, Rep K C M H v d F → g d = some x → (∀ u, Sc u x → Q u H) → r v H Q) : Op1 K C r g := by
  intro M0 σ env F H v d x Q rl eg q
  have rr := rl.rep
  cases rr with
  | have_ hv _ => exact o _ _ _ _ _ _ _ hv eg fun u hu => Rel.sc1 rl hu q
theorem b_len (M : Addr → Prop) (H : Hp) (v : V) (d x : D) (F : List Addr) (Q : VK) (hv : Rep K C M H v d F) (e : lenD d = some x) (q : ∀ u, Sc u x → Q u H) : (fun xs H Q => ∃ x n, xs = [x] ∧ LenV K x H n ∧ Q (.int n) H) [v] H Q := len_rep hv e q
/-- isinstance -/
def isiD (c : String) (d : D) : Option D := match d, c with
  | .ins _ _ _ _, _ => none
  | .hole, _ => none
  | .exc, _ => none
  | .non, _ => some (.bl false)
  | .bl _, "int" => some (.bl true) | .bl _, "bool" => some (.bl true) | .bl _, _ => some (.bl false)
  | .int _, "int" => some (.bl true) | .int _, _ => some (.bl false)
  | .str _, "str" => some (.bl true) | .str _, _ => some (.bl false)
  | .lst _ _, "list" => some (.bl true) | .lst _ _, _ => some (.bl false)
  | .scr _, _ => none
  | .tup _, "tuple" => some (.bl true) | .tup _, _ => some (.bl false)
  | .dK _ _ _, "dict" => some (.bl true) | .dK _ _ _, _ => some (.bl false)
  | .dT true _ _, "dict" => some (.bl true) | .dT true _ _, _ => some (.bl false)
  | .dT false _ _, _ => none
  | .tK _ _, _ => none
def knownC (c : String) : Bool := c == "int" || (c == "bool" || (c == "str" || (c == "list" || (c == "tuple" || c == "dict"))))
theorem b_isi {c : String} (hc : knownC c = true) (M : Addr → Prop) (H : Hp) (v : V) (d x : D) (F : List Addr) (Q : VK) (hv : Rep K C M H v d F) (e : isiD c d = some x) (q : ∀ u, Sc u x → Q u H) : rIsi K [v, .ty c] H Q := by
  have key : ∀ {t : String} {b : Bool}, TyX K H v (.type t) → kitB t c = some b → x = .bl b → rIsi K [v, .ty c] H Q := fun {t b} ht hk ex => ⟨v, .ty c, _, _, b, rfl, .ty c, ht, kit_ty hk, by rw [ex] at q; exact q _ (.bl b)⟩
  simp only [knownC, Bool.or_eq_true, beq_iff_eq] at hc
  have dl : ∀ a xs, H a = some (.lst xs) → TyX K H (.ref a) (.type "list") := fun a xs h => .base (.lst h)
  have dt : ∀ a xs, H a = some (.tup xs) → TyX K H (.ref a) (.type "tuple") := fun a xs h => .base (.tup h)
  have dk : ∀ a xs, H a = some (.dK xs) → TyX K H (.ref a) (.type "dict") := fun a xs h => .base (.dK h)
  have dT : ∀ a xs, H a = some (.dT xs) → TyX K H (.ref a) (.type "dict") := fun a xs h => .base (.dT h)
  cases hv with
  | non => rcases hc with rfl | rfl | rfl | rfl | rfl | rfl <;> exact key (.base .non) (by decide +kernel) (Option.some.inj e).symm
  | bl b => rcases hc with rfl | rfl | rfl | rfl | rfl | rfl <;> exact key (.base (.bl b)) (by decide +kernel) (Option.some.inj e).symm
  | int b => rcases hc with rfl | rfl | rfl | rfl | rfl | rfl <;> exact key (.base (.int b)) (by decide +kernel) (Option.some.inj e).symm
  | hole _ => simp [isiD] at e
  | exc => simp [isiD] at e
  | str b => rcases hc with rfl | rfl | rfl | rfl | rfl | rfl <;> exact key (.base (.str b)) (by decide +kernel) (Option.some.inj e).symm
  | lst h _ _ => rcases hc with rfl | rfl | rfl | rfl | rfl | rfl <;> exact key (dl _ _ (hide_le _ _ h)) (by decide +kernel) (Option.some.inj e).symm
  | own h _ => rcases hc with rfl | rfl | rfl | rfl | rfl | rfl <;> exact key (dl _ _ h) (by decide +kernel) (Option.some.inj e).symm
  | scr h => simp [isiD] at e
  | tup h _ => rcases hc with rfl | rfl | rfl | rfl | rfl | rfl <;> exact key (dt _ _ (hide_le _ _ h)) (by decide +kernel) (Option.some.inj e).symm
  | dKf h _ _ _ => rcases hc with rfl | rfl | rfl | rfl | rfl | rfl <;> exact key (dk _ _ (hide_le _ _ h)) (by decide +kernel) (Option.some.inj e).symm
  | dKo h _ _ => rcases hc with rfl | rfl | rfl | rfl | rfl | rfl <;> exact key (dk _ _ h) (by decide +kernel) (Option.some.inj e).symm
  | tK h _ _ _ => simp [isiD] at e
  | dTf h _ _ _ => simp [isiD] at e
  | dTo h _ _ => rcases hc with rfl | rfl | rfl | rfl | rfl | rfl <;> exact key (dT _ _ h) (by decide +kernel) (Option.some.inj e).symm
  | insF h _ _ _ => simp [isiD] at e
  | insO h _ _ => simp [isiD] at e
/-- isinstance(x, T) -/
theorem i_isi {c : String} {f : Env → R D} {Q : VK} (hc : knownC c = true) (h : tOf K C W (lift1 (isiD c) f) σ H Q) : tCB (rIsi K) (tCons (tOf K C W f) (tCons (tC (.ty c)) tNil)) σ H Q :=
  i_op1 (r := fun v H Q => rIsi K [v, .ty c] H Q) (op1_rd fun M H v d x F Q hv e q => b_isi hc M H v d x F Q hv e q) h
end
end J
/-! Slices, built-ins, writes, methods, instances, exceptions. -/
namespace J
open PySem L2 PySem.Spec PyProof.Rows
section
variable {K : PySem.W.Frag} {C : CT} {W : Wish} {kp : List Nat} {M0 : Addr → Prop} {H H' H2 : Hp} {σ σ' : L2.St} {env env' : Env} {F F' F1 F2 G G' : List Addr} {v w : V} {d e : D} {l : Addr} {o : HO} {X : Cx}
/-! ### slices -/
def oOf (K : PySem.W.Frag) (C : CT) (W : Wish) (f : Env → R D) : TO := fun σ H Q => tOf K C W f σ H fun v H' => ∀ p, (v = .non ∧ p = none ∨ ∃ i, v = .int i ∧ p = some i) → Q p H'
theorem i_oN {Q : Option Int → Hp → Prop} (h : oOf K C W (okC .non) σ H Q) : tNoPart σ H Q := by
  have := i_okC .non h
  exact this none (.inl ⟨rfl, rfl⟩)
/-- a part of a slice: an int -/
def asI (f : Env → R D) : Env → R D := fun env => match f env with
  | .ok (.int i) e => .ok (.int i) e
  | .ex c ns vs e => .ex c ns vs e
  | _ => .no
theorem i_oP {f : Env → R D} {Q : Option Int → Hp → Prop} (h : oOf K C W (asI f) σ H Q) : tPart (tOf K C W f) σ H Q := by
  obtain ⟨M0, env, F, r, h⟩ := h
  refine ⟨M0, env, F, r, ?_⟩
  cases ef : f env with
  | no => simp only [asI, ef] at h; exact h
  | ex c ns ds e => simp only [asI, ef] at h; exact h
  | ok d e =>
    cases d with
    | int i =>
      simp only [asI, ef] at h
      intro v H' F' r' s'
      have q := h v H' F' r' s'
      have rr := r'.rep
      cases rr with
      | have_ hv _ => cases hv; exact ⟨i, rfl, q (some i) (.inr ⟨i, rfl, rfl⟩)⟩
    | _ => simp only [asI, ef] at h; exact h.elim
/-- a cut of a list -/
def cutD (xs : List D) (lo hi : Option Int) : List D := (xs.drop (HT.sIx xs.length 0 lo)).take (HT.sIx xs.length xs.length hi - HT.sIx xs.length 0 lo)
theorem cutD_all {xs : List D} {lo hi : Option Int} (hw : HT.sIx xs.length 0 lo = 0 ∧ HT.sIx xs.length xs.length hi = xs.length) : cutD xs lo hi = xs := by
  unfold cutD
  rw [hw.1, hw.2, List.drop_zero, Nat.sub_zero, List.take_length]
def prt (d : D) : Option (Option Int) := match d with | .non => some none | .int i => some (some i) | _ => none
def slD (d l u : D) : Option D := match prt l, prt u with
  | some lo, some hi => (match d with
    | .lst _ xs => if D.noOwnL xs then some (.lst true (cutD xs lo hi)) else none
    | .scr xs => some (.lst true (cutD xs lo hi))
    | .tup xs => if D.noOwnL xs then some (.tup (cutD xs lo hi)) else none
    | _ => none)
  | _, _ => none
def slF (f lo hi : Env → R D) : Env → R D := fun env => (f env).bind fun d e1 => (lo e1).bind fun l e2 => (hi e2).bind fun u e3 => match slD d l u with | some x => .ok x e3 | none => .no
def rSl (K : PySem.W.Frag) : V → Option Int → Option Int → Hp → VK → Prop := fun x lo hi H Q => rSlL K x lo hi H Q ∨ rSlA K x lo hi H Q
theorem sl_any : SlR X (rSl X.K) := SlR.or sl_list sl_tupA
theorem RepL.drop_ {M : Addr → Prop} : ∀ (n : Nat) {vs : List V} {ds : List D}, RepL K C M H vs ds [] → RepL K C M H (vs.drop n) (ds.drop n) []
  | 0, _, _, h => h
  | n + 1, [], [], _ => .nil
  | n + 1, v :: vs, d :: ds, h => by
    generalize hF : ([] : List Addr) = F at h
    cases h with
    | cons a t =>
      obtain ⟨rfl, rfl⟩ := List.append_eq_nil_iff.mp hF.symm
      exact RepL.drop_ n t
  | n + 1, [], _ :: _, h => nomatch h.length
  | n + 1, _ :: _, [], h => nomatch h.length
theorem RepL.take_ {M : Addr → Prop} : ∀ (n : Nat) {vs : List V} {ds : List D}, RepL K C M H vs ds [] → RepL K C M H (vs.take n) (ds.take n) []
  | 0, _, _, h => .nil
  | n + 1, [], [], _ => .nil
  | n + 1, v :: vs, d :: ds, h => by
    generalize hF : ([] : List Addr) = F at h
    cases h with
    | cons a t =>
      obtain ⟨rfl, rfl⟩ := List.append_eq_nil_iff.mp hF.symm
      exact .cons (F := []) (G := []) a (RepL.take_ n t)
  | n + 1, [], _ :: _, h => nomatch h.length
  | n + 1, _ :: _, [], h => nomatch h.length
theorem RepL.cut {M : Addr → Prop} {vs : List V} {ds : List D} (h : RepL K C M H vs ds []) (lo hi : Option Int) : RepL K C M H (cutV vs lo hi) (cutD ds lo hi) [] := by
  unfold cutV cutD
  rw [h.length]
  exact (h.drop_ _).take_ _
theorem ints_repL {M : Addr → Prop} : ∀ ns : List Int, RepL K C M H (ns.map V.int) (ns.map D.int) []
  | [] => .nil
  | _ :: t => .cons (F := []) (G := []) (.int _) (ints_repL t)
theorem Rel.three {a b c : V} {x y z : D} (r : Rel K C M0 H (some a :: some b :: some c :: σ) (some x :: some y :: some z :: env) F) : (∃ G, Rep K C (orF M0 F) H a x G) ∧ (∃ G, Rep K C (orF M0 F) H b y G) ∧ (∃ G, Rep K C (orF M0 F) H c z G) ∧ ∃ F', Rel K C M0 H σ env F' ∧ ∀ b ∈ F', b ∈ F := by
  obtain ⟨F4, r4, s4⟩ := r.drop
  obtain ⟨F5, r5, s5⟩ := r4.drop
  obtain ⟨F6, r6, s6⟩ := r5.drop
  have rr := r.rep
  cases rr with
  | have_ h1 t => cases t with
    | have_ h2 t => cases t with
      | have_ h3 t => exact ⟨⟨_, h1⟩, ⟨_, h2⟩, ⟨_, h3⟩, F6, r6, fun b hb => s4.subset (s5.subset (s6.subset hb))⟩
/-- a new list of data, in the place of what stood above σ -/
theorem Rel.newL_ {xs : List D} {vs : List V} {F0 : List Addr} (r : Rel K C M0 H σ env F0) (sub : ∀ b ∈ F0, b ∈ F) (t : RepL K C (orF M0 F) H vs xs []) {p : Addr} (np : H p = none) : ∃ F', Rel K C M0 (upd H p (.lst vs)) (some (.ref p) :: σ) (some (.lst true xs) :: env) F' ∧ Stp F H F' (upd H p (.lst vs)) := by
  obtain ⟨r6, s6⟩ := Rel.new (p := p) (o := .lst vs) (x := .lst true xs) r np fun M' hM => .own (F := []) upd_same (repL_mono (hide_mono (new_sameW np) fun b z => (hM b z).imp (fun q => q.imp id (sub b)) fun q => by rw [q]; exact np) t fun _ hb => absurd hb List.not_mem_nil)
  exact ⟨_, r6, (Stp.sub sub).trans s6⟩
theorem Rel.newT_ {xs : List D} {vs : List V} {F0 : List Addr} (r : Rel K C M0 H σ env F0) (sub : ∀ b ∈ F0, b ∈ F) (t : RepL K C (orF M0 F) H vs xs []) {p : Addr} (np : H p = none) : ∃ F', Rel K C M0 (upd H p (.tup vs)) (some (.ref p) :: σ) (some (.tup xs) :: env) F' ∧ Stp F H F' (upd H p (.tup vs)) := by
  obtain ⟨r6, s6⟩ := Rel.newData (p := p) (o := .tup vs) (x := .tup xs) r np fun M' hM nM => .tup (F := []) (hide_at nM upd_same) (repL_mono (hide_mono (new_sameW np) fun b z => .inl ((hM b z).imp id (sub b))) t fun _ hb => absurd hb List.not_mem_nil)
  exact ⟨_, r6, (Stp.sub sub).trans s6⟩
theorem i_sl {f lo hi : Env → R D} {Q : VK} (h : tOf K C W (slF f lo hi) σ H Q) : tSl (rSl K) (tOf K C W f) (oOf K C W lo) (oOf K C W hi) σ H Q := by
  refine then_tOf (k := fun d e1 => (lo e1).bind fun l e2 => (hi e2).bind fun u e3 => match slD d l u with | some x => .ok x e3 | none => .no) (t := fun v σ H1 Q => oOf K C W lo σ H1 fun l H2 => oOf K C W hi σ H2 fun u H3 => rSl K v l u H3 Q) h ?_
  intro d e1 v H1 M0 F r1 h1
  refine below_tOf r1 h1 ?_
  intro x e2 w H2 F2 r2 h2 p hp
  -- both values put aside
  obtain ⟨G1, G2, eG, hpp, r3⟩ := Rel.pops (σ1 := [some v, some w]) (e1 := [some d, some x]) r2 rfl
  refine ⟨orF M0 G1, e2, G2, r3, ?_⟩
  cases eh : hi e2 with
  | no => rw [eh] at h2; exact h2
  | ex c ns ds e => rw [eh] at h2; subst eG; exact ExOk.lift h2 .refl
  | ok y e3 =>
    rw [eh] at h2
    intro u H3 F3 r4 s4 p2 hp2
    obtain ⟨r5, s5⟩ := Rel.backs r2 G1 G2 eG hpp r4 s4
    have h3 : okT K C W M0 σ F2 H2 Q (match slD d x y with | some z => .ok z e3 | none => .no) := h2
    have r5 : Rel K C M0 H3 (some v :: some w :: some u :: σ) (some d :: some x :: some y :: e3) (G1 ++ F3) := r5
    cases ez : slD d x y with
    | none => rw [ez] at h3; exact h3.elim
    | some z =>
      rw [ez] at h3
      obtain ⟨⟨Ga, ha⟩, ⟨Gb, hb⟩, ⟨Gc, hc⟩, F6, r6, sub⟩ := r5.three
      have fin : ∀ u H' F', Rel K C M0 H' (some u :: σ) (some z :: e3) F' → Stp (G1 ++ F3) H3 F' H' → Q u H' := fun u H' F' r s => h3 u H' F' r (s5.trans s)
      have pe : ∀ {v : V} {d : D} {G : List Addr} {p : Option Int} {q : Option Int}, Rep K C (orF M0 (G1 ++ F3)) H3 v d G → (v = .non ∧ p = none ∨ ∃ i, v = .int i ∧ p = some i) → prt d = some q → p = q := by
        intro v d G p q hr hv hd
        rcases hv with ⟨rfl, rfl⟩ | ⟨i, rfl, rfl⟩
        · cases hr <;> first | exact Option.some.inj hd | (simp [prt] at hd)
        · cases hr <;> first | exact Option.some.inj hd | (simp [prt] at hd)
      unfold slD at ez
      split at ez
      case h_2 => cases ez
      rename_i lo' hi' e1' e2'
      obtain rfl := pe hb hp e1'
      obtain rfl := pe hc hp2 e2'
      cases d <;> simp only [reduceCtorEq] at ez
      · split at ez
        · rename_i hn
          obtain rfl := Option.some.inj ez
          obtain ⟨a, vs, G7, rfl, h7, t7, _⟩ := ha.lstR
          refine .inl ⟨a, vs, rfl, .of h7, fun p np => ?_⟩
          obtain ⟨F8, r8, s8⟩ := Rel.newL_ r6 sub ((t7.nn hn).cut _ _) np
          exact fin _ _ F8 r8 s8
        · cases ez
      · obtain rfl := Option.some.inj ez
        cases ha with
        | scr h7 =>
          refine .inl ⟨_, _, rfl, sqL_le h7, fun p np => ?_⟩
          obtain ⟨F8, r8, s8⟩ := Rel.newL_ r6 sub ((ints_repL _).cut _ _) np
          exact fin _ _ F8 r8 s8
      · split at ez
        · rename_i hn
          obtain rfl := Option.some.inj ez
          have ha0 := ha
          obtain ⟨a, vs, rfl, h7, t7⟩ := ha.tupR
          have t8 := t7.nn hn
          refine .inr ⟨a, vs, rfl, .inl (.inl h7), fun hw => ?_, fun hw p np => ?_⟩
          · rw [t7.length] at hw
            rw [cutD_all hw] at fin
            obtain ⟨rfl, _⟩ := fz_noOwnL t7 hn
            exact fin _ H3 F6 (Rel.data r6 (rep_mono (hide_mono (.refl _) fun b z => .inl (z.imp id (sub b))) ha0 fun _ hb => absurd hb List.not_mem_nil)) (.sub sub)
          · obtain ⟨F8, r8, s8⟩ := Rel.newT_ r6 sub (t8.cut _ _) np
            exact fin _ _ F8 r8 s8
        · cases ez
/-! ### built-ins of one argument -/
theorem Op1.or {r r' : V → Hp → VK → Prop} {g g' : D → Option D} (h : Op1 K C r g) (h' : Op1 K C r' g') : Op1 K C (fun x H Q => r x H Q ∨ r' x H Q) (fun d => (g d).or (g' d)) := by
  intro M0 σ env F H v d x Q rl eg q
  have eg : (g d).or (g' d) = some x := eg
  cases e1 : g d with
  | some y =>
    rw [e1] at eg
    obtain rfl : y = x := by simpa using eg
    exact .inl (h M0 σ env F H v d y Q rl e1 q)
  | none =>
    rw [e1] at eg
    exact .inr (h' M0 σ env F H v d x Q rl (by simpa using eg) q)
def listD (d : D) : Option D := match d with
  | .lst _ xs => if D.noOwnL xs then some (.lst true xs) else none
  | .scr xs => some (.lst true xs)
  | .tup xs => if D.noOwnL xs then some (.lst true xs) else none
  | _ => none
theorem p_list : Op1 K C (fun v H Q => ∃ p ys, [v] = [V.ref p] ∧ (SqL K H p ys ∨ SqT K H p ys) ∧ ∀ l, H l = none → Q (.ref l) (upd H l (.lst ys))) listD := by
  intro M0 σ env F H v d x Q rl eg q
  obtain ⟨F4, r4, s4⟩ := rl.drop
  have sub : ∀ b ∈ F4, b ∈ F := fun b hb => s4.subset hb
  have rr := rl.rep
  cases rr with
  | have_ hv _ =>
    cases d <;> simp only [listD, reduceCtorEq] at eg
    · split at eg
      · rename_i hn
        obtain rfl := Option.some.inj eg
        obtain ⟨a, vs, G7, rfl, h7, t7, _⟩ := hv.lstR
        refine ⟨a, vs, rfl, .inl (.of h7), fun p np => ?_⟩
        obtain ⟨F8, r8, s8⟩ := Rel.newL_ r4 sub (t7.nn hn) np
        exact q _ _ F8 r8 s8
      · cases eg
    · obtain rfl := Option.some.inj eg
      cases hv with
      | scr h7 =>
        refine ⟨_, _, rfl, .inl (sqL_le h7), fun p np => ?_⟩
        obtain ⟨F8, r8, s8⟩ := Rel.newL_ r4 sub (ints_repL _) np
        exact q _ _ F8 r8 s8
    · split at eg
      · rename_i hn
        obtain rfl := Option.some.inj eg
        obtain ⟨a, vs, rfl, h7, t7⟩ := hv.tupR
        refine ⟨a, vs, rfl, .inr (.inl (.inl h7)), fun p np => ?_⟩
        obtain ⟨F8, r8, s8⟩ := Rel.newL_ r4 sub (t7.nn hn) np
        exact q _ _ F8 r8 s8
      · cases eg
def tupleD (d : D) : Option D := match d with
  | .lst _ xs => if D.noOwnL xs then some (.tup xs) else none
  | .tup xs => if D.noOwnL xs then some (.tup xs) else none
  | _ => none
theorem p_tuple : Op1 K C (fun v H Q => ∃ p ys, [v] = [V.ref p] ∧ ((SqL K H p ys ∧ ∀ l, H l = none → Q (.ref l) (upd H l (.tup ys))) ∨ (SqT K H p ys ∧ Q (.ref p) H))) tupleD := by
  intro M0 σ env F H v d x Q rl eg q
  obtain ⟨F4, r4, s4⟩ := rl.drop
  have sub : ∀ b ∈ F4, b ∈ F := fun b hb => s4.subset hb
  have rr := rl.rep
  cases rr with
  | have_ hv _ =>
    cases d <;> simp only [tupleD, reduceCtorEq] at eg
    · split at eg
      · rename_i hn
        obtain rfl := Option.some.inj eg
        obtain ⟨a, vs, G7, rfl, h7, t7, _⟩ := hv.lstR
        refine ⟨a, vs, rfl, .inl ⟨.of h7, fun p np => ?_⟩⟩
        obtain ⟨F8, r8, s8⟩ := Rel.newT_ r4 sub (t7.nn hn) np
        exact q _ _ F8 r8 s8
      · cases eg
    · split at eg
      · rename_i hn
        obtain rfl := Option.some.inj eg
        have hv0 := hv
        obtain ⟨a, vs, rfl, h7, t7⟩ := hv.tupR
        obtain ⟨rfl, _⟩ := fz_noOwnL t7 hn
        exact ⟨a, vs, rfl, .inr ⟨.inl (.inl h7), q _ H F4 (Rel.data r4 (rep_mono (hide_mono (.refl _) fun b z => .inl (z.imp id (sub b))) hv0 fun _ hb => absurd hb List.not_mem_nil)) (.sub sub)⟩⟩
      · cases eg
def intD (d : D) : Option D := match d with | .int i => some (.int i) | .bl k => some (.int (if k then 1 else 0)) | _ => none
theorem p_int : Op1 K C (fun v H Q => (∃ i, [v] = [V.int i] ∧ Q (.int i) H) ∨ ∃ k, [v] = [V.bl k] ∧ Q (.int (if k then 1 else 0)) H) intD := by
  intro M0 σ env F H v d x Q rl eg q
  have rr := rl.rep
  cases rr with
  | have_ hv _ =>
    cases d <;> simp only [intD, reduceCtorEq] at eg
    · obtain rfl := Option.some.inj eg
      cases hv
      exact .inr ⟨_, rfl, Rel.sc1 rl (.int _) q⟩
    · obtain rfl := Option.some.inj eg
      cases hv
      exact .inl ⟨_, rfl, Rel.sc1 rl (.int _) q⟩
def negD (d : D) : Option D := match d with | .int i => some (.int (-i)) | _ => none
theorem p_neg : Op1 K C (rU fun i => .int (-i)) negD := by
  intro M0 σ env F H v d x Q rl eg q
  have rr := rl.rep
  cases rr with
  | have_ hv _ =>
    cases d <;> simp only [negD, reduceCtorEq] at eg
    obtain rfl := Option.some.inj eg
    cases hv
    exact ⟨_, rfl, Rel.sc1 rl (.int _) q⟩
def blsD : List D → Option (List Bool)
  | [] => some []
  | .bl i :: r => (blsD r).map (i :: ·)
  | _ => none
theorem blsD_vs {M : Addr → Prop} : ∀ {vs : List V} {ds : List D} {F : List Addr} {ns : List Bool}, RepL K C M H vs ds F → blsD ds = some ns → vs = ns.map V.bl
  | _, _, _, _, .nil, e => by simp [blsD] at e; subst e; rfl
  | _, d :: _, _, _, .cons h t, e => by
    cases d <;> simp [blsD] at e
    obtain ⟨ms, h1, rfl⟩ := e
    cases h
    rw [blsD_vs t h1]; rfl
def allD (d : D) : Option D := match d with | .lst _ xs => (blsD xs).map fun bs => .bl (bs.all id) | _ => none
theorem p_all : Op1 K C (fun v H Q => rAll K [v] H Q) allD := by
  intro M0 σ env F H v d x Q rl eg q
  have rr := rl.rep
  cases rr with
  | have_ hv _ =>
    cases d <;> simp only [allD, reduceCtorEq, Option.map_eq_some_iff] at eg
    obtain ⟨ns, h1, rfl⟩ := eg
    obtain ⟨a, vs, G7, rfl, h7, t7, _⟩ := hv.lstR
    rw [blsD_vs t7 h1] at h7
    exact ⟨a, ns, rfl, .of h7, Rel.sc1 rl (.bl _) q⟩
/-- two arguments -/
def maxD (d e : D) : Option D := match d, e with | .int i, .int j => some (.int (if j > i then j else i)) | _, _ => none
def minD (d e : D) : Option D := match d, e with | .int i, .int j => some (.int (if j < i then j else i)) | _, _ => none
theorem i_cb2 {r : List V → Hp → VK → Prop} {g : D → D → Option D} {f f2 : Env → R D} {Q : VK} (o : Op2 K C (fun v w H Q => r [v, w] H Q) g) (h : tOf K C W (lift2 g f f2) σ H Q) : tCB r (tCons (tOf K C W f) (tCons (tOf K C W f2) tNil)) σ H Q := i_op2 (r := fun v w H Q => r [v, w] H Q) o h
theorem p_max : Op2 K C (fun v w H Q => ∃ i j, [v, w] = [V.int i, V.int j] ∧ Q (.int (if j > i then j else i)) H) maxD := by
  intro M0 σ env F H v w d e x Q r eg q
  obtain ⟨F1, F2, F3, eF, hv, hw, _⟩ := r.two
  unfold maxD at eg
  split at eg
  · cases hv; cases hw
    obtain rfl := Option.some.inj eg
    exact ⟨_, _, rfl, Rel.sc2 r (.int _) q⟩
  · cases eg
/-- repr -/
def reprD (d : D) : Option D := if d.okP && (d.toP.showable && (decide (d.toP.depth ≤ 60) && decide (d.toP.shown.length ≤ 1000000))) then some (.str d.toP.shown) else none
end
end J
/-! Writes at places, methods, instances. -/
namespace J
open PySem L2 PySem.Spec PyProof.Rows
section
variable {K : PySem.W.Frag} {C : CT} {W : Wish} {kp : List Nat} {M0 : Addr → Prop} {H H' H2 : Hp} {σ σ' : L2.St} {env env' : Env} {F F' F1 F2 G G' : List Addr} {v w : V} {d e : D} {l : Addr} {o : HO} {X : Cx}
/-! ### an item taken out, put back -/
theorem RepL.out {M : Addr → Prop} : ∀ {vs : List V} {ds : List D} {F : List Addr} {j : Nat} {d : D}, RepL K C M H vs ds F → ds[j]? = some d → ∃ v G F1 F2, vs[j]? = some v ∧ Rep K C M H v d G ∧ F = F1 ++ (G ++ F2) ∧ ∀ x x', Rep K C M H x' x [] → RepL K C M H (vs.set j x') (ds.set j x) (F1 ++ F2)
  | _, _, _, _, _, .nil, e => by simp at e
  | _, _, _, 0, d, .cons (F := F0) (G := G0) h t, e => by
    simp only [List.getElem?_cons_zero, Option.some.injEq] at e
    subst e
    exact ⟨_, F0, [], G0, rfl, h, rfl, fun x x' hx => .cons (F := []) hx t⟩
  | _, _, _, j + 1, d, .cons (F := F0) h t, e => by
    obtain ⟨v, G, F1, F2, h1, h2, h3, h4⟩ := RepL.out t (j := j) (d := d) (by simpa using e)
    exact ⟨v, G, F0 ++ F1, F2, by simpa using h1, h2, by rw [h3]; simp, fun x x' hx => by rw [List.append_assoc]; exact .cons h (h4 x x' hx)⟩
theorem RepL.set_ {M : Addr → Prop} : ∀ {vs : List V} {ds : List D} {F : List Addr} {j : Nat}, RepL K C M H vs ds F → j < ds.length → Rep K C M H v d G → ∃ F1 F2 F3, F = F1 ++ (F2 ++ F3) ∧ RepL K C M H (vs.set j v) (ds.set j d) (F1 ++ (G ++ F3))
  | _, _, _, _, .nil, hj, _ => by simp at hj
  | _, _, _, 0, .cons (F := F0) (G := G0) h t, _, hv => ⟨[], F0, G0, rfl, by have hh := RepL.cons hv t; exact hh⟩
  | _, _, _, j + 1, .cons (F := F0) h t, hj, hv => by
    obtain ⟨F1, F2, F3, e, q⟩ := RepL.set_ t (j := j) (by simpa using hj) hv
    exact ⟨F0 ++ F1, F2, F3, by rw [e]; simp, by rw [List.append_assoc]; exact .cons h q⟩
/-- xs[j] = v: the list and the value on top -/
theorem Rel.setAt {xs : List D} {j : Nat} (r : Rel K C M0 H (some (.ref l) :: some v :: σ) (some (.lst true xs) :: some d :: env) F) (hj : j < xs.length) :
    ∃ ys F', H l = some (.lst ys) ∧ ys.length = xs.length ∧ Rel K C M0 (upd H l (.lst (ys.set j v))) (some (.ref l) :: σ) (some (.lst true (xs.set j d)) :: env) F' ∧ Stp F H F' (upd H l (.lst (ys.set j v))) := by
  obtain ⟨rep, nd, dj, al, zd⟩ := r
  cases rep with
  | have_ h t =>
    cases t with
    | have_ hv t =>
      cases h with
      | own hl tl =>
        rename_i F1 F2 ys G
        obtain ⟨A1, A2, A3, eG, q⟩ := RepL.set_ tl hj hv
        have eq : (l :: G) ++ (F1 ++ F2) = l :: ((G ++ F1) ++ F2) := by simp
        rw [eq] at nd dj t hv tl q zd ⊢
        have nd0 := List.nodup_cons.mp nd
        have ndG := (List.nodup_append.mp nd0.2).1
        have sub : ∀ b ∈ A1 ++ (F1 ++ A3), b ∈ G ++ F1 := fun b hb => by
          rw [eG]; simp only [List.mem_append] at hb ⊢; rcases hb with h | h | h <;> simp [h]
        have nd' : (A1 ++ (F1 ++ A3)).Nodup := by
          rw [eG] at ndG
          rw [List.nodup_append] at ndG
          obtain ⟨a, b, c⟩ := ndG
          have a' : (A1 ++ A3).Nodup := a.sublist ((List.sublist_append_right A2 A3).append_left A1)
          refine nodup_mid (List.nodup_append.mpr ⟨b, a', fun x hx y hy => ?_⟩)
          refine fun e => c y ?_ x hx e.symm
          simp only [List.mem_append] at hy ⊢
          rcases hy with h | h <;> simp [h]
        obtain ⟨r2, s2⟩ := own_write (G := G ++ F1) (G' := A1 ++ (F1 ++ A3)) (o := .lst (ys.set j v)) (x := .lst true (xs.set j d)) (liv_of hl) nd dj al zd t nd' sub fun M' hM ml => .own upd_same (by
          have h3 := repL_upd (o := .lst (ys.set j v)) (.inr (List.mem_cons_self ..)) (liv_of hl).tbk (fun z => nd0.1 (List.mem_append_left _ (sub _ z))) q
          exact repL_mono (hide_mono (.refl _) fun b z => .inl (hM b z)) h3 fun _ _ _ e _ => e)
        exact ⟨ys, _, hl, tl.length, r2, s2⟩
/-- an item that is owned: taken out of its list -/
theorem Rel.item {xs : List D} {j : Nat} {x : D} (r : Rel K C M0 H (some v :: σ) (some (.lst true xs) :: env) F) (hj : xs[j]? = some x) :
    ∃ a ys u F', v = .ref a ∧ H a = some (.lst ys) ∧ ys[j]? = some u ∧ Rel K C M0 H (some u :: some v :: σ) (some x :: some (.lst true (xs.set j .hole)) :: env) F' ∧ ∀ b ∈ F', b ∈ F := by
  obtain ⟨rep, nd, dj, al, zd⟩ := r
  cases rep with
  | have_ h t =>
    cases h with
    | own hl tl =>
      rename_i F2 a ys G
      obtain ⟨u, Gx, A1, A2, hu, hx, eG, q⟩ := RepL.out tl hj
      have q := q .hole u (.hole u)
      have es : ys.set j u = ys := by
        have lj : j < ys.length := by
          rcases Nat.lt_or_ge j ys.length with z | z
          · exact z
          · rw [List.getElem?_eq_none z] at hu; cases hu
        rw [List.getElem?_eq_getElem lj] at hu
        have := Option.some.inj hu
        conv => lhs; rw [← this]
        exact List.set_getElem_self lj
      rw [es] at q
      have m : ∀ b, b ∈ Gx ++ ((a :: (A1 ++ A2)) ++ F2) ↔ b ∈ (a :: G) ++ F2 := fun b => by
        rw [eG]; simp only [List.mem_append, List.mem_cons]
        exact ⟨fun h => by rcases h with h | (h | h | h) | h <;> simp [h], fun h => by rcases h with (h | h | h | h) | h <;> simp [h]⟩
      have em : orF M0 ((a :: G) ++ F2) = orF M0 (Gx ++ ((a :: (A1 ++ A2)) ++ F2)) := by
        funext b; simp only [orF]; exact propext (or_congr_right (m b).symm)
      refine ⟨a, ys, u, Gx ++ ((a :: (A1 ++ A2)) ++ F2), rfl, hl, hu, ⟨?_, ?_, fun b hb => dj b ((m b).mp hb), al, by rw [← em]; exact zd⟩, fun b hb => (m b).mp hb⟩
      · rw [em] at hx q t
        exact .have_ hx (.have_ (.own hl q) t)
      · have nd2 : ((a :: A1) ++ (Gx ++ (A2 ++ F2))).Nodup := by rw [eG] at nd; simpa [List.append_assoc] using nd
        have := nodup_mid (F1 := Gx) (G := a :: A1) (F2 := A2 ++ F2) nd2
        simpa [List.append_assoc] using this
/-- put back into its place -/
theorem Rel.fillItem {xs : List D} {j : Nat} {a : Addr} {ys : List V} (r : Rel K C M0 H (some w :: some (.ref a) :: σ) (some d :: some (.lst true xs) :: env) F) (hl : H a = some (.lst ys)) (hw : ys[j]? = some w) (hj : j < xs.length) :
    ∃ F', Rel K C M0 H (some (.ref a) :: σ) (some (.lst true (xs.set j d)) :: env) F' ∧ ∀ b ∈ F', b ∈ F := by
  obtain ⟨F0, r0, m0⟩ := Rel.swap (σ1 := [some (.ref a)]) (e1 := [some (.lst true xs)]) r rfl
  obtain ⟨ys', F', hl', _, r2, s2⟩ := Rel.setAt (l := a) r0 hj
  rw [hl] at hl'
  obtain rfl : ys = ys' := by simpa using hl'
  have es : ys.set j w = ys := by
    have lj : j < ys.length := by
      rcases Nat.lt_or_ge j ys.length with z | z
      · exact z
      · rw [List.getElem?_eq_none z] at hw; cases hw
    rw [List.getElem?_eq_getElem lj] at hw
    have := Option.some.inj hw
    conv => lhs; rw [← this]
    exact List.set_getElem_self lj
  rw [es] at r2 s2
  have eu : upd H a (.lst ys) = H := by
    funext b
    by_cases e : b = a
    · rw [e, upd_same, hl]
    · rw [upd_ne e]
  rw [eu] at r2 s2
  refine ⟨F', r2, fun b hb => ?_⟩
  rcases s2.new b hb with z | z
  · exact (m0 b).mp z
  · exact absurd z (repO_alive r2.rep b hb).ne
/-! ### xs.append(e), at a slot -/
def appO (i : Nat) (f : Env → R D) : Env → Out := fun env => match env[i]? with
  | some (some (.lst true _)) => (match f env with
    | .ok d e => (match e[i]? with
      | some (some (.lst true xs)) => if xs.length < 1000000 then .nx (e.set i (some (.lst true (xs ++ [d])))) else .no
      | _ => .no)
    | .ex c ns vs e => .ex c ns vs e
    | .no => .no)
  | _ => .no
theorem i_app {i : Nat} {f : Env → R D} {E : Ends} (h : tS K C W kp (appO i f) E σ H) : tDrop (tBM K "list" rAppend (tVar i) (tCons (tOf K C W f) tNil)) E σ H := by
  obtain ⟨M0, env, F, r, h⟩ := h
  unfold appO at h
  split at h
  case h_2 => exact h.elim
  rename_i xs0 e0
  obtain ⟨v0, G, A1, A2, hσ, hv0, eF, _⟩ := r.rep.at e0
  obtain ⟨l, vs0, _, rfl, hl0, _, _⟩ := hv0.lstR
  refine ⟨.ref l, hσ, .inl ⟨rfl, _, .of hl0⟩, M0, env, F, r, ?_⟩
  cases ef : f env with
  | no => rw [ef] at h; exact h
  | ex c ns ds e => rw [ef] at h; exact exS h
  | ok d e =>
    rw [ef] at h
    intro v H1 F1 r1 s1
    have h : okS K C W kp M0 σ F H E (match e[i]? with
      | some (some (.lst true xs)) => if xs.length < 1000000 then .nx (e.set i (some (.lst true (xs ++ [d])))) else .no
      | _ => .no) := h
    split at h
    case h_2 => exact h.elim
    rename_i xs ei
    split at h
    case isFalse => exact h.elim
    rename_i hz
    have e1 : (some d :: e)[i + 1]? = some (some (.lst true xs)) := by simpa using ei
    obtain ⟨v', F2, hσ', r2, s2⟩ := r1.take e1
    obtain rfl : v' = .ref l := by
      have : (some v :: σ)[i + 1]? = σ[i]? := by simp
      rw [this, hσ] at hσ'
      simpa using hσ'.symm
    obtain ⟨ys, F3, hl, ly, r3, s3⟩ := Rel.append (l := l) r2
    obtain ⟨F4, r4, s4⟩ := r3.put (i := i) hσ
    rw [List.set_set] at r4
    refine ⟨l, ys, v, rfl, rfl, hl, Nat.lt_of_lt_of_le (by omega : ys.length < 1000000) (by rw [sizeLine_eq]; decide), ?_⟩
    exact h σ _ F4 r4 (s1.trans ((Stp.sub s2).trans (s3.trans (.sub s4)))) Kp.rfl
/-! ### xs[i] = e, at a slot -/
def put1G (i : Nat) (fk : Env → Option D) : D → Env → Option Env := fun d env => match fk env, env[i]? with
  | some (.int k), some (some (.lst true xs)) => (match ixN xs.length k with
    | some j => some (env.set i (some (.lst true (xs.set j d))))
    | none => none)
  | _, _ => none
theorem ixN_lt {n : Nat} {i : Int} {j : Nat} (h : ixN n i = some j) : j < n := (ixN_seq h).2.1
theorem i_put1 {i : Nat} {fk : Env → Option D} {Q : L2.St → Hp → Prop} (h : gOf K C kp (put1G i fk) v σ H Q) : gSub (tVar i) (bOf K C fk) rSetL v σ H Q := by
  obtain ⟨M0, d, env, F, e, r, eg, h⟩ := h
  unfold put1G at eg
  split at eg
  case h_2 => cases eg
  rename_i k xs ek ei
  split at eg
  case h_2 => cases eg
  rename_i j ej
  obtain rfl := Option.some.inj eg
  obtain ⟨G1, G2, eG, hv, r2⟩ := r.pop
  obtain ⟨v0, _, _, _, hσ, hv0, _, _⟩ := r2.rep.at ei
  obtain ⟨l, ys, _, rfl, hl, tl, _⟩ := hv0.lstR
  refine ⟨.ref l, hσ, orF M0 G1, env, G2, r2, .int k, ek, fun u H1 s1 r3 ⟨G3, _, hu⟩ => ?_⟩
  cases hu
  have r4 := r.grow s1
  have e1 : (some d :: env)[i + 1]? = some (some (.lst true xs)) := by simpa using ei
  obtain ⟨v', F2, hσ', r5, s5⟩ := r4.take e1
  obtain rfl : v' = .ref l := by
    have : (some v :: σ)[i + 1]? = σ[i]? := by simp
    rw [this, hσ] at hσ'
    simpa using hσ'.symm
  obtain ⟨zs, F3, hl2, ly, r6, s6⟩ := Rel.setAt (l := l) r5 (ixN_lt ej)
  obtain ⟨F4, r7, s7⟩ := r6.put (i := i) hσ
  rw [List.set_set] at r7
  refine ⟨l, zs, k, j, rfl, rfl, hl2, by rw [ly]; exact ej, h σ _ F4 r7 ?_ Kp.rfl⟩
  exact (Stp.same s1 fun b hb => .inl hb).trans ((Stp.sub s5).trans (s6.trans (.sub s7)))
/-- xs[a][b] = e -/
def put2G (i : Nat) (fa fb : Env → Option D) : D → Env → Option Env := fun d env => match fa env, fb env, env[i]? with
  | some (.int a), some (.int b), some (some (.lst true rows)) => (match ixN rows.length a with
    | some ja => (match rows[ja]? with
      | some (.lst true xs) => (match ixN xs.length b with
        | some j => some (env.set i (some (.lst true (rows.set ja (.lst true (xs.set j d))))))
        | none => none)
      | _ => none)
    | none => none)
  | _, _, _ => none
theorem i_put2 {i : Nat} {fa fb : Env → Option D} {Q : L2.St → Hp → Prop} (h : gOf K C kp (put2G i fa fb) v σ H Q) : gSub (tOp (rIx K) (tVar i) (bOf K C fa)) (bOf K C fb) rSetL v σ H Q := by
  obtain ⟨M0, d, env, F, e, r, eg, h⟩ := h
  unfold put2G at eg
  split at eg
  case h_2 => cases eg
  rename_i ka kb rows ea eb ei
  split at eg
  case h_2 => cases eg
  rename_i ja eja
  split at eg
  case h_2 => cases eg
  rename_i xs erow
  split at eg
  case h_2 => cases eg
  rename_i j ej
  obtain rfl := Option.some.inj eg
  obtain ⟨G1, G2, eG, hv, r2⟩ := r.pop
  obtain ⟨v0, _, _, _, hσ, hv0, _, _⟩ := r2.rep.at ei
  obtain ⟨l, ys, _, rfl, hl, tl, _⟩ := hv0.lstR
  refine ⟨.ref l, hσ, orF M0 G1, env, G2, r2, .int ka, ea, fun u H1 s1 r3 ⟨G3, _, hu⟩ => ?_⟩
  cases hu
  obtain ⟨u, _, eu, hu, _⟩ := tl.get erow
  obtain ⟨m, cs, _, rfl, hm, _, _⟩ := hu.lstR
  have at_ : L2.atI ys ka = some (.ref m) := by
    unfold L2.atI
    rw [tl.length, eja]
    exact eu
  refine .inl ⟨l, ys, ka, .ref m, rfl, rfl, .of (s1 _ _ hl), at_, orF M0 G1, env, G2, r3, .int kb, eb, fun u2 H2 s2 r4 ⟨G4, _, hu2⟩ => ?_⟩
  cases hu2
  have s12 := s1.trans s2
  have r5 := r.grow s12
  have e1 : (some d :: env)[i + 1]? = some (some (.lst true rows)) := by simpa using ei
  obtain ⟨v', F5, hσ', r6, s6⟩ := r5.take e1
  obtain rfl : v' = .ref l := by
    have : (some v :: σ)[i + 1]? = σ[i]? := by simp
    rw [this, hσ] at hσ'
    simpa using hσ'.symm
  obtain ⟨a', ys', u', F6, eq, hl', hu', r7, s7⟩ := r6.item erow
  cases eq
  have eys : ys' = ys := by
    have := s12 _ _ hl
    rw [this] at hl'
    simpa using hl'.symm
  subst eys
  obtain rfl : u' = .ref m := by rw [eu] at hu'; simpa using hu'.symm
  -- the row, the value below the list
  obtain ⟨F7, r8, m8⟩ := Rel.swap (σ1 := [some (.ref l)]) (e1 := [some (.lst true (rows.set ja .hole))]) (x := some (.ref m)) (y := some (.lst true xs)) r7 rfl
  have r8 : Rel K C M0 H2 (some (.ref l) :: some (.ref m) :: some v :: σ) (some (.lst true (rows.set ja .hole)) :: some (.lst true xs) :: some d :: env.set i none) F7 := r8
  obtain ⟨P1, P2, eP, hp, r9⟩ := r8.pop
  obtain ⟨zs, F10, hl2, ly, r10, s10⟩ := Rel.setAt (l := m) r9 (ixN_lt ej)
  obtain ⟨r11, s11⟩ := Rel.back r8 P1 P2 eP hp r10 s10
  have nlm : l ≠ m := by
    rintro rfl
    have h1 := s12 _ _ hl
    have nd := r8.nd
    have rr := r8.rep
    cases rr with
    | have_ hA tA =>
      cases hA with
      | own hAl tAl =>
        cases tA with
        | have_ hB tB =>
          cases hB with
          | own hBl tBl =>
            simp at nd
  obtain ⟨F12, r12, m12⟩ := Rel.swap (σ1 := [some (.ref m)]) (e1 := [some (.lst true (xs.set j d))]) (x := some (.ref l)) (y := some (.lst true (rows.set ja .hole))) r11 rfl
  have hl3 : (upd H2 m (.lst (zs.set j v))) l = some (.lst ys') := by rw [upd_ne nlm]; exact s12 _ _ hl
  obtain ⟨F13, r13, s13⟩ := Rel.fillItem (j := ja) r12 hl3 eu (by rw [List.length_set]; exact ixN_lt eja)
  rw [List.set_set] at r13
  obtain ⟨F14, r14, s14⟩ := r13.put (i := i) hσ
  rw [List.set_set] at r14
  refine ⟨m, zs, kb, j, rfl, rfl, hl2, by rw [ly]; exact ej, h σ _ F14 r14 ?_ Kp.rfl⟩
  have a1 : Stp F H F H2 := .same s12 fun b hb => .inl hb
  have a2 : Stp F H2 F7 H2 := .sub fun b hb => s6 b (s7 b ((m8 b).mp hb))
  exact a1.trans (a2.trans (s11.trans ((Stp.sub fun b hb => (m12 b).mp hb).trans ((Stp.sub s13).trans (.sub s14)))))
/-! ### fields, methods, instances -/
def lookD : List Str → List D → Str → Option D
  | n :: ns, d :: ds, f => if f == n then some d else lookD ns ds f
  | _, _, _ => none
theorem lookD_some {M : Addr → Prop} : ∀ {ns : List Str} {vs : List V} {ds : List D} {F : List Addr} {f : Str} {d : D}, RepL K C M H vs ds F → lookD ns ds f = some d → ∃ v G, (ns.zip vs).lookup f = some v ∧ Rep K C M H v d G ∧ ∀ b ∈ G, b ∈ F
  | [], _, _, _, _, _, _, e => by simp [lookD] at e
  | _ :: _, _, _, _, _, _, .nil, e => by simp [lookD] at e
  | n :: ns, _, _, _, f, d, .cons h t, e => by
    simp only [lookD] at e
    split at e
    · rename_i hf
      obtain rfl := Option.some.inj e
      exact ⟨_, _, by simp only [List.zip_cons_cons, List.lookup, hf], h, fun b hb => List.mem_append_left _ hb⟩
    · rename_i hf
      obtain ⟨v, G, h1, h2, h3⟩ := lookD_some t e
      have hf : (f == n) = false := by simpa using hf
      exact ⟨v, G, by simp only [List.zip_cons_cons, List.lookup, hf, h1], h2, fun b hb => List.mem_append_right _ (h3 b hb)⟩
theorem look_none : ∀ {ns : List Str} {vs : List V} {f : Str}, f ∉ ns → (ns.zip vs).lookup f = none
  | [], _, _, _ => rfl
  | _ :: _, [], _, _ => rfl
  | n :: ns, v :: vs, f, h => by
    have hf : (f == n) = false := by simpa using fun e => h (by rw [e]; exact List.mem_cons_self ..)
    simp only [List.zip_cons_cons, List.lookup, hf]
    exact look_none fun z => h (List.mem_cons_of_mem _ z)
theorem Rep.insR {M : Addr → Prop} {o : Bool} {c : Nat} {ns : List Str} {ds : List D} (h : Rep K C M H v (.ins o c ns ds) F) : ∃ a dx vs G, v = .ref a ∧ H a = some (.ins (C c) dx (ns.zip vs)) ∧ ns.length = vs.length ∧ RepL K C M H vs ds G ∧ ∀ b ∈ G, b ∈ F := by
  cases h with
  | insF h l _ t => exact ⟨_, _, _, _, rfl, hide_le _ _ h, l, t, fun _ hb => hb⟩
  | insO h l t => exact ⟨_, _, _, _, rfl, h, l, t, fun _ hb => List.mem_cons_of_mem _ hb⟩
/-- o.f, read alone -/
def fldB (c : Nat) (f : Str) (g : Env → Option D) : Env → Option D := fun env => match g env with
  | some (.ins _ c' ns ds) => if c' = c then lookD ns ds f else none
  | _ => none
theorem i_fldB {c : Nat} {f : Str} {g : Env → Option D} {Q : VK} (cl : Cls K (C c)) (na : NoAttr K (C c) f) (h : bOf K C (fldB c f g) σ H Q) : tFld K (bOf K C g) f σ H Q := by
  obtain ⟨M0, env, F, rl, x, ex, h⟩ := h
  unfold fldB at ex
  split at ex
  case h_2 => cases ex
  rename_i o c' ns ds ed
  split at ex
  case isFalse => cases ex
  rename_i hc
  subst hc
  refine ⟨M0, env, F, rl, _, ed, fun v H1 s1 r1 ⟨G1, sg, h1⟩ => ?_⟩
  obtain ⟨a, dx, vs, G, rfl, ha, _, t, st⟩ := h1.insR
  obtain ⟨u, G2, hu, h2, s2⟩ := lookD_some t ex
  exact ⟨a, _, dx, _, u, rfl, ha, cl, na, hu, h u H1 s1 r1 ⟨G2, fun b hb => sg b (st b (s2 b hb)), h2⟩⟩
/-- what is called as a method -/
def recv (c : Nat) (m : Str) (d : D) : Bool := match d with
  | .ins _ c' ns _ => c' == c && !ns.contains m
  | _ => false
def methF (c : Nat) (m : Str) (run : List D → R D) (f : Env → R D) (g : Env → R (List D)) (lk : List (Nat × Nat)) : Env → R D := fun env => (f env).bind fun d e => if recv c m d then callF run (lkV lk) (fun e => (g e).bind fun ds e2 => .ok (d :: ds) e2) e else .no
theorem i_meth {n : Nat} {c : Nat} {m : Str} {run : List D → R D} {f : Env → R D} {g : Env → R (List D)} {lk : List (Nat × Nat)} {Q : VK} (P : Pure (n + 1) run) (hn : ∀ env ds e, g env = .ok ds e → ds.length = n) (h : tOf K C W (methF c m run f g lk) σ H Q) : tMethU (C c) m (spP K C (n + 1) run) [] W (tOf K C W f) (aOf K C W g lk) σ H Q := by
  refine then_tOf (k := fun d e => if recv c m d then callF run (lkV lk) (fun e => (g e).bind fun ds e2 => .ok (d :: ds) e2) e else .no) (t := fun x σ H1 Q => ∃ a dx fs, x = .ref a ∧ H1 a = some (.ins (C c) dx fs) ∧ fs.lookup m = none ∧ aOf K C W g lk σ H1 fun vs H2 => spP K C (n + 1) run (x :: (vs ++ [])) H2 Q (W σ)) h ?_
  intro d e1 v H1 M0 F r1 h1
  by_cases hr : recv c m d = true
  case neg => rw [if_neg hr] at h1; exact h1.elim
  rw [if_pos hr] at h1
  have hr' := hr
  unfold recv at hr'
  split at hr'
  case h_2 => cases hr'
  rename_i o c' ns ds0
  simp only [Bool.and_eq_true, beq_iff_eq, Bool.not_eq_true', List.contains_eq_mem, decide_eq_false_iff_not] at hr'
  obtain ⟨rfl, hm⟩ := hr'
  obtain ⟨G1, G2, eG, hv2, r2⟩ := r1.pop
  obtain ⟨a, dx, vs0, _, rfl, ha, _, _, _⟩ := hv2.insR
  · refine ⟨a, dx, _, rfl, ha, look_none hm, ?_⟩
    refine ⟨orF M0 G1, e1, G2, r2, ?_⟩
    cases eg : g e1 with
    | no => simp only [callF, R.bind, eg] at h1; exact h1
    | ex c ns xs e => simp only [callF, R.bind, eg] at h1; subst eG; exact ExOk.lift h1 .refl
    | ok ds e2 =>
      simp only [callF, R.bind, eg] at h1
      intro vs H2 F2 r3 s3 l3 k3
      obtain ⟨r4, s4⟩ := Rel.back r1 G1 G2 eG hv2 r3 s3
      rw [List.append_nil]
      refine call_core (vs := .ref a :: vs) (ds := _ :: ds) r4 (by simp [l3]) (by simp [hn _ _ _ eg]) (fun q hq => ?_) (P.len _).1 (P.len _).2 (okT_trans h1 s4)
      obtain ⟨q', hq', rfl⟩ := List.mem_map.mp hq
      obtain ⟨u, e1, e2⟩ := k3 q' hq'
      exact ⟨u, by simpa using e1, e2⟩
/-- C(..): a new instance, then __init__ -/
def makeF (c : Nat) (run : List D → R D) (lk : List (Nat × Nat)) (af : Env → R (List D)) : Env → R D := fun env => (af env).bind fun ds e => match run (.ins true c [] [] :: ds) with
  | .ok .non (some d :: outs) => .ok d (relink lk outs e)
  | .ex c ns xs (_ :: outs) => .ex c ns xs (relink lk outs e)
  | _ => .no
/-- behind arguments: a new instance by the run of __init__ -/
theorem make_core {n : Nat} {c : Nat} {run : List D → R D} {lk : List (Nat × Nat)} {vs : List V} {ds : List D} {Q : VK} (r : Rel K C M0 H (vs.map some ++ σ) (ds.map some ++ env) F) (l : vs.length = ds.length) (hn : ds.length = n) (P : Pure (n + 1) run)
    (hlk : ∀ q ∈ lk, ∃ v, vs[q.1]? = some v ∧ σ[q.2]? = some (some v))
    (h : okT K C W M0 σ F H Q (match run (.ins true c [] [] :: ds) with
      | .ok .non (some d :: outs) => .ok d (relink lk outs env)
      | .ex c ns xs (_ :: outs) => .ex c ns xs (relink lk outs env)
      | _ => .no)) {x dx : Addr} (nx : H x = none) (ndx : H dx = none) (hne : dx ≠ x) :
    spP K C (n + 1) run (.ref x :: vs) (upd (upd H dx (.own x)) x (.ins (C c) dx [])) (fun v H2 => v = .non ∧ Q (.ref x) H2) (W σ) := by
  have s0 : Same H (upd H dx (.own x)) := new_same ndx
  have r0 := r.grow s0
  have nx' : (upd H dx (.own x)) x = none := by rw [upd_ne (Ne.symm hne)]; exact nx
  obtain ⟨r1, s1⟩ := Rel.new (p := x) (o := .ins (C c) dx []) (x := .ins true c [] []) r0 nx' fun M' _ => .insO (F := []) (ns := []) (vs := []) upd_same rfl .nil
  have s01 : Stp F H (x :: F) (upd (upd H dx (.own x)) x (.ins (C c) dx [])) := (Stp.same s0 fun b hb => .inl hb).trans s1
  refine ⟨by simp [l, hn], ?_⟩
  obtain ⟨F1, F2, eF, h2, r2⟩ := Rel.upper (σ1 := (V.ref x :: vs).map some) (e1 := (D.ins true c [] [] :: ds).map some) (σ2 := σ) (e2 := env) r1 (by simp [l])
  refine ⟨orF M0 F2, _, F1, r2, ?_⟩
  rw [eF] at r1 h2 s01
  cases er : run (.ins true c [] [] :: ds) with
  | no => rw [er] at h; exact h
  | ex c2 ns xs outs =>
    rw [er] at h
    have lo := (P.len _).2 _ _ _ _ er
    intro od us H' F' r' s' ho hl ru
    cases outs with
    | nil => exact h.elim
    | cons y outs =>
      obtain ⟨r3, s3⟩ := Rel.over r1 h2 r' s'
      obtain ⟨F4, r4, s4⟩ := Rel.drop (σ := vs.map some ++ σ) (env := outs ++ env) r3
      obtain ⟨F5, r5, s5⟩ := Rel.relink lk hlk (by simp at lo; omega) r4
      have sub : ∀ b ∈ F5, b ∈ F' ++ F2 := fun b hb => s4.subset (s5 b hb)
      have hm : ∀ b, orF M0 F5 b → orF (orF M0 F2) F' b := fun b z => by
        rcases z with z | z
        · exact .inl (.inl z)
        · rcases List.mem_append.mp (sub b z) with q | q
          · exact .inr q
          · exact .inl (.inr q)
      exact h od us H' F5 r5 (s01.trans (s3.trans (.sub sub))) (hide_mono (.refl _) (fun b z => .inl (hm b z)) _ _ ho) hl (repL_mono (hide_mono (.refl _) fun b z => .inl (hm b z)) ru fun _ hb => by cases hb)
  | ok y outs =>
    rw [er] at h
    have lo := (P.len _).1 _ _ er
    intro v H' F' r' s'
    cases outs with
    | nil => cases y <;> exact h.elim
    | cons z outs =>
      cases y <;> try exact h.elim
      cases z with
      | none => exact h.elim
      | some d =>
        have h : okT K C W M0 σ F H Q (.ok d (relink lk outs env)) := h
        obtain ⟨Fd, rd, sd⟩ := Rel.drop r'
        have hv : v = .non := by
          have rr := r'.rep
          cases rr with
          | have_ hv _ => cases hv; rfl
        refine ⟨hv, ?_⟩
        obtain ⟨r3, s3⟩ := Rel.over r1 h2 rd (s'.trans (.subl sd))
        have r3 : Rel K C M0 H' (some (.ref x) :: (vs.map some ++ σ)) (some d :: (outs ++ env)) (Fd ++ F2) := r3
        obtain ⟨G1, G2, eG, hd, r4⟩ := Rel.pop r3
        obtain ⟨F5, r5, s5⟩ := Rel.relink lk hlk (by simp at lo; omega) r4
        obtain ⟨r6, s6⟩ := Rel.back r3 G1 G2 eG hd r5 (.sub s5)
        exact h (.ref x) H' _ r6 (s01.trans (s3.trans s6))
def tMakeU (C : Addr) (sp : Sp) (dvs : List V) (E : L2.St → XK) (t : TA) : TE := fun σ H Q => t σ H fun vs H1 => ∀ x dx, H1 x = none → H1 dx = none → dx ≠ x →
  sp (.ref x :: (vs ++ dvs)) (upd (upd H1 dx (.own x)) x (.ins C dx [])) (fun v H2 => v = .non ∧ Q (.ref x) H2) (E σ)
theorem i_make {n : Nat} {c : Nat} {run : List D → R D} {lk : List (Nat × Nat)} {af : Env → R (List D)} {Q : VK} (P : Pure (n + 1) run) (hn : ∀ env ds e, af env = .ok ds e → ds.length = n) (h : tOf K C W (makeF c run lk af) σ H Q) : tMakeU (C c) (spP K C (n + 1) run) [] W (aOf K C W af lk) σ H Q := by
  obtain ⟨M0, env, F, r, h⟩ := h
  refine ⟨M0, env, F, r, ?_⟩
  cases ef : af env with
  | no => simp only [makeF, ef, R.bind] at h; exact h
  | ex c ns ds e => simp only [makeF, ef, R.bind] at h; exact h
  | ok ds e =>
    simp only [makeF, ef, R.bind] at h
    intro vs H1 F1 r1 s1 l1 k1 x dx nx ndx hne
    rw [List.append_nil]
    exact make_core r1 l1 (hn _ _ _ ef) P k1 (okT_trans h s1) nx ndx hne
end
section
variable {X : Cx} {C f : Addr} {k : Nat} {fd : FuncData} {ps : List Str} {sp : Sp} {dvs : List V} {ds : List Value} {W : WX} {x : Str} {p pos : Pos} {e : Expr} {es : List Expr} {t : TA}
theorem run_makeU {pins : List (Addr × Obj)} {σ : L2.St} {H : Hp} {s : Shared} {Q : VK} {us : List Value} {vs : List V} (M : Mk X.K C f) (F : FnU X.prog X.w X.K X.mg X.base k f fd ps sp) (hG : X.A.guards = some []) (hr : Room (k + 1) X.A) (hb : Binds X.K fd ps ds) (hd : Vals dvs ds)
    (tk : Takes X W) (I : Inv X pins σ H s) (r : Vals vs us)
    (h : ∀ x dx, H x = none → H dx = none → dx ≠ x → sp (.ref x :: (vs ++ dvs)) (upd (upd H dx (.own x)) x (.ins C dx [])) (fun v H2 => v = .non ∧ Q (.ref x) H2) (WE W σ)) :
    wpAny (model X.prog X.w) X.A (call (.ref C) us) (EP X pins σ Q) X.xe s := by
  have hq := h (s.heap.objs.size + 1) s.heap.objs.size (I.hok.fresh (Nat.le_succ _)) (I.hok.fresh (Nat.le_refl _)) (Nat.ne_of_lt (Nat.lt_succ_self _))
  have I2 := Inv.made (C := C) I
  have r2 : Vals (V.ref (s.heap.objs.size + 1) :: (vs ++ dvs)) (Value.ref (s.heap.objs.size + 1) :: (us ++ ds)) := .cons rfl (r.append hd)
  have hl : (Value.ref (s.heap.objs.size + 1) :: us ++ ds).length = ps.length := by
    have e := r2.length
    rw [F.len _ _ _ _ hq] at e
    exact e.symm
  refine wpAny_call (make_map (f := f) I.kIn M.makes M.init (beq_iff_eq.mp M.fn) (codeAny_mono (F.run (X.A.under (.builtin "type.__call__" ⟨.ref C :: us, []⟩)) hG X.stack _ _ ⟨Value.ref (s.heap.objs.size + 1) :: us, []⟩ (Value.ref (s.heap.objs.size + 1) :: (us ++ ds)) _ _ (WE W σ) (hr.make C us [])
    (I2.env0.make C us []) (hb _ (Value.ref (s.heap.objs.size + 1) :: us) I2.kIn hl) r2 hq) fun r s' hq' => ?_))
  cases r with
  | error e => exact passAt tk σ pins _ _ e s' I2 hq'
  | ok fl =>
    cases fl with
    | ret u =>
      obtain ⟨v, H', I3, rv, ev, q3⟩ := I2.after hq'
      subst ev
      exact ⟨rv, ⟨V.ref (s.heap.objs.size + 1), H', I3, rfl, q3⟩⟩
    | next => exact False.elim hq'
    | brk => exact False.elim hq'
    | cont => exact False.elim hq'
theorem pe_makeU (M : Mk X.K C f) (F : FnU X.prog X.w X.K X.mg X.base k f fd ps sp) (hG : X.A.guards = some []) (hr : Room (k + 1) X.A) (hg : Gl X x) (hm : X.mg x = some (.ref C)) (hb : Binds X.K fd ps ds) (hd : Vals dvs ds) (tk : Takes X W)
    (ha : PA X (e :: es) t) (hdb : (x == ("__debug__" : Str)) = false := by decide) (he : starEach (e :: es) X.env = (false, eval e X.env) :: starEach es X.env := by rfl) (hpl : (backTo pos (starEach es X.env)).any (·.1) = false := by rfl) :
    PE X (.Call (.Name x p) (e :: es) [] pos) (tMakeU C sp dvs (WE W) t) := by
  refine ⟨fun pins s σ H Q I h => ?_⟩
  refine wpAny_Call_Name_kw (ld_glob I hg hm ?_ hdb)
  refine PySem.W.callWith_K (h₀ := X.base) I.ok.mod.kin M.kp (thn (ha.run pos pins s σ H _ I h) fun us s1 ⟨vs, H1, I1, r, q⟩ => ⟨I1.kIn, ?_⟩) he hpl
  exact run_makeU M F hG hr hb hd tk I1 r q
/-! keywords -/
def tCallKU (sp : Sp) (gV : List V → List V → List V) (E : L2.St → XK) (t tk : TA) : TE := fun σ H Q => t σ H fun vs H1 => tk σ H1 fun zs H2 => sp (gV vs zs) H2 Q (E σ)
theorem pe_callKU {ks : List Str} {g : List Value → List Value → List Value} {gV : List V → List V → List V} {kws : List Keyword} {tk : TA} (F : FnU X.prog X.w X.K X.mg X.base k f fd ps sp) (hG : X.A.guards = some []) (hr : Room k X.A) (hg : Gl X x) (hm : X.mg x = some (.ref f)) (hk : PySem.W.keepIn X.K (.ref f) = true) (hb : KBinds X.K fd ps ks g gV) (tw : Takes X W)
    (ha : PA X (e :: es) t) (hkw : PK X kws tk) (hall : (backToKw pos (keywordEach kws X.env)).all (·.1.isSome) = true := by rfl) (hks : (backToKw pos (keywordEach kws X.env)).filterMap (·.1) = ks := by rfl)
    (hdb : (x == ("__debug__" : Str)) = false := by decide) (he : starEach (e :: es) X.env = (false, eval e X.env) :: starEach es X.env := by rfl)
    (hpl : ((backTo pos (starEach (e :: es) X.env)).any (·.1) || (backToKw pos (keywordEach kws X.env)).any (·.1.isNone)) = false := by rfl) :
    PE X (.Call (.Name x p) (e :: es) kws pos) (tCallKU sp gV (WE W) t tk) := by
  refine ⟨fun pins s σ H Q I h => ?_⟩
  refine wpAny_Call_Name_kw (ld_glob I hg hm ?_ hdb)
  refine PySem.W.callWith_KW (h₀ := X.base) I.ok.mod.kin hk hall (thn (ha.run pos pins s σ H _ I h) fun us s1 ⟨vs, H1, I1, r, q⟩ => ?_) hpl he
  refine thn (hkw.run pos pins s1 σ H1 _ I1 q) fun ws s2 ⟨zs, H2, I2, rz, q2⟩ => ⟨I2.kIn, ?_⟩
  rw [hks]
  have r2 := hb.rel r rz
  have hl : (g us ws).length = ps.length := by rw [← r2.length]; exact F.len _ _ _ _ q2
  refine wpAny_call (codeAny_mono (F.run X.A hG X.stack s2 H2 ⟨us, ks.zip ws⟩ (g us ws) (gV vs zs) Q (WE W σ) hr I2.env0 (hb.to s2 us ws I2.kIn hl) r2 q2) fun r s' hq => ?_)
  cases r with
  | error e => exact passAt tw σ pins H2 s2 e s' I2 hq
  | ok fl =>
    cases fl with
    | ret u => exact I2.after hq
    | next => exact False.elim hq
    | brk => exact False.elim hq
    | cont => exact False.elim hq
theorem _root_.L2.PK.imp {kws : List Keyword} {t t' : TA} (h : PK X kws t) (i : ∀ σ H Q, t' σ H Q → t σ H Q) : PK X kws t' := ⟨fun pos pins s σ H Q I q => h.run pos pins s σ H Q I (i σ H Q q)⟩
end
section
variable {K : PySem.W.Frag} {C : CT} {W : Wish} {kp : List Nat} {M0 : Addr → Prop} {H H' H2 : Hp} {σ σ' : L2.St} {env env' : Env} {F F' F1 F2 G G' : List Addr}
def argApp (f g : Env → R (List D)) : Env → R (List D) := fun env => (f env).bind fun ds e1 => (g e1).bind fun es e2 => .ok (ds ++ es) e2
theorem i_callK {n m : Nat} {run : List D → R D} {f g : Env → R (List D)} {lk : List (Nat × Nat)} {gV : List V → List V → List V} {Q : VK} (P : Pure n run) (hm : ∀ env ds e, f env = .ok ds e → ds.length = m) (hn : ∀ env ds e, g env = .ok ds e → m + ds.length = n)
    (hgV : ∀ vs zs : List V, vs.length = m → gV vs zs = vs ++ zs) (h : tOf K C W (callF run lk (argApp f g)) σ H Q) : tCallKU (spP K C n run) gV W (aOf K C W f lk) (aOf K C W g []) σ H Q := by
  obtain ⟨M0, env, F, r, h⟩ := h
  refine ⟨M0, env, F, r, ?_⟩
  cases ef : f env with
  | no => simp only [callF, argApp, ef, R.bind] at h; exact h
  | ex c ns ds e => simp only [callF, argApp, ef, R.bind] at h; exact h
  | ok ds e =>
    intro vs H1 F1 r1 s1 l1 k1
    obtain ⟨G1, G2, eG, hp, r2⟩ := Rel.pops r1 (by simp [l1])
    refine ⟨orF M0 G1, e, G2, r2, ?_⟩
    cases eg : g e with
    | no => simp only [callF, argApp, ef, eg, R.bind] at h; exact h
    | ex c ns xs e2 => simp only [callF, argApp, ef, eg, R.bind] at h; subst eG; exact ExOk.lift h s1
    | ok es e2 =>
      simp only [callF, argApp, ef, eg, R.bind] at h
      intro zs H2 F2 r3 s3 l3 _
      obtain ⟨r4, s4⟩ := Rel.backs r1 G1 G2 eG hp r3 s3
      rw [hgV vs zs (l1.trans (hm _ _ _ ef))]
      have r5 : Rel K C M0 H2 ((vs ++ zs).map some ++ σ) ((ds ++ es).map some ++ e2) (G1 ++ F2) := by
        rw [List.map_append, List.map_append, List.append_assoc, List.append_assoc]; exact r4
      refine call_core r5 (by simp [l1, l3]) (by rw [List.length_append, hm _ _ _ ef, hn _ _ _ eg]) (fun q hq => ?_) (P.len _).1 (P.len _).2 (okT_trans h (s1.trans s4))
      obtain ⟨v, h1, h2⟩ := k1 q hq
      refine ⟨v, ?_, h2⟩
      rw [List.getElem?_append_left]
      · exact h1
      · rcases Nat.lt_or_ge q.1 vs.length with z | z
        · exact z
        · rw [List.getElem?_eq_none z] at h1; cases h1
/-- self.f = e, self in slot i -/
def putN (f : Str) : List Str → List Str
  | [] => [f]
  | g :: r => if g = f then g :: r else g :: putN f r
def putDs (f : Str) (d : D) : List Str → List D → List D
  | g :: r, x :: ds => if g = f then d :: ds else x :: putDs f d r ds
  | _, _ => [d]
def fldO (c i : Nat) (f : Str) (g : Env → R D) : Env → Out := fun env => match g env with
  | .ok d e => (match e[i]? with
    | some (some (.ins true c' ns ds)) => if c' = c ∧ ns.length < 900 ∧ d.noOwn = true then .nx (e.set i (some (.ins true c (putN f ns) (putDs f d ns ds)))) else .no
    | _ => .no)
  | .ex c ns vs e => .ex c ns vs e
  | .no => .no
def putVs (f : Str) (v : V) : List Str → List V → List V
  | g :: r, x :: ds => if g = f then v :: ds else x :: putVs f v r ds
  | _, _ => [v]
theorem putF_zip {f : Str} {v : V} : ∀ {ns : List Str} {vs : List V}, ns.length = vs.length → putF f v (ns.zip vs) = (putN f ns).zip (putVs f v ns vs) ∧ (putN f ns).length = (putVs f v ns vs).length
  | [], [], _ => ⟨rfl, rfl⟩
  | g :: ns, w :: vs, l => by
    obtain ⟨h1, h2⟩ := putF_zip (f := f) (v := v) (ns := ns) (vs := vs) (by simpa using l)
    simp only [List.zip_cons_cons, putF, putN, putVs]
    split
    · exact ⟨rfl, by simpa using l⟩
    · exact ⟨by rw [h1]; rfl, by simp [h2]⟩
theorem putV_rep {M : Addr → Prop} {f : Str} {v : V} {d : D} (hv : Rep K C M H v d []) : ∀ {ns : List Str} {vs : List V} {ds : List D} {F : List Addr}, ns.length = vs.length → RepL K C M H vs ds F → ∃ F', RepL K C M H (putVs f v ns vs) (putDs f d ns ds) F' ∧ F'.Sublist F
  | [], [], _, _, _, .nil => ⟨[], .cons (F := []) (G := []) hv .nil, .refl _⟩
  | g :: ns, w :: vs, _, _, l, .cons (F := F0) (G := G0) h t => by
    simp only [putVs, putDs]
    split
    · exact ⟨G0, .cons (F := []) hv t, List.sublist_append_right ..⟩
    · obtain ⟨F', h1, h2⟩ := putV_rep hv (ns := ns) (by simpa using l) t
      exact ⟨F0 ++ F', .cons h h1, h2.append_left _⟩
theorem i_fld {c i : Nat} {f : Str} {g : Env → R D} {E : Ends} (cl : Cls K (C c)) (na : NoAttr K (C c) f) (h : tS K C W kp (fldO c i f g) E σ H) : sFld K (tVar i) (tOf K C W g) f E σ H := by
  obtain ⟨M0, env, F, r, h⟩ := h
  refine ⟨M0, env, F, r, ?_⟩
  cases ef : g env with
  | no => simp only [fldO, ef] at h; exact h
  | ex c ns ds e => simp only [fldO, ef] at h; exact exS h
  | ok d e =>
    simp only [fldO, ef] at h
    intro v H1 F1 r1 s1
    split at h
    case h_2 => exact h.elim
    rename_i c' ns ds ei
    split at h
    case isFalse => exact h.elim
    rename_i hc
    obtain ⟨rfl, hl, hn⟩ := hc
    have e1 : (some d :: e)[i + 1]? = some (some (.ins true c' ns ds)) := by simpa using ei
    obtain ⟨v', F2, hσ, r2, s2⟩ := r1.take e1
    have hσ' : σ[i]? = some (some v') := by simpa using hσ
    obtain ⟨rep, nd, dj, al, zd⟩ := r2
    cases rep with
    | have_ hA tA =>
      cases tA with
      | have_ hB tB =>
        obtain ⟨rfl, _⟩ := fz_noOwn hB hn
        cases hA with
        | insO ha hlen tl =>
          rename_i F3 a dx vs G
          refine ⟨.ref a, hσ', a, _, dx, _, rfl, ha, cl, na, ?_, ?_⟩
          · rw [List.length_zip, ← hlen]; omega
          rw [List.nil_append] at nd dj tB tl hB zd
          obtain ⟨F5, t5, s5⟩ := putV_rep (f := f) hB hlen tl
          obtain ⟨p1, p2⟩ := putF_zip (f := f) (v := v) hlen
          have nd0 := List.nodup_cons.mp nd
          have ndG := (List.nodup_append.mp nd0.2).1
          rw [p1]
          obtain ⟨r6, s6⟩ := own_write (G := G) (G' := F5) (o := .ins (C c') dx ((putN f ns).zip (putVs f v ns vs))) (x := .ins true c' (putN f ns) (putDs f d ns ds)) (liv_of ha) nd dj al zd tB (ndG.sublist s5) (fun b hb => s5.subset hb) fun M' hM ml => .insO upd_same p2 (by
            have h3 := repL_upd (o := .ins (C c') dx ((putN f ns).zip (putVs f v ns vs))) (.inr (List.mem_cons_self ..)) (liv_of ha).tbk (fun z => nd0.1 (List.mem_append_left _ (s5.subset z))) t5
            exact repL_mono (hide_mono (.refl _) fun b z => .inl (hM b z)) h3 fun _ _ _ e _ => e)
          obtain ⟨F7, r7, s7⟩ := r6.put (i := i) hσ'
          rw [List.set_set] at r7
          exact h σ _ F7 r7 (s1.trans ((Stp.sub s2).trans (s6.trans (.sub s7)))) Kp.rfl
end
end J
/-! The terms that a printed derivation is made of: each a rule of the hand layer with its pure word. -/
namespace J
open PySem L2 PySem.Spec PyProof.Rows
/-- a def, by its pure run -/
theorem okP {P : Program} {w : World} {K : PySem.W.Frag} {mg : Str → Option Value} {base : Heap} {C : CT} {x qual : Str} {st : Stmt} {f : Addr} {fd : FuncData} {N ps : List Str} {k n l : Nat} {kp : List Nat} {body : J.Env → Out}
    (F : Fun K x qual st f fd) (S : FnScope N ps (defScope st)) (hN : N.length = n + l) (hp : ps.length = n) (hkp : ∀ i ∈ kp, i < n)
    (hb : ∀ (cdv : Value) (A : Around) (outer : List PySem.Env) (s : Shared) (H : Hp) (E : XK), A.guards = some [] → Room k (A.deeper (envOfC qual (defScope st) s.heap.objs.size f cdv)) →
      PSs (cxOf (L2.CX P w) P w K mg base N qual (defScope st) f cdv A outer s H E) (defBody st) (tS K C (fun _ => E) kp body)) : FnU P w K mg base (k + 1) f fd ps (spP K C n (defF n kp l body)) := by
  obtain ⟨oc, od, kV, doc, pm, an, cdv, ct, osl, rfl, lk, hcd⟩ := F.ex
  exact okU lk hcd S (fun vs H Q E h => h.1.trans hp.symm) fun A outer s H vs Q E hg hr h => ⟨_, hb cdv A outer s H E hg hr, def_core hN hkp h⟩
/-- a def of the module, called -/
structure CalU (P : Program) (w : World) (K : PySem.W.Frag) (mg : Str → Option Value) (base : Heap) (C : CT) (x : Str) (k : Nat) (ps : List Str) (n : Nat) (run : List D → R D) where
  f : Addr
  fd : FuncData
  ok : FnU P w K mg base k f fd ps (spP K C n run)
  g : mg x = some (.ref f)
  kp : PySem.W.keepIn K (.ref f) = true
  b : Binds K fd ps []
  pu : Pure n run
structure CalKU (P : Program) (w : World) (K : PySem.W.Frag) (mg : Str → Option Value) (base : Heap) (C : CT) (x : Str) (k : Nat) (ps ks : List Str) (n : Nat) (run : List D → R D) (gg : List Value → List Value → List Value) (gV : List V → List V → List V) where
  f : Addr
  fd : FuncData
  ok : FnU P w K mg base k f fd ps (spP K C n run)
  g : mg x = some (.ref f)
  kp : PySem.W.keepIn K (.ref f) = true
  b : KBinds K fd ps ks gg gV
  pu : Pure n run
structure MCalU (P : Program) (w : World) (K : PySem.W.Frag) (mg : Str → Option Value) (base : Heap) (C : CT) (c : Nat) (m : Str) (k : Nat) (ps : List Str) (n : Nat) (run : List D → R D) where
  f : Addr
  fd : FuncData
  ok : FnU P w K mg base k f fd ps (spP K C (n + 1) run)
  me : Meth K (C c) m f
  b : Binds K fd ps []
  pu : Pure (n + 1) run
structure ICalU (P : Program) (w : World) (K : PySem.W.Frag) (mg : Str → Option Value) (base : Heap) (C : CT) (c : Nat) (k : Nat) (ps : List Str) (n : Nat) (run : List D → R D) where
  f : Addr
  fd : FuncData
  ok : FnU P w K mg base k f fd ps (spP K C (n + 1) run)
  ma : Mk K (C c) f
  b : Binds K fd ps []
  pu : Pure (n + 1) run
section
variable {X : Cx} {C : CT} {W : WX} {kp : List Nat} {pos p p' p2 apos : Pos} {a b c e o : Expr} {es : List Expr} {x m : Str} {i : Nat}
abbrev T_ (X : Cx) (C : CT) (W : WX) (f : J.Env → R D) : TE := tOf X.K C (WE W) f
abbrev A_ (X : Cx) (C : CT) (W : WX) (f : J.Env → R (List D)) (lk : List (Nat × Nat)) : TA := aOf X.K C (WE W) f lk
abbrev TT_ (X : Cx) (C : CT) (W : WX) (f : J.Env → R Bool) : TT := ttOf X.K C (WE W) f
abbrev S_ (X : Cx) (C : CT) (W : WX) (kp : List Nat) (f : J.Env → Out) : TS := tS X.K C (WE W) kp f
variable {f f2 f3 : J.Env → R D} {g g2 : J.Env → Option D} {c1 c2 : J.Env → R Bool} {s1 s2 : J.Env → Out} {af af2 : J.Env → R (List D)} {lk : List (Nat × Nat)}
/-! expressions -/
theorem q_name (h : PE X a (tVar i)) : PE X a (T_ X C W (rdF i)) := h.imp fun _ _ _ q => i_rdF q
theorem q_move (h : PE X a (tVar i)) : PE X a (T_ X C W (rdM i)) := h.imp fun _ _ _ q => i_rdM q
theorem q_c {v : V} {d : D} (s : Sc v d) (h : PE X a (tC v)) : PE X a (T_ X C W (okC d)) := h.imp fun _ _ _ q => i_okC s q
theorem q_b (h : PE X a (bOf X.K C g)) : PE X a (T_ X C W (toT g)) := h.imp fun _ _ _ q => i_toT q
theorem qb_name (h : PE X a (tVar i)) : PE X a (bOf X.K C (rdB i)) := h.imp fun _ _ _ q => i_rdB q
theorem qb_c {v : V} {d : D} (s : Sc v d) (h : PE X a (tC v)) : PE X a (bOf X.K C fun _ => some d) := h.imp fun _ _ _ q => i_bC s q
theorem qb_ix (ha : PE X a (bOf X.K C g)) (hb : PE X b (bOf X.K C g2)) (hs : PlainIx b) : PE X (.Subscript a b pos) (bOf X.K C (bop2 ixD g g2)) := (pe_ix x_ix ha hb hs).imp fun _ _ _ q => i_bop2 b_ix q
theorem qb_fld {cn : Nat} {fn : Str} (cl : Cls X.K (C cn)) (na : NoAttr X.K (C cn) fn) (ha : PE X a (bOf X.K C g)) (hb : attributeBase a fn X.env (eval a X.env) = eval a X.env) : PE X (.Attribute a fn pos) (bOf X.K C (fldB cn fn g)) := (pe_fld ha hb).imp fun _ _ _ q => i_fldB cl na q
theorem q_add (ha : PE X a (T_ X C W f)) (hb : PE X b (T_ X C W f2)) : PE X (.BinOp a .Add b pos) (T_ X C W (lift2 addD f f2)) := (pe_op o_add ha hb).imp fun _ _ _ q => i_op2 p_add q
theorem q_sub (ha : PE X a (T_ X C W f)) (hb : PE X b (T_ X C W f2)) : PE X (.BinOp a .Sub b pos) (T_ X C W (lift2 subD f f2)) := (pe_op op_sub ha hb).imp fun _ _ _ q => i_op2 p_sub q
theorem q_mul (ha : PE X a (T_ X C W f)) (hb : PE X b (T_ X C W f2)) : PE X (.BinOp a .Mult b pos) (T_ X C W (lift2 mulD f f2)) := (pe_op o_mul ha hb).imp fun _ _ _ q => i_op2 p_mul q
theorem q_div (ha : PE X a (T_ X C W f)) (hb : PE X b (T_ X C W f2)) : PE X (.BinOp a .FloorDiv b pos) (T_ X C W (lift2 divD f f2)) := (pe_op o_div ha hb).imp fun _ _ _ q => i_op2 p_div q
theorem q_mod (ha : PE X a (T_ X C W f)) (hb : PE X b (T_ X C W f2)) : PE X (.BinOp a .Mod b pos) (T_ X C W (lift2 modD f f2)) := (pe_op o_mod ha hb).imp fun _ _ _ q => i_op2 p_mod q
theorem q_pow (ha : PE X a (T_ X C W f)) (hb : PE X b (T_ X C W f2)) : PE X (.BinOp a .Pow b pos) (T_ X C W (lift2 powD f f2)) := (pe_op op_pow ha hb).imp fun _ _ _ q => i_op2 p_pow q
theorem q_neg (ha : PE X a (T_ X C W f)) : PE X (.UnaryOp .USub a pos) (T_ X C W (lift1 negD f)) := (pe_un un_neg ha).imp fun _ _ _ q => i_op1 p_neg q
/-- a comparison -/
theorem q_cmp {op : CmpOp} {r : R2} {gd : D → D → Option D} (ho : OpR X (compareOp op) r) (hg : Op2 X.K C r gd) (ha : PE X a (T_ X C W f)) (hb : PE X b (T_ X C W f2)) (hm : behindInMarks op b = false) : PE X (.Compare a [op] [b] pos) (T_ X C W (lift2 gd f f2)) := (pe_cmpR ho ha hb hm).imp fun _ _ _ q => i_op2 hg q
theorem t_cmp {op : CmpOp} {r : R2} {gd : D → D → Option D} (ho : OpR X (compareOp op) r) (hg : Op2 X.K C r gd) (ha : PE X a (T_ X C W f)) (hb : PE X b (T_ X C W f2)) (hm : behindInMarks op b = false) : PT X (.Compare a [op] [b] pos) (TT_ X C W (asB (lift2 gd f f2))) := by
  refine (pt_cmpR ho ha hb hm).imp fun σ H Q q => ?_
  exact i_op2 hg (i_asB q)
def chainF (p p' : Int → Int → Bool) (f f2 f3 : J.Env → R D) : J.Env → R D := fun env => (f env).bind fun d e1 => (f2 e1).bind fun y e2 => match d, y with
  | .int i, .int j => if p i j = true then (f3 e2).bind fun z e3 => (match z with | .int k => .ok (.bl (p' j k)) e3 | _ => .no) else .ok (.bl false) e2
  | _, _ => .no
theorem i_chain {q1 q2 : Int → Int → Bool} {σ : L2.St} {H : Hp} {Q : VK} (h : tOf X.K C (WE W) (chainF q1 q2 f f2 f3) σ H Q) : tChain (rI0 fun i j => .bl (q1 i j)) (rI0 fun i j => .bl (q2 i j)) (T_ X C W f) (T_ X C W f2) (T_ X C W f3) σ H Q := by
  refine then_tOf (k := fun d e1 => (f2 e1).bind fun y e2 => match d, y with
  | .int i, .int j => if q1 i j = true then (f3 e2).bind fun z e3 => (match z with | .int k => .ok (.bl (q2 j k)) e3 | _ => .no) else .ok (.bl false) e2
  | _, _ => .no) (t := fun v σ H1 Q => T_ X C W f2 σ H1 fun y H2 => rI0 (fun i j => .bl (q1 i j)) v y H2 fun z H3 => ∃ k, z = .bl k ∧ (if k = true then T_ X C W f3 σ H3 fun w' H4 => rI0 (fun i j => .bl (q2 i j)) y w' H4 Q else Q (.bl false) H3)) h ?_
  intro d e1 v H1 M0 F r1 h1
  refine below_tOf r1 h1 ?_
  intro y e2 w H2 F2 r2 h2
  obtain ⟨Ga, Gb, Gc, eGG, hv, hw, F3, r3, s3⟩ := r2.two
  cases d <;> try exact h2.elim
  cases y <;> try exact h2.elim
  rename_i i j
  cases hv; cases hw
  refine ⟨i, j, rfl, rfl, q1 i j, rfl, ?_⟩
  by_cases hp : q1 i j = true
  · rw [if_pos hp]
    have h2 : okT X.K C (WE W) M0 σ F2 H2 Q (if q1 i j = true then (f3 e2).bind fun z e3 => (match z with | .int k => .ok (.bl (q2 j k)) e3 | _ => .no) else .ok (.bl false) e2) := h2
    rw [if_pos hp] at h2
    refine ⟨M0, e2, F3, r3, ?_⟩
    have h2 := okT_trans h2 (.sub s3)
    cases e3 : f3 e2 with
    | no => rw [e3] at h2; exact h2
    | ex c ns ds e => rw [e3] at h2; exact h2
    | ok z e4 =>
      rw [e3] at h2
      intro u H4 F4 r4 s4
      have rr := r4.rep
      cases rr with
      | have_ hu _ =>
        cases z <;> simp only [R.bind] at h2 <;> try exact h2.elim
        cases hu
        exact ⟨j, _, rfl, rfl, Rel.sc1 r4 (.bl _) fun u H' F' r s => h2 u H' F' r (s4.trans s)⟩
  · rw [if_neg hp]
    have h2 : okT X.K C (WE W) M0 σ F2 H2 Q (if q1 i j = true then (f3 e2).bind fun z e3 => (match z with | .int k => .ok (.bl (q2 j k)) e3 | _ => .no) else .ok (.bl false) e2) := h2
    rw [if_neg hp] at h2
    exact h2 (.bl false) H2 F3 (Rel.data r3 (.bl _)) (.sub s3)
theorem q_chain {op op' : CmpOp} {q1 q2 : Int → Int → Bool} (ho : OpR X (compareOp op) (rI0 fun i j => .bl (q1 i j))) (ho' : OpR X (compareOp op') (rI0 fun i j => .bl (q2 i j))) (ha : PE X a (T_ X C W f)) (hb : PE X b (T_ X C W f2)) (hc : PE X c (T_ X C W f3))
    (hm : lastMarks [op, op'] [b, c] = false := by with_unfolding_all rfl) : PE X (.Compare a [op, op'] [b, c] pos) (T_ X C W (chainF q1 q2 f f2 f3)) := (pe_chain ho ho' ha hb hc hm).imp fun _ _ _ q => i_chain q
theorem t_chain {op op' : CmpOp} {q1 q2 : Int → Int → Bool} (ho : OpR X (compareOp op) (rI0 fun i j => .bl (q1 i j))) (ho' : OpR X (compareOp op') (rI0 fun i j => .bl (q2 i j))) (ha : PE X a (T_ X C W f)) (hb : PE X b (T_ X C W f2)) (hc : PE X c (T_ X C W f3))
    (hm : lastMarks [op, op'] [b, c] = false := by with_unfolding_all rfl) : PT X (.Compare a [op, op'] [b, c] pos) (TT_ X C W (asB (chainF q1 q2 f f2 f3))) := (pt_chain ho ho' ha hb hc hm).imp fun σ H Q q => by
  have h1 := i_asB q
  exact i_chain h1
/-! tests -/
theorem t_val (h : PE X a (T_ X C W f)) (he : ∀ whole, isTrue a X.env whole = (do let v ← whole; standAt a.pos; holding [v] (truthy v)) := by intro _; rfl) : PT X a (TT_ X C W (asB f)) := (pt_val h he).imp fun _ _ _ q => i_asB2 q
theorem t_not (h : PT X a (TT_ X C W c1)) : PT X (.UnaryOp .Not a pos) (TT_ X C W (notB c1)) := (pt_not h).imp fun _ _ _ q => i_notB q
theorem w_and1 (h : PT X a (TT_ X C W c1)) : PW X (.BoolOp .And [a] pos) (TT_ X C W c1) := pw_and1 h
theorem w_or1 (h : PT X a (TT_ X C W c1)) : PW X (.BoolOp .Or [a] pos) (TT_ X C W c1) := pw_or1 h
theorem _root_.L2.PW.imp {t t' : TT} (h : PW X e t) (i : ∀ σ H Q, t' σ H Q → t σ H Q) : PW X e t' := ⟨fun wh pins s σ H Q I q => h.run wh pins s σ H Q I (i σ H Q q)⟩
theorem w_and {rest : List Expr} (h : PT X a (TT_ X C W c1)) (hb : PW X (.BoolOp .And (b :: rest) pos) (TT_ X C W c2)) : PW X (.BoolOp .And (a :: b :: rest) pos) (TT_ X C W (andB c1 c2)) := (pw_and h hb).imp fun _ _ _ q => i_andB q
theorem w_or {rest : List Expr} (h : PT X a (TT_ X C W c1)) (hb : PW X (.BoolOp .Or (b :: rest) pos) (TT_ X C W c2)) : PW X (.BoolOp .Or (a :: b :: rest) pos) (TT_ X C W (orB c1 c2)) := (pw_or h hb).imp fun _ _ _ q => i_orB q
/-! bools as values -/
theorem v_ofB (h : PE X a (T_ X C W f)) : PE X a (T_ X C W (ofB (asB f))) := h.imp fun _ _ _ q => i_ofB q
theorem v_one {op} (h : PE X a (T_ X C W (ofB c1))) : PE X (.BoolOp op [a] pos) (T_ X C W (ofB c1)) := pe_one h
theorem v_and {rest : List Expr} (h : PE X a (T_ X C W (ofB c1))) (hb : PE X (.BoolOp .And (b :: rest) pos) (T_ X C W (ofB c2))) : PE X (.BoolOp .And (a :: b :: rest) pos) (T_ X C W (ofB (andB c1 c2))) := (pe_and h hb).imp fun _ _ _ q => i_andV q
theorem v_or {rest : List Expr} (h : PE X a (T_ X C W (ofB c1))) (hb : PE X (.BoolOp .Or (b :: rest) pos) (T_ X C W (ofB c2))) : PE X (.BoolOp .Or (a :: b :: rest) pos) (T_ X C W (ofB (orB c1 c2))) := (pe_or h hb).imp fun _ _ _ q => i_orV q
theorem v_not (h : PE X a (T_ X C W (ofB c1))) : PE X (.UnaryOp .Not a pos) (T_ X C W (ofB (notB c1))) := (pe_not h).imp fun _ _ _ q => i_notV q
theorem q_if (hc : PT X c (TT_ X C W c1)) (ha : PE X a (T_ X C W f)) (hb : PE X b (T_ X C W f2)) : PE X (.IfExp c a b pos) (T_ X C W (ifE c1 f f2)) := (pe_ifExp hc ha hb).imp fun _ _ _ q => i_ifE q
/-! containers -/
theorem q_ix (ha : PE X a (T_ X C W f)) (hb : PE X b (T_ X C W f2)) (hs : PlainIx b) : PE X (.Subscript a b pos) (T_ X C W (lift2 ixF f f2)) := (pe_ix x_ix ha hb hs).imp fun _ _ _ q => i_op2 p_ix q
theorem o_none : PO X none (oOf X.K C (WE W) (okC .non)) := ⟨fun pins s σ H Q I q => po_none.run pins s σ H Q I (i_oN q)⟩
theorem o_some (h : PE X a (T_ X C W f)) : PO X (some a) (oOf X.K C (WE W) (asI f)) := ⟨fun pins s σ H Q I q => (po_some h).run pins s σ H Q I (i_oP q)⟩
theorem q_slice {lo hi : Option Expr} (he : PE X e (T_ X C W f)) (hl : PO X lo (oOf X.K C (WE W) f2)) (hu : PO X hi (oOf X.K C (WE W) f3)) : PE X (.Subscript e (.Slice lo hi none p2) pos) (T_ X C W (slF f f2 f3)) := (pe_slice sl_any he hl hu).imp fun _ _ _ q => i_sl q
theorem a_nil : PA X [] (A_ X C W args0 []) := pa_nil.imp fun _ _ _ q => i_args0 q
theorem z_av (h : PA X es (tCons (T_ X C W f) (A_ X C W af lk))) : PA X es (A_ X C W (argV f af) (lkV lk)) := h.imp fun _ _ _ q => i_argV q
theorem z_ar (h : PA X es (tCons (tVar i) (A_ X C W af lk))) : PA X es (A_ X C W (argR i af) ((0, i) :: lkV lk)) := h.imp fun _ _ _ q => i_argR q
theorem k_nil : PK X [] (A_ X C W args0 []) := pk_nil.imp fun _ _ _ q => i_args0 q
theorem z_kv {kws : List Keyword} (h : PK X kws (tCons (T_ X C W f) (A_ X C W af []))) : PK X kws (A_ X C W (argV f af) []) := h.imp fun _ _ _ q => i_argV q
/-- how many arguments there are -/
def AL (af : J.Env → R (List D)) (n : Nat) : Prop := ∀ env ds e, af env = .ok ds e → ds.length = n
theorem AL.nil : AL args0 0 := fun env ds e h => by
  unfold args0 at h
  obtain ⟨rfl, _⟩ : [] = ds ∧ env = e := by injection h with a b; exact ⟨a, b⟩
  rfl
theorem AL.val {n : Nat} (h : AL af n) : AL (argV f af) (n + 1) := fun env ds e q => by
  unfold argV at q
  cases ef : f env with
  | no => rw [ef] at q; cases q
  | ex _ _ _ _ => rw [ef] at q; cases q
  | ok d e1 =>
    rw [ef] at q
    simp only [R.bind] at q
    cases eg : af e1 with
    | no => rw [eg] at q; cases q
    | ex _ _ _ _ => rw [eg] at q; cases q
    | ok es e2 =>
      rw [eg] at q
      simp only [R.ok.injEq] at q
      rw [← q.1, List.length_cons, h _ _ _ eg]
theorem AL.ref {n i : Nat} (h : AL af n) : AL (argR i af) (n + 1) := fun env ds e q => by
  unfold argR at q
  split at q
  · rename_i d ed
    cases eg : af (env.set i none) with
    | no => rw [eg] at q; cases q
    | ex _ _ _ _ => rw [eg] at q; cases q
    | ok es e2 =>
      rw [eg] at q
      simp only [R.bind, R.ok.injEq] at q
      rw [← q.1, List.length_cons, h _ _ _ eg]
  · cases q
theorem z_lst (h : PE X e (tLst (A_ X C W af []))) : PE X e (T_ X C W (lstF af)) := h.imp fun _ _ _ q => i_lst q
theorem z_tup (h : PE X e (tTup (A_ X C W af []))) : PE X e (T_ X C W (tupF af)) := h.imp fun _ _ _ q => i_tup q
theorem z_call {n : Nat} {run : List D → R D} (P : Pure n run) (hn : AL af n) (h : PE X e (tCallSD (spP X.K C n run) [] (WE W) (A_ X C W af lk))) : PE X e (T_ X C W (callF run lk af)) := h.imp fun _ _ _ q => i_call P hn q
theorem z_meth {n cn : Nat} {run : List D → R D} (P : Pure (n + 1) run) (hn : AL af n) (h : PE X e (tMethU (C cn) m (spP X.K C (n + 1) run) [] (WE W) (T_ X C W f) (A_ X C W af lk))) : PE X e (T_ X C W (methF cn m run f af lk)) := h.imp fun _ _ _ q => i_meth P hn q
theorem z_meth0 {cn : Nat} {run : List D → R D} (P : Pure 1 run) (h : PE X e (tMethU (C cn) m (spP X.K C 1 run) [] (WE W) (T_ X C W f) tNil)) : PE X e (T_ X C W (methF cn m run f args0 [])) := by
  refine h.imp fun σ H Q q => ?_
  have h1 := i_meth (n := 0) P AL.nil q
  obtain ⟨M0, env, F, r, h2⟩ := h1
  refine ⟨M0, env, F, r, ?_⟩
  cases ef : f env with
  | no => rw [ef] at h2; exact h2
  | ex c ns ds e => rw [ef] at h2; exact h2
  | ok d e1 =>
    rw [ef] at h2
    intro v H1 F1 r1 s1
    obtain ⟨a, dx, fs, ex, ea, el, hq⟩ := h2 v H1 F1 r1 s1
    exact ⟨a, dx, fs, ex, ea, el, i_args0 hq⟩
theorem z_callK {n mm : Nat} {run : List D → R D} {gV : List V → List V → List V} (P : Pure n run) (hm : AL af mm) (hn : AL af2 (n - mm)) (hmn : mm ≤ n) (hgV : ∀ vs zs : List V, vs.length = mm → gV vs zs = vs ++ zs) (h : PE X e (tCallKU (spP X.K C n run) gV (WE W) (A_ X C W af lk) (A_ X C W af2 []))) : PE X e (T_ X C W (callF run lk (argApp af af2))) :=
  h.imp fun _ _ _ q => i_callK P hm (fun env ds e h => by have := hn env ds e h; omega) hgV q
theorem z_make {n cn : Nat} {run : List D → R D} (P : Pure (n + 1) run) (hn : AL af n) (h : PE X e (tMakeU (C cn) (spP X.K C (n + 1) run) [] (WE W) (A_ X C W af lk))) : PE X e (T_ X C W (makeF cn run lk af)) := h.imp fun _ _ _ q => i_make P hn q
theorem z_cb1 {r : List V → Hp → VK → Prop} {gd : D → Option D} (ho : Op1 X.K C (fun v H Q => r [v] H Q) gd) (h : PE X e (tCB r (tCons (T_ X C W f) tNil))) : PE X e (T_ X C W (lift1 gd f)) := h.imp fun _ _ _ q => i_cb1 ho q
theorem z_cb2 {r : List V → Hp → VK → Prop} {gd : D → D → Option D} (ho : Op2 X.K C (fun v w H Q => r [v, w] H Q) gd) (h : PE X e (tCB r (tCons (T_ X C W f) (tCons (T_ X C W f2) tNil)))) : PE X e (T_ X C W (lift2 gd f f2)) := h.imp fun _ _ _ q => i_cb2 ho q
theorem z_len (h : PE X e (tCB (fun xs H Q => ∃ x n, xs = [x] ∧ LenV X.K x H n ∧ Q (.int n) H) (tCons (T_ X C W f) tNil))) : PE X e (T_ X C W (lift1 lenD f)) := h.imp fun _ _ _ q => i_cb1 (op1_rd fun M H v d x F Q hv e q => b_len M H v d x F Q hv e q) q
theorem zb_len (h : PE X e (tCB (fun xs H Q => ∃ x n, xs = [x] ∧ LenV X.K x H n ∧ Q (.int n) H) (tCons (bOf X.K C g) tNil))) : PE X e (bOf X.K C (bop1 lenD g)) := h.imp fun _ _ _ q => i_cb1b (fun M H v d x F Q hv e q => b_len M H v d x F Q hv e q) q
theorem z_isi {cn : String} (hc : knownC cn = true) (h : PE X e (tCB (rIsi X.K) (tCons (T_ X C W f) (tCons (tC (.ty cn)) tNil)))) : PE X e (T_ X C W (lift1 (isiD cn) f)) := h.imp fun _ _ _ q => i_isi hc q
/-! iterables -/
theorem y_list {tg : Expr} (h : PE X e (T_ X C W f)) : PI X tg e (iOf X.K C (WE W) (lstI f)) := ⟨fun pins s σ H R I q => (pi_list h).run pins s σ H R I (i_lstI q)⟩
theorem y_tup {tg : Expr} (h : PE X e (T_ X C W f)) : PI X tg e (iOf X.K C (WE W) (tupI f)) := ⟨fun pins s σ H R I q => (pi_tup h).run pins s σ H R I (i_tupI q)⟩
theorem z_enum {tg : Expr} (h : PI X tg e (iEnum X.K (A_ X C W af []))) : PI X tg e (iOf X.K C (WE W) (enumI 0 af)) := ⟨fun pins s σ H R I q => h.run pins s σ H R I (i_enumI q)⟩
theorem z_rng1 {tg : Expr} (h : PI X tg e (iRng1 (A_ X C W af []))) : PI X tg e (iOf X.K C (WE W) (rng1I af)) := ⟨fun pins s σ H R I q => h.run pins s σ H R I (i_rng1I q)⟩
theorem z_rng2 {tg : Expr} (h : PI X tg e (iRng2 (A_ X C W af []))) : PI X tg e (iOf X.K C (WE W) (rng2I af)) := ⟨fun pins s σ H R I q => h.run pins s σ H R I (i_rng2I q)⟩
/-! targets -/
theorem g_name (hk : i ∉ kp) (h : PG X a (gName i)) : PG X a (gOf X.K C kp (setG i)) := h.imp fun _ _ _ _ q => i_setG hk q
theorem _root_.L2.PGs.imp {es : List Expr} {t t' : TGs} (h : PGs X es t) (i : ∀ v σ H Q, t' v σ H Q → t v σ H Q) : PGs X es t' := by
  obtain ⟨h⟩ := h
  constructor
  intros
  exact h _ _ _ _ _ _ _ (by assumption) (by assumption) (by apply i; assumption)
theorem gs_nil : PGs X [] (gsOf X.K C kp nilG) := pgs_nil.imp fun _ _ _ _ q => i_nilG q
theorem z_gcons {gg : D → J.Env → Option J.Env} {kk : List D → J.Env → Option J.Env} (h : PGs X es (gCons (gOf X.K C kp gg) (gsOf X.K C kp kk))) : PGs X es (gsOf X.K C kp (consG gg kk)) := h.imp fun _ _ _ _ q => i_consG q
theorem z_gtup {n : Nat} {kk : List D → J.Env → Option J.Env} (h : PG X a (gTup X.K n (gsOf X.K C kp kk))) : PG X a (gOf X.K C kp (tupG n kk)) := h.imp fun _ _ _ _ q => i_tupG q
theorem z_put1 {fk : J.Env → Option D} (h : PG X a (gSub (tVar i) (bOf X.K C fk) rSetL)) : PG X a (gOf X.K C kp (put1G i fk)) := h.imp fun _ _ _ _ q => i_put1 q
theorem z_put2 {fa fb : J.Env → Option D} (h : PG X a (gSub (tOp (rIx X.K) (tVar i) (bOf X.K C fa)) (bOf X.K C fb) rSetL)) : PG X a (gOf X.K C kp (put2G i fa fb)) := h.imp fun _ _ _ _ q => i_put2 q
/-- targets leave as many slots as there are -/
def GL (g : D → J.Env → Option J.Env) : Prop := ∀ d e e1, g d e = some e1 → e1.length = e.length
def GLs (g : List D → J.Env → Option J.Env) : Prop := ∀ d e e1, g d e = some e1 → e1.length = e.length
theorem GL.set : GL (setG i) := fun d e e1 h => by
  unfold setG at h
  split at h
  · obtain rfl := Option.some.inj h; simp
  · cases h
theorem GLs.nil : GLs nilG := fun ds e e1 h => by
  unfold nilG at h
  split at h
  · obtain rfl := Option.some.inj h; rfl
  · cases h
theorem GLs.cons {gg : D → J.Env → Option J.Env} {kk : List D → J.Env → Option J.Env} (h1 : GL gg) (h2 : GLs kk) : GLs (consG gg kk) := fun ds e e1 h => by
  cases ds with
  | nil => cases h
  | cons d ds =>
    cases e2 : gg d e with
    | none => simp only [consG, e2, Option.bind_none] at h; cases h
    | some e3 =>
      simp only [consG, e2, Option.bind_some] at h
      rw [h2 _ _ _ h, h1 _ _ _ e2]
theorem GL.tup {n : Nat} {kk : List D → J.Env → Option J.Env} (h2 : GLs kk) : GL (tupG n kk) := fun d e e1 h => by
  unfold tupG at h
  split at h
  · split at h
    · exact h2 _ _ _ h
    · cases h
  · cases h
/-! list comprehensions -/
theorem z_lc (nl : Nat) (hnl : X.N.length = nl) {it : J.Env → R (List D)} {gg : D → J.Env → Option J.Env} {cc : J.Env → R Bool} {ff : J.Env → R D} {vs : List Nat} (hn : ∀ j, j < nl → j ∉ vs → j ∈ kp) (hg : GL gg)
    (h : PE X e (tLc (iOf X.K C (WE W) it) (gOf X.K C kp gg) (ttOf X.K C W0 cc) (tOf X.K C W0 ff) vs)) : PE X e (T_ X C W (compO it gg cc ff vs)) :=
  ⟨fun pins s σ H Q I q => h.run pins s σ H Q I (i_comp (n := nl) hn (I.len.trans hnl) hg q)⟩
/-! statements -/
theorem st_nil : PSs X [] (S_ X C W kp nilO) := pss_nil.imp fun _ _ _ q => i_nil q
theorem st_seq {st : Stmt} {rest : List Stmt} (h : PS X st (S_ X C W kp s1)) (hr : PSs X rest (S_ X C W kp s2)) : PSs X (st :: rest) (S_ X C W kp (seqO s1 s2)) := (pss_cons h hr).imp fun _ _ _ q => i_seq q
theorem st_one {st : Stmt} (h : PS X st (S_ X C W kp s1)) : PSs X [st] (S_ X C W kp s1) := pss_one h
theorem s_ret (h : PE X e (T_ X C W f)) : PS X (.Return (some e) pos) (S_ X C W kp (retO f)) := (ps_ret h).imp fun _ _ _ q => i_ret q
def retN : J.Env → Out := fun env => .rt .non env
theorem s_if {ss tt : List Stmt} (hc : PT X c (TT_ X C W c1)) (h1 : PSs X ss (S_ X C W kp s1)) (h2 : PSs X tt (S_ X C W kp s2)) : PS X (.If c ss tt pos) (S_ X C W kp (ifO c1 s1 s2)) := (ps_if hc h1 h2).imp fun _ _ _ q => i_if q
theorem z_drop {st : Stmt} (h : PS X st (tDrop (T_ X C W f))) : PS X st (S_ X C W kp (dropO f)) := h.imp fun _ _ _ q => i_drop q
theorem z_asg {st : Stmt} {gg : D → J.Env → Option J.Env} (h : PS X st (tAsg (T_ X C W f) (gOf X.K C kp gg))) : PS X st (S_ X C W kp (asgO f gg)) := h.imp fun _ _ _ q => i_asg q
theorem z_set {st : Stmt} (hk : i ∉ kp) (h : PS X st (tAsg (T_ X C W f) (gName i))) : PS X st (S_ X C W kp (asgO f (setG i))) := h.imp fun D σ H q => by
  obtain ⟨M0, env, F, r, h⟩ := i_asg q
  refine ⟨M0, env, F, r, ?_⟩
  cases ef : f env with
  | no => rw [ef] at h; exact h
  | ex c ns ds e => rw [ef] at h; exact h
  | ok d e => rw [ef] at h; exact fun v H' F' r' s' => i_setG hk (h v H' F' r' s')
theorem z_for {st : Stmt} {it : J.Env → R (List D)} {gg : D → J.Env → Option J.Env} (h : PS X st (tFor (iOf X.K C (WE W) it) (gOf X.K C kp gg) (S_ X C W kp s1))) : PS X st (S_ X C W kp (forO it gg s1)) := h.imp fun _ _ _ q => i_for q
theorem z_while {st : Stmt} {n : Nat} (h : PS X st (tWhile (TT_ X C W c1) (S_ X C W kp s1))) : PS X st (S_ X C W kp (whileL c1 s1 n)) := h.imp fun _ _ _ q => i_while q
theorem z_app {st : Stmt} (h : PS X st (tDrop (tBM X.K "list" rAppend (tVar i) (tCons (T_ X C W f) tNil)))) : PS X st (S_ X C W kp (appO i f)) := h.imp fun _ _ _ q => i_app q
theorem z_fld {st : Stmt} {cn : Nat} {fn : Str} (cl : Cls X.K (C cn)) (na : NoAttr X.K (C cn) fn) (h : PS X st (sFld X.K (tVar i) (T_ X C W f) fn)) : PS X st (S_ X C W kp (fldO cn i fn f)) := h.imp fun _ _ _ q => i_fld cl na q
def noO : J.Env → Out := fun _ => .no
theorem s_never {st : Stmt} (h : PS X st tNever) : PS X st (S_ X C W kp noO) := h.imp fun _ _ _ q => by
  obtain ⟨M0, env, F, r, h⟩ := q
  exact h.elim
end
end J
/-! More terms: a op= e, a, b = x, y, x = [..], truth, three fors. -/
namespace J
open PySem L2 PySem.Spec PyProof.Rows
section
variable {K : PySem.W.Frag} {C : CT} {W : Wish} {kp : List Nat} {M0 : Addr → Prop} {H H' H2 : Hp} {σ σ' : L2.St} {env env' : J.Env} {F F' F1 F2 G G' : List Addr} {v w : V} {d e : D}
/-- i op= f, ints -/
def augO (i : Nat) (op : Int → Int → Int) (f : J.Env → R D) : J.Env → Out := fun env => match env[i]? with
  | some (some (.int a)) => (match f env with
    | .ok (.int b) e => .nx (e.set i (some (.int (op a b))))
    | .ex c ns vs e => .ex c ns vs e
    | _ => .no)
  | _ => .no
/-- i, j = .. -/
def parO (i j : Nat) (af : J.Env → R (List D)) : J.Env → Out := fun env => match af env with
  | .ok [a, b] e => if i < e.length ∧ j < e.length then .nx ((e.set i (some a)).set j (some b)) else .no
  | .ex c ns vs e => .ex c ns vs e
  | _ => .no
theorem i_par {i j : Nat} {af : J.Env → R (List D)} {E : Ends} (hi : i ∉ kp) (hj : j ∉ kp) (h : tS K C W kp (parO i j af) E σ H) : tPar i j (aOf K C W af []) E σ H := by
  obtain ⟨M0, env, F, r, h⟩ := h
  refine ⟨M0, env, F, r, ?_⟩
  unfold parO at h
  split at h
  · rename_i a b e ea
    rw [ea]
    split at h
    case isFalse => exact h.elim
    rename_i hl
    intro vs H1 F1 r1 s1 l1 k1
    obtain ⟨v, w, rfl⟩ : ∃ v w, vs = [v, w] := by
      match vs, l1 with | [v, w], _ => exact ⟨v, w, rfl⟩
    refine ⟨v, w, rfl, ?_⟩
    have r1 : Rel K C M0 H1 (some v :: some w :: σ) (some a :: some b :: e) F1 := r1
    obtain ⟨F2, r2, s2⟩ := r1.store (i := i + 1) (by simp; omega)
    have r2 : Rel K C M0 H1 (some w :: σ.set i (some v)) (some b :: e.set i (some a)) F2 := by simpa using r2
    obtain ⟨F3, r3, s3⟩ := r2.store (i := j) (by simp; omega)
    refine h _ H1 F3 r3 (s1.trans (.sub fun b hb => s2 b (s3 b hb))) fun m hm => ?_
    rw [List.getElem?_set_ne (by rintro rfl; exact hj hm), List.getElem?_set_ne (by rintro rfl; exact hi hm)]
  · rename_i ea; rw [ea]; exact exS h
  · exact h.elim
/-- truth -/
def truD (d : D) : Option Bool := match d with
  | .non => some false | .bl b => some b | .int i => some (i != 0)
  | .str y => if y.length ≤ 1000000 then some ((y.length : Int) != 0) else none
  | .lst _ xs => some (!xs.isEmpty)
  | .tup xs => some (!xs.isEmpty)
  | .scr xs => some (!xs.isEmpty)
  | _ => none
def truB (f : J.Env → R D) : J.Env → R Bool := fun env => match f env with
  | .ok d e => (match truD d with | some b => .ok b e | none => .no)
  | .ex c ns vs e => .ex c ns vs e
  | .no => .no
end
section
variable {X : Cx} {C : CT} {W : WX} {kp : List Nat} {pos p p' p2 apos : Pos} {a b c e o : Expr} {es : List Expr} {x m : Str} {i j : Nat}
variable {f f2 f3 : J.Env → R D} {g g2 : J.Env → Option D} {c1 c2 : J.Env → R Bool} {s1 s2 : J.Env → Out} {af af2 : J.Env → R (List D)} {lk : List (Nat × Nat)}
theorem z_par {st : Stmt} (hi : i ∉ kp) (hj : j ∉ kp) (h : PS X st (tPar i j (A_ X C W af []))) : PS X st (S_ X C W kp (parO i j af)) := h.imp fun _ _ _ q => i_par hi hj q
theorem z_setLc (nl : Nat) (hnl : X.N.length = nl) {st : Stmt} {it : J.Env → R (List D)} {gg : D → J.Env → Option J.Env} {cc : J.Env → R Bool} {ff : J.Env → R D} {vs : List Nat} {kp' : List Nat} (hk : i ∉ kp) (hn : ∀ j, j < nl → j ∉ vs → j ∈ kp') (hg : GL gg)
    (h : PS X st (tAsg (tLc (iOf X.K C (WE W) it) (gOf X.K C kp' gg) (ttOf X.K C W0 cc) (tOf X.K C W0 ff) vs) (gName i))) : PS X st (S_ X C W kp (asgO (compO it gg cc ff vs) (setG i))) := by
  refine ⟨fun pins s σ H D I q => h.run pins s σ H D I ?_⟩
  refine i_comp (n := nl) hn (I.len.trans hnl) hg ?_
  obtain ⟨M0, env, F, r, h⟩ := i_asg q
  refine ⟨M0, env, F, r, ?_⟩
  cases ef : compO it gg cc ff vs env with
  | no => rw [ef] at h; exact h
  | ex c ns ds e => rw [ef] at h; exact h
  | ok d e => rw [ef] at h; exact fun v H' F' r' s' => i_setG hk (h v H' F' r' s')
theorem z_pt0 : PTs X [] (ttOf X.K C W0 yesB) := ⟨fun pins s σ H Q I q => pts_nil.run pins s σ H Q I (i_yes q)⟩
end
/-! keywords: n positional arguments, then the keywords' -/
def gapp {α : Type} (n : Nat) (us ws : List α) : List α := if us.length = n then us ++ ws else []
theorem gapp_V {n : Nat} : ∀ vs zs : List V, vs.length = n → gapp n vs zs = vs ++ zs := fun vs zs h => by unfold gapp; rw [if_pos h]
theorem gapp_rel {n : Nat} {vs : List V} {us : List Value} {zs : List V} {ws : List Value} (h : Vals vs us) (k : Vals zs ws) : Vals (gapp n vs zs) (gapp n us ws) := by
  unfold gapp
  rw [h.length]
  split
  · exact h.append k
  · exact .nil
theorem kbp12 {K : PySem.W.Frag} {x qual : Str} {st : Stmt} {f : Addr} {fd : FuncData} {ps ks : List Str} (F : Fun K x qual st f fd) (h3 : ps.length = 3)
    (h : ∀ (kV doc pm : Value) (an : Option Addr) (cdv ct a b c : Value), bindArgs (PySem.W.fnOf x qual (defArgs st) (defBody st) (defScope st) .none kV doc pm an cdv ct) ⟨[a], ks.zip [b, c]⟩ = pure (ps.zip [a, b, c])) : KBinds K fd ps ks (gapp 1) (gapp 1) := by
  obtain ⟨oc, od, kV, doc, pm, an, cdv, ct, osl, rfl, lk, hcd⟩ := F.ex
  refine ⟨fun s us ws _ hl => ?_, gapp_rel⟩
  rcases us with _ | ⟨a, _ | ⟨a2, us⟩⟩ <;> rcases ws with _ | ⟨b, _ | ⟨c, _ | ⟨d, ws⟩⟩⟩ <;> first | exact .of_eq (h ..) | (simp [gapp, h3] at hl)
theorem kbp33 {K : PySem.W.Frag} {x qual : Str} {st : Stmt} {f : Addr} {fd : FuncData} {ps ks : List Str} (F : Fun K x qual st f fd) (h6 : ps.length = 6)
    (h : ∀ (kV doc pm : Value) (an : Option Addr) (cdv ct a b c d e g : Value), bindArgs (PySem.W.fnOf x qual (defArgs st) (defBody st) (defScope st) .none kV doc pm an cdv ct) ⟨[a, b, c], ks.zip [d, e, g]⟩ = pure (ps.zip [a, b, c, d, e, g])) : KBinds K fd ps ks (gapp 3) (gapp 3) := by
  obtain ⟨oc, od, kV, doc, pm, an, cdv, ct, osl, rfl, lk, hcd⟩ := F.ex
  refine ⟨fun s us ws _ hl => ?_, gapp_rel⟩
  rcases us with _ | ⟨a, _ | ⟨a2, _ | ⟨a3, _ | ⟨a4, us⟩⟩⟩⟩ <;> rcases ws with _ | ⟨b, _ | ⟨c, _ | ⟨d, _ | ⟨e, ws⟩⟩⟩⟩ <;> first | exact .of_eq (h ..) | (simp [gapp, h6] at hl)
/-! enumerate with a start -/
section
variable {K : PySem.W.Frag} {C : CT} {W : Wish}
theorem i_enumSI {f g : J.Env → R (List D)} {σ : L2.St} {H : Hp} {Q : It → Hp → Prop} (h : iOf K C W (enumSI f g) σ H Q) : iEnumS K (aOf K C W f []) (aOf K C W g []) σ H Q := by
  obtain ⟨M0, env, F, r, h⟩ := h
  refine ⟨M0, env, F, r, ?_⟩
  cases ef : f env with
  | no => simp only [enumSI, ef] at h; exact h
  | ex c ns ds e => simp only [enumSI, ef] at h; exact h
  | ok ds e =>
    unfold enumSI at h
    rw [ef] at h
    split at h
    · rename_i o xs e' heq
      obtain ⟨rfl, rfl⟩ : ds = [.lst o xs] ∧ e = e' := by injection heq with a b; exact ⟨a, b⟩
      intro vs0 H1 F1 r1 s1 l1 k1
      obtain ⟨v, rfl⟩ : ∃ v, vs0 = [v] := List.length_eq_one_iff.mp l1
      obtain ⟨F2, r2, s2⟩ := Rel.fz (d := .lst o xs) r1
      obtain ⟨F3, r3, s3, hv⟩ := r2.dataTop
      have s03 := s1.trans (.sub fun b hb => s2.subset (s3.subset hb))
      refine ⟨M0, e, F3, r3, ?_⟩
      split at h
      case h_2 => exact h.elim
      rename_i k e2 eg
      split at h
      case isFalse => exact h.elim
      rename_i hk
      rw [eg]
      intro zs H2 F4 r4 s4 l4 k4
      obtain ⟨z, rfl⟩ : ∃ z, zs = [z] := List.length_eq_one_iff.mp l4
      have r4 : Rel K C M0 H2 (some z :: σ) (some (.int k) :: e2) F4 := r4
      obtain ⟨F5, r5, s5⟩ := r4.drop
      have rr := r4.rep
      have hv' : Rep K C (orF M0 F3) H1 v (.lst false (D.fzL xs)) [] := hv
      have hv2 := (Rep.data hv' r3 s4).data r4 (Stp.subl s5)
      cases rr with
      | have_ hz _ =>
        cases hz
        cases hv2 with
        | lst hs hF t =>
          rename_i a vs
          have hs : SqL K (_root_.J.hide (orF M0 F5) H2) a vs := .of hs
          refine ⟨a, vs, k, rfl, rfl, hk, sqL_le hs, h _ H2 F5 r5 (s03.trans (s4.trans (.subl s5))) (enum_walks (J := Itn K k a) r5 hs t (fun i H z => z) ?_ fun i H v H' y _ => ?_)⟩
          · exact fun i H z => z
          · exact y
    · rename_i heq; cases heq
    · exact h.elim
end
section
variable {X : Cx} {C : CT} {W : WX} {e : Expr} {af af2 : J.Env → R (List D)}
theorem z_enumS {tg : Expr} (h : PI X tg e (iEnumS X.K (A_ X C W af []) (A_ X C W af2 []))) : PI X tg e (iOf X.K C (WE W) (enumSI af af2)) := ⟨fun pins s σ H R I q => h.run pins s σ H R I (i_enumSI q)⟩
end
end J
/-! List comprehensions with two and three fors; defs that call themselves. -/
namespace J
open PySem L2 PySem.Spec PyProof.Rows
section
variable {K : PySem.W.Frag} {C : CT} {W : Wish} {kp : List Nat} {M0 : Addr → Prop} {H H' H2 : Hp} {σ σ' : L2.St} {env env' : J.Env} {F F' F1 F2 G G' : List Addr} {v w : V} {d e : D}
abbrev KW := List D → J.Env → Option (List D × J.Env)
/-- what a clause keeps, by the word kw: the list at D grows -/
def KOk (K : PySem.W.Frag) (C : CT) (D : Addr) (n : Nat) (kept : (Hp → Prop) → L2.St → Hp → Prop) (kw : KW) : Prop := ∀ (M0 : Addr → Prop) (acc : List J.D) (env : J.Env) (F : List Addr) (σ : L2.St) (H : Hp) (N : Hp → Prop), σ.length = n →
  Rel K C M0 H (some (.ref D) :: σ) (some (.lst true acc) :: env) F → (∃ acc' e', kw acc env = some (acc', e') ∧ ∀ H' F', Rel K C M0 H' (some (.ref D) :: σ) (some (.lst true acc') :: e') F' → Stp F H F' H' → N H') → kept N σ H
def kLastW (f : J.Env → R J.D) : KW := fun acc env => match f env with
  | .ok x e => if acc.length < 1000000 then some (acc ++ [x], e) else none
  | _ => none
def loopW (g : J.D → J.Env → Option J.Env) (c : J.Env → R Bool) (kw : KW) (vs : List Nat) : List J.D → List J.D → J.Env → Option (List J.D × J.Env)
  | [], acc, e => some (acc, e)
  | d :: ds, acc, e => match g d e with
    | none => none
    | some e1 => match c e1 with
      | .ok true e2 => (match kw acc e2 with
        | some (acc2, e3) => loopW g c kw vs ds acc2 (wipeE e3 vs)
        | none => none)
      | .ok false e2 => loopW g c kw vs ds acc (wipeE e2 vs)
      | _ => none
def kNextW (it : J.Env → R (List J.D)) (g : J.D → J.Env → Option J.Env) (c : J.Env → R Bool) (kw : KW) (vs : List Nat) : KW := fun acc env => match it env with
  | .ok ds e => loopW g c kw vs ds acc (wipeE e vs)
  | _ => none
theorem kLast_ok {D : Addr} {n : Nat} {f : J.Env → R J.D} : KOk K C D n (kLast D (tOf K C W0 f)) (kLastW f) := by
  intro M0 acc env F σ H N hn r ⟨acc', e', ek, hN⟩
  unfold kLastW at ek
  obtain ⟨G1, G2, eG, hD, r2⟩ := r.pop
  refine ⟨orF M0 G1, env, G2, r2, ?_⟩
  cases ef : f env with
  | no => rw [ef] at ek; cases ek
  | ex c ns ds e => rw [ef] at ek; cases ek
  | ok x e =>
    rw [ef] at ek
    have ek : (if acc.length < 1000000 then some (acc ++ [x], e) else none) = some (acc', e') := ek
    split at ek
    case isFalse => cases ek
    rename_i hl
    obtain ⟨rfl, rfl⟩ : acc ++ [x] = acc' ∧ e = e' := by simpa using ek
    intro y H1 F1 r3 s3
    obtain ⟨r4, s4⟩ := Rel.back r G1 G2 eG hD r3 s3
    obtain ⟨ys, F5, hl5, ly, r5, s5⟩ := r4.append
    exact ⟨ys, hl5, Nat.lt_of_lt_of_le (by omega : ys.length < 1000000) (by rw [sizeLine_eq]; decide), hN _ F5 r5 (s4.trans s5)⟩
theorem loop_ok {D : Addr} {n : Nat} {Jt : It} {g : J.D → J.Env → Option J.Env} {c : J.Env → R Bool} {kept : (Hp → Prop) → L2.St → Hp → Prop} {kw : KW} {vs : List Nat} (hk : KOk K C D n kept kw) (hn : ∀ i, i < n → i ∉ vs → i ∈ kp) (hg : GL g) {ds : List J.D} {acc acc' : List J.D} {e e' : J.Env} {F0 : List Addr} {H0 : Hp} {Nx : Hp → Prop}
    (hσ : σ.length = n) (r : Rel K C M0 H (some (.ref D) :: σ) (some (.lst true acc) :: e) F) (wk : Walks K C Jt M0 F0 H0 ds) (s0 : Same (hide (orF M0 F0) H0) (hide (orF M0 F) H)) (el : loopW g c kw vs ds acc (wipeE e vs) = some (acc', e'))
    (hN : ∀ H' F', Rel K C M0 H' (some (.ref D) :: σ) (some (.lst true acc') :: e') F' → Stp F H F' H' → Nx H') : tIn Jt (gOf K C kp g) (ttOf K C W0 c) kept vs Nx σ H := by
  obtain ⟨G1, G2, eG, hD, r1⟩ := r.pop
  obtain ⟨X3, r9, s9⟩ := r1.wipe_ vs
  obtain ⟨rw_, sw⟩ := Rel.back r G1 G2 eG hD r9 (.subl s9)
  refine ⟨fun i m H' => m = ds.length - i ∧ i ≤ ds.length ∧ ∃ acc1 e1 FF, Rel K C M0 H' (some (.ref D) :: wipe σ vs) (some (.lst true acc1) :: e1) FF ∧ (∀ j ∈ vs, ∀ d, e1[j]? ≠ some (some d)) ∧ Stp F H FF H' ∧ loopW g c kw vs (ds.drop i) acc1 e1 = some (acc', e'),
    ⟨ds.length, by simp, Nat.zero_le _, acc, wipeE e vs, _, rw_, wipeE_at e vs, sw, el⟩, ?_⟩
  rintro i m H' ⟨rfl, hi, acc1, e1, FF, r', we, s', ho⟩
  obtain ⟨G1, G2, eG, hD, r4⟩ := r'.pop
  have hd : Same (hide (orF M0 F0) H0) (hide (orF (orF M0 G1) G2) H') := by
    rw [orF_app, ← eG]; exact s0.trans (Stp.hide s' r.dj)
  obtain ⟨wgo, wst, wy⟩ := wk i (orF M0 G1) (wipe σ vs) e1 G2 H' r4 hd
  rcases Nat.lt_or_ge i ds.length with lt | ge
  · refine .inr ⟨wgo lt, fun H2 => ∃ acc1 e1 FF, Rel K C M0 H2 (some (.ref D) :: wipe σ vs) (some (.lst true acc1) :: e1) FF ∧ (∀ j ∈ vs, ∀ d, e1[j]? ≠ some (some d)) ∧ Stp F H FF H2 ∧ loopW g c kw vs (ds.drop (i + 1)) acc1 e1 = some (acc', e'), fun H2 z => ⟨ds.length - (i + 1), by omega, rfl, lt, z⟩, fun x H2 y => ?_⟩
    obtain ⟨d, F2, ed, r5, s5⟩ := wy x H2 y lt
    have edr : ds.drop i = d :: ds.drop (i + 1) := by
      rw [List.drop_eq_getElem_cons lt]
      rw [List.getElem?_eq_getElem lt] at ed
      rw [Option.some.inj ed]
    rw [edr] at ho
    cases eg : g d e1 with
    | none => simp only [loopW, eg] at ho; cases ho
    | some e3 =>
      simp only [loopW, eg] at ho
      refine ⟨orF M0 G1, d, e1, F2, e3, r5, eg, fun σ3 H3 F3 r6 s6 k6 => ?_⟩
      have l3 : σ3.length = n := by rw [r6.rep.length, hg _ _ _ eg, ← r4.rep.length, wipe_length, hσ]
      have wσ : wipe σ3 vs = wipe σ vs := wipe_ext (by rw [l3, hσ]) vs fun j hj => by
        rcases Nat.lt_or_ge j n with q | q
        · rw [k6 j (hn j q hj), wipe_ne vs j hj]
        · rw [List.getElem?_eq_none (by omega), List.getElem?_eq_none (by omega)]
      refine ⟨wσ, orF M0 G1, e3, F3, r6, ?_⟩
      have s56 := s5.trans s6
      have fin : ∀ (acc2 : List J.D) (e4 : J.Env) (H4 : Hp) (FF4 : List Addr), Rel K C M0 H4 (some (.ref D) :: σ3) (some (.lst true acc2) :: e4) FF4 → Stp FF H' FF4 H4 → loopW g c kw vs (ds.drop (i + 1)) acc2 (wipeE e4 vs) = some (acc', e') →
          ∃ acc1 e1 FF, Rel K C M0 H4 (some (.ref D) :: wipe σ vs) (some (.lst true acc1) :: e1) FF ∧ (∀ j ∈ vs, ∀ d, e1[j]? ≠ some (some d)) ∧ Stp F H FF H4 ∧ loopW g c kw vs (ds.drop (i + 1)) acc1 e1 = some (acc', e') := by
        intro acc2 e4 H4 FF4 r7 s7 ho
        obtain ⟨X1, X2, eX, hX, r8⟩ := r7.pop
        obtain ⟨X3, r9, s9⟩ := r8.wipe_ vs
        rw [wσ] at r9
        obtain ⟨r10, s10⟩ := Rel.back r7 X1 X2 eX hX r9 (.subl s9)
        exact ⟨acc2, wipeE e4 vs, _, r10, wipeE_at e4 vs, s'.trans (s7.trans s10), ho⟩
      cases ec : c e3 with
      | no => simp only [ec] at ho; cases ho
      | ex c2 ns xs e4 => simp only [ec] at ho; cases ho
      | ok t e4 =>
        intro H5 F5 r7 s7
        obtain ⟨r8, s8⟩ := Rel.back r' G1 G2 eG hD r7 (s56.trans s7)
        cases t with
        | false =>
          simp only [ec] at ho
          rw [if_neg (by decide)]
          exact fin acc1 e4 H5 _ r8 s8 ho
        | true =>
          simp only [ec] at ho
          rw [if_pos rfl]
          cases ek : kw acc1 e4 with
          | none => simp only [ek] at ho; cases ho
          | some z =>
            obtain ⟨acc2, e5⟩ := z
            simp only [ek] at ho
            exact hk M0 acc1 e4 _ σ3 H5 _ l3 r8 ⟨acc2, e5, ek, fun H6 F6 r9 s9 => fin acc2 e5 H6 F6 r9 (s8.trans s9) ho⟩
  · obtain rfl : i = ds.length := Nat.le_antisymm hi ge
    rw [List.drop_length] at ho
    obtain ⟨rfl, rfl⟩ : acc1 = acc' ∧ e1 = e' := by simpa [loopW] using ho
    refine .inl ⟨wst rfl, hN H' FF (r'.reslot (by simp [wipe_length]) fun j d ej => ?_) s'⟩
    cases j with
    | zero => rfl
    | succ j =>
      simp only [List.getElem?_cons_succ] at ej ⊢
      exact (wipe_ne vs j fun z => we j z d ej).symm
theorem kNext_ok {D : Addr} {n : Nat} {it : J.Env → R (List J.D)} {g : J.D → J.Env → Option J.Env} {c : J.Env → R Bool} {kept : (Hp → Prop) → L2.St → Hp → Prop} {kw : KW} {vs : List Nat} (hk : KOk K C D n kept kw) (hn : ∀ i, i < n → i ∉ vs → i ∈ kp) (hg : GL g) :
    KOk K C D n (kNext (iOf K C W0 it) (gOf K C kp g) (ttOf K C W0 c) kept vs) (kNextW it g c kw vs) := by
  intro M0 acc env F σ H N hσ r ⟨acc', e', ek, hN⟩
  unfold kNextW at ek
  obtain ⟨G1, G2, eG, hD, r2⟩ := r.pop
  refine ⟨orF M0 G1, env, G2, r2, ?_⟩
  cases ef : it env with
  | no => rw [ef] at ek; cases ek
  | ex c ns ds e => rw [ef] at ek; cases ek
  | ok ds e =>
    rw [ef] at ek
    intro J H1 F1 r1 s1 wk
    obtain ⟨r3, s3⟩ := Rel.back r G1 G2 eG hD r1 s1
    -- the walk under what is owned by all
    have wk2 : Walks K C J M0 (G1 ++ F1) H1 ds := fun i M1 σ' env' F' H' r' hs => wk i M1 σ' env' F' H' r' (by rw [orF_app]; exact hs)
    exact loop_ok hk hn hg hσ r3 wk2 (.refl _) ek fun H' F' r' s' => hN H' F' r' (s3.trans s')
def compNO (it : J.Env → R (List J.D)) (g : J.D → J.Env → Option J.Env) (c : J.Env → R Bool) (kw : KW) (vs : List Nat) : J.Env → R J.D := fun env => match it env with
  | .ok ds e => (match loopW g c kw vs ds [] (wipeE e vs) with
    | some (acc, e') => .ok (.lst true acc) e'
    | none => .no)
  | .ex c ns vs e => .ex c ns vs e
  | .no => .no
theorem i_compN {it : J.Env → R (List J.D)} {g : J.D → J.Env → Option J.Env} {c : J.Env → R Bool} {kept : Addr → (Hp → Prop) → L2.St → Hp → Prop} {kw : KW} {vs : List Nat} {n : Nat} {Q : VK} (hk : ∀ D, KOk K C D n (kept D) kw) (hn : ∀ i, i < n → i ∉ vs → i ∈ kp) (hσ : σ.length = n) (hg : GL g) (h : tOf K C W (compNO it g c kw vs) σ H Q) :
    iOf K C W it σ H fun J H1 => ∀ D, H1 D = none → tIn J (gOf K C kp g) (ttOf K C W0 c) (kept D) vs (fun H2 => Q (.ref D) H2) σ (upd H1 D (.lst [])) := by
  obtain ⟨M0, env, F, r, h⟩ := h
  refine ⟨M0, env, F, r, ?_⟩
  cases ef : it env with
  | no => simp only [compNO, ef] at h; exact h
  | ex c ns ds e => simp only [compNO, ef] at h; exact h
  | ok ds e =>
    simp only [compNO, ef] at h
    intro J H1 F1 r1 s1 wk Dd nD
    cases el : loopW g c kw vs ds [] (wipeE e vs) with
    | none => rw [el] at h; exact h.elim
    | some z =>
      obtain ⟨acc', e'⟩ := z
      rw [el] at h
      obtain ⟨r2, s2⟩ := Rel.new (p := Dd) (o := .lst []) (x := .lst true []) r1 nD fun M' _ => .own (F := []) upd_same .nil
      exact loop_ok (hk Dd) hn hg hσ r2 wk (Stp.hide s2 r1.dj) el fun H' F' r' s' => h (.ref Dd) H' F' r' (s1.trans (s2.trans s'))
end
section
variable {X : Cx} {C : CT} {W : WX} {kp kp1 kp2 : List Nat} {e : Expr}
theorem z_lc3 (nl : Nat) (hnl : X.N.length = nl) {it it1 it2 : J.Env → R (List D)} {g g1 g2 : D → J.Env → Option J.Env} {c c1 c2 : J.Env → R Bool} {ff : J.Env → R D} {vs vs1 vs2 : List Nat} (hn : ∀ j, j < nl → j ∉ vs → j ∈ kp) (hn1 : ∀ j, j < nl → j ∉ vs1 → j ∈ kp1) (hn2 : ∀ j, j < nl → j ∉ vs2 → j ∈ kp2) (hg : GL g) (hg1 : GL g1) (hg2 : GL g2)
    (h : PE X e (tLc3 (iOf X.K C (WE W) it) (gOf X.K C kp g) (ttOf X.K C W0 c) (iOf X.K C W0 it1) (gOf X.K C kp1 g1) (ttOf X.K C W0 c1) (iOf X.K C W0 it2) (gOf X.K C kp2 g2) (ttOf X.K C W0 c2) (tOf X.K C W0 ff) vs vs1 vs2)) : PE X e (T_ X C W (compNO it g c (kNextW it1 g1 c1 (kNextW it2 g2 c2 (kLastW ff) vs2) vs1) vs)) :=
  ⟨fun pins s σ H Q I q => h.run pins s σ H Q I (i_compN (n := nl) (kept := fun D => kNext (iOf X.K C W0 it1) (gOf X.K C kp1 g1) (ttOf X.K C W0 c1) (kNext (iOf X.K C W0 it2) (gOf X.K C kp2 g2) (ttOf X.K C W0 c2) (kLast D (tOf X.K C W0 ff)) vs2) vs1) (fun D => kNext_ok (kNext_ok kLast_ok hn2 hg2) hn1 hg1) hn (I.len.trans hnl) hg q)⟩
end
/-! defs that call themselves -/
theorem FnU.no {P : Program} {w : World} {K : PySem.W.Frag} {mg : Str → Option Value} {base : Heap} {C : CT} {k n : Nat} {f : Addr} {fd : FuncData} {ps : List Str} (hp : ps.length = n) : FnU P w K mg base k f fd ps (spP K C n fun _ => .no) :=
  ⟨fun vs H Q E h => h.1.trans hp.symm, fun A _ outer s H args us vs Q E _ _ _ _ h => by
    obtain ⟨_, M0, ds, F, _, z⟩ := h
    exact z.elim⟩
theorem Pure.no {n : Nat} : Pure n fun _ => R.no := ⟨fun _ => ⟨fun _ _ h => (nomatch h), fun _ _ _ _ h => (nomatch h)⟩⟩
end J
/-! List methods that write, slices stored, xs[::-1], truth of a list that is owned, list(range(..)). -/
namespace J
open PySem L2 PySem.Spec PyProof.Rows
section
variable {K : PySem.W.Frag} {C : CT} {W : Wish} {kp : List Nat} {M0 : Addr → Prop} {H H' H2 : Hp} {σ σ' : L2.St} {env env' : J.Env} {F F' F1 F2 G G' : List Addr} {v w : V} {d e : D} {l : Addr} {o : HO}
theorem RepL.erase {M : Addr → Prop} : ∀ {vs : List V} {ds : List D} {F : List Addr} {j : Nat} {d : D}, RepL K C M H vs ds F → ds[j]? = some d → ∃ v G F1 F2, vs[j]? = some v ∧ Rep K C M H v d G ∧ F = F1 ++ (G ++ F2) ∧ RepL K C M H (vs.eraseIdx j) (ds.eraseIdx j) (F1 ++ F2)
  | _, _, _, _, _, .nil, e => by simp at e
  | _, _, _, 0, d, .cons (F := F0) (G := G0) h t, e => by
    simp only [List.getElem?_cons_zero, Option.some.injEq] at e
    subst e
    exact ⟨_, F0, [], G0, rfl, h, rfl, t⟩
  | _, _, _, j + 1, d, .cons (F := F0) h t, e => by
    obtain ⟨v, G, F1, F2, h1, h2, h3, h4⟩ := RepL.erase t (j := j) (d := d) (by simpa using e)
    exact ⟨v, G, F0 ++ F1, F2, by simpa using h1, h2, by rw [h3]; simp, by rw [List.append_assoc]; exact .cons h h4⟩
/-- an item leaves the list on top, and comes to the top -/
theorem Rel.popAt {xs : List D} {j : Nat} {x : D} (r : Rel K C M0 H (some (.ref l) :: σ) (some (.lst true xs) :: env) F) (hj : xs[j]? = some x) :
    ∃ ys u F', H l = some (.lst ys) ∧ ys.length = xs.length ∧ ys[j]? = some u ∧ Rel K C M0 (upd H l (.lst (ys.eraseIdx j))) (some u :: some (.ref l) :: σ) (some x :: some (.lst true (xs.eraseIdx j)) :: env) F' ∧ Stp F H F' (upd H l (.lst (ys.eraseIdx j))) := by
  obtain ⟨rep, nd, dj, al, zd⟩ := r
  cases rep with
  | have_ h t =>
    cases h with
    | own hl tl =>
      rename_i F2 ys G
      obtain ⟨u, Gx, A1, A2, hu, hx, eG, q⟩ := RepL.erase tl hj
      subst eG
      -- the item's own part beside the rest
      have mem : ∀ b, b ∈ Gx ++ (l :: ((A1 ++ A2) ++ F2)) ↔ b ∈ l :: ((A1 ++ (Gx ++ A2)) ++ F2) := fun b => by
        simp only [List.mem_append, List.mem_cons]
        exact ⟨fun h => by rcases h with h | h | (h | h) | h <;> simp [h], fun h => by rcases h with h | (h | h | h) | h <;> simp [h]⟩
      have nd0 := List.nodup_cons.mp nd
      have ndA : ((A1 ++ (Gx ++ A2)) ++ F2).Nodup := nd0.2
      have nlG : l ∉ Gx := fun z => nd0.1 (by simp [z])
      have nlA : l ∉ A1 ++ A2 := fun z => nd0.1 (by simp only [List.mem_append] at z ⊢; rcases z with z | z <;> simp [z])
      have nlF : l ∉ F2 := fun z => nd0.1 (by simp [z])
      have em : orF M0 (l :: ((A1 ++ (Gx ++ A2)) ++ F2)) = orF M0 (Gx ++ (l :: ((A1 ++ A2) ++ F2))) := by
        funext b; simp only [orF]; exact propext (or_congr_right (mem b).symm)
      have ml : orF M0 (Gx ++ (l :: ((A1 ++ A2) ++ F2))) l := .inr (by simp)
      have h0 : (l :: (A1 ++ (Gx ++ A2))) ++ F2 = l :: ((A1 ++ (Gx ++ A2)) ++ F2) := rfl
      rw [h0] at t hx q zd dj
      rw [em] at t hx q zd
      refine ⟨ys, u, Gx ++ (l :: ((A1 ++ A2) ++ F2)), hl, tl.length, hu, ⟨?_, ?_, fun b hb => dj b ((mem b).mp hb), fun b z => (al b z).upd fun e => dj l (List.mem_cons_self ..) (e ▸ z), zd.mono (hide_upd ml (liv_of hl).tbk)⟩, ⟨fun b o' n e _ => ?_, fun b hb => .inl ((mem b).mp hb), (liv_of hl).tbk⟩⟩
      · exact .have_ (rep_upd ml (liv_of hl).tbk nlG hx) (.have_ (F := l :: (A1 ++ A2)) (.own upd_same (repL_upd ml (liv_of hl).tbk nlA q)) (repO_upd ml (liv_of hl).tbk nlF t))
      · have h1 : ((A1 ++ (Gx ++ A2)) ++ F2) = A1 ++ (Gx ++ (A2 ++ F2)) := by simp
        have h2 : (Gx ++ (A1 ++ (A2 ++ F2))).Nodup := nodup_mid (F1 := Gx) (G := A1) (F2 := A2 ++ F2) (by rw [h1] at ndA; exact ndA)
        rw [List.nodup_append] at h2 ⊢
        refine ⟨h2.1, List.nodup_cons.mpr ⟨fun z => ?_, by simpa [List.append_assoc] using h2.2.1⟩, fun a ha b hb => ?_⟩
        · simp only [List.mem_append] at z nlA
          rcases z with (z | z) | z
          · exact nlA (.inl z)
          · exact nlA (.inr z)
          · exact nlF z
        · rcases List.mem_cons.mp hb with z | z
          · rintro rfl; exact nlG (z ▸ ha)
          · exact h2.2.2 a ha b (by simpa [List.append_assoc] using z)
      · rw [upd_ne (fun z => n (by rw [z]; exact List.mem_cons_self ..))]; exact e
/-- xs.pop() -/
def popF (i : Nat) : J.Env → R D := fun env => match env[i]? with
  | some (some (.lst true xs)) => (match xs[xs.length - 1]? with
    | some x => .ok x (env.set i (some (.lst true (xs.eraseIdx (xs.length - 1)))))
    | none => .no)
  | _ => .no
/-- xs.pop(k) -/
def popKF (i : Nat) (f : J.Env → R D) : J.Env → R D := fun env => match env[i]? with
  | some (some (.lst true _)) => (f env).bind fun k e => (match k, e[i]? with
    | .int n, some (some (.lst true xs)) => if -(2 ^ 63) ≤ n ∧ n < 2 ^ 63 then (match ixN xs.length n with
      | some j => (match xs[j]? with
        | some x => .ok x (e.set i (some (.lst true (xs.eraseIdx j))))
        | none => .no)
      | none => .no) else .no
    | _, _ => .no)
  | _ => .no
theorem i_popK {i : Nat} {f : J.Env → R D} {Q : VK} (h : tOf K C W (popKF i f) σ H Q) : tBM K "list" rPopAt (tVar i) (tCons (tOf K C W f) tNil) σ H Q := by
  obtain ⟨M0, env, F, r, h⟩ := h
  unfold popKF at h
  split at h
  case h_2 => exact h.elim
  rename_i xs0 e0
  obtain ⟨v0, _, _, _, hσ, hv0, _, _⟩ := r.rep.at e0
  obtain ⟨l, vs0, _, rfl, hl0, _, _⟩ := hv0.lstR
  refine ⟨.ref l, hσ, .inl ⟨rfl, _, .of hl0⟩, M0, env, F, r, ?_⟩
  cases ef : f env with
  | no => rw [ef] at h; exact h
  | ex c ns ds e => rw [ef] at h; exact h
  | ok k e =>
    rw [ef] at h
    intro v H1 F1 r1 s1
    simp only [R.bind] at h
    split at h
    case h_2 => exact h.elim
    rename_i n xs ei
    split at h
    case isFalse => exact h.elim
    rename_i hb
    split at h
    case h_2 => exact h.elim
    rename_i j ej
    split at h
    case h_2 => exact h.elim
    rename_i x ex
    have hv : v = .int n := by
      have rr := r1.rep
      cases rr with
      | have_ hv _ => cases hv; rfl
    subst hv
    obtain ⟨F2, r2, s2⟩ := r1.drop
    obtain ⟨v', F3, hσ', r3, s3⟩ := r2.take ei
    obtain rfl : v' = .ref l := by rw [hσ] at hσ'; simpa using hσ'.symm
    obtain ⟨ys, u, F4, hl, ly, hu, r4, s4⟩ := Rel.popAt r3 ex
    obtain ⟨G1, G2, eG, hv, r5⟩ := r4.pop
    obtain ⟨F5, r6, s6⟩ := r5.put (i := i) hσ
    rw [List.set_set] at r6
    obtain ⟨r7, s7⟩ := Rel.back r4 G1 G2 eG hv r6 (.sub s6)
    exact ⟨l, ys, n, j, u, rfl, rfl, hl, hb.1, hb.2, by rw [ly]; exact (ixN_seq ej).1, hu, h u _ _ r7 (s1.trans ((Stp.subl s2).trans ((Stp.sub s3).trans (s4.trans s7))))⟩
/-- xs.extend(e) -/
def extO (i : Nat) (f : J.Env → R D) : J.Env → Out := fun env => match env[i]? with
  | some (some (.lst true _)) => (match f env with
    | .ok (.lst _ zs) e => (match e[i]? with
      | some (some (.lst true xs)) => if D.noOwnL zs && decide (xs.length + zs.length ≤ 1000000) then .nx (e.set i (some (.lst true (xs ++ zs)))) else .no
      | _ => .no)
    | .ex c ns vs e => .ex c ns vs e
    | _ => .no)
  | _ => .no
/-- the list on top is written anew: data behind its items -/
theorem Rel.lstNew {xs xs' : List D} {ws : List V} {G0 : List Addr} (r : Rel K C M0 H (some (.ref l) :: σ) (some (.lst true xs) :: env) F) (h : ∀ ys G, H l = some (.lst ys) → RepL K C (orF M0 F) H ys xs G → ∃ G', RepL K C (orF M0 F) H ws xs' G' ∧ G'.Sublist G) :
    ∃ F', Rel K C M0 (upd H l (.lst ws)) (some (.ref l) :: σ) (some (.lst true xs') :: env) F' ∧ Stp F H F' (upd H l (.lst ws)) := by
  obtain ⟨rep, nd, dj, al, zd⟩ := r
  cases rep with
  | have_ h' t =>
    cases h' with
    | own hl tl =>
      rename_i F2 ys G
      obtain ⟨G', t', sub⟩ := h ys G hl tl
      have nd0 := List.nodup_cons.mp nd
      obtain ⟨r2, s2⟩ := own_write (G := G) (G' := G') (o := .lst ws) (x := .lst true xs') (liv_of hl) nd dj al zd t ((List.nodup_append.mp nd0.2).1.sublist sub) (fun b hb => sub.subset hb) fun M' hM ml => .own upd_same (by
        have h3 := repL_upd (o := .lst ws) (.inr (List.mem_cons_self ..)) (liv_of hl).tbk (fun z => nd0.1 (List.mem_append_left _ (sub.subset z))) t'
        exact repL_mono (hide_mono (.refl _) fun b z => .inl (hM b z)) h3 fun _ _ _ e _ => e)
      exact ⟨_, r2, s2⟩
theorem i_ext {i : Nat} {f : J.Env → R D} {E : Ends} (h : tS K C W kp (extO i f) E σ H) : tDrop (tBM K "list" rExtend (tVar i) (tCons (tOf K C W f) tNil)) E σ H := by
  obtain ⟨M0, env, F, r, h⟩ := h
  unfold extO at h
  split at h
  case h_2 => exact h.elim
  rename_i xs0 e0
  obtain ⟨v0, _, _, _, hσ, hv0, _, _⟩ := r.rep.at e0
  obtain ⟨l, vs0, _, rfl, hl0, _, _⟩ := hv0.lstR
  refine ⟨.ref l, hσ, .inl ⟨rfl, _, .of hl0⟩, M0, env, F, r, ?_⟩
  cases ef : f env with
  | no => rw [ef] at h; exact h
  | ex c ns ds e => rw [ef] at h; exact exS h
  | ok d e =>
    rw [ef] at h
    cases d <;> try exact h.elim
    rename_i oo zs
    intro v H1 F1 r1 s1
    simp only at h
    split at h
    case h_2 => exact h.elim
    rename_i xs ei
    split at h
    case isFalse => exact h.elim
    rename_i hz
    simp only [Bool.and_eq_true, decide_eq_true_eq] at hz
    obtain ⟨F2, r2, s2⟩ := r1.fz
    obtain ⟨F3, r3, s3, hv⟩ := r2.dataTop
    obtain ⟨v', F4, hσ', r4, s4⟩ := r3.take ei
    obtain rfl : v' = .ref l := by rw [hσ] at hσ'; simpa using hσ'.symm
    have hv2 := rep_mono (M' := orF M0 F4) (hide_mono (.refl _) fun b z => .inl (z.imp id (s4 b))) hv fun _ hb => absurd hb List.not_mem_nil
    obtain ⟨b, ws, Gz, rfl, hb, tz, _⟩ := hv2.lstR
    have tz := tz.nn (Rel.dup.noOwnL_fzL zs)
    have ez : D.fzL zs = zs := by
      have rr := r1.rep
      cases rr with
      | have_ hv _ =>
        obtain ⟨_, _, _, _, _, t, _⟩ := hv.lstR
        exact (fz_noOwnL t hz.1).2
    rw [ez] at tz
    obtain ⟨l', ys, _, el, hl, tl, _⟩ : ∃ a vs G, V.ref l = V.ref a ∧ H1 a = some (.lst vs) ∧ RepL K C (orF M0 F4) H1 vs xs G ∧ True := by
      have rr := r4.rep
      cases rr with
      | have_ hv _ => obtain ⟨a, vs, G, e, h1, t, _⟩ := hv.lstR; exact ⟨a, vs, G, e, h1, t, trivial⟩
    cases el
    obtain ⟨F5, r5, s5⟩ := Rel.lstNew (G0 := []) (xs' := xs ++ zs) (ws := ys ++ ws) r4 fun ys' G hl' t' => by
      rw [hl] at hl'
      obtain rfl : ys = ys' := by simpa using hl'
      exact ⟨G, by have := t'.app tz; rw [List.append_nil] at this; exact this, .refl _⟩
    obtain ⟨F6, r6, s6⟩ := r5.put (i := i) hσ
    rw [List.set_set] at r6
    refine ⟨l, b, ys, ws, rfl, rfl, hl, hb, by rw [tl.length, tz.length]; exact Nat.le_trans hz.2 (by rw [sizeLine_eq]; decide), ?_⟩
    exact h σ _ F6 r6 (s1.trans ((Stp.subl s2).trans ((Stp.subl s3).trans ((Stp.sub s4).trans (s5.trans (.sub s6)))))) Kp.rfl
/-! xs[a:c] = e -/
def putSG (i : Nat) (fa fb : J.Env → Option D) : D → J.Env → Option J.Env := fun d env => match d, fa env, fb env, env[i]? with
  | .lst _ ys, some (.int a), some (.int c), some (some (.lst true xs)) => if D.noOwnL ys && (D.noOwnL xs && (decide (0 ≤ a) && (decide (a ≤ c) && (decide (c ≤ xs.length) && decide (xs.length + ys.length ≤ 1000000))))) then
      some (env.set i (some (.lst true (xs.take a.toNat ++ ys ++ xs.drop c.toNat)))) else none
  | _, _, _, _ => none
/-! xs[::-1] -/
def revD (d : D) : Option D := match d with
  | .lst _ xs => if D.noOwnL xs then some (.lst true xs.reverse) else none
  | .scr xs => some (.lst true xs.reverse)
  | _ => none
/-! truth, read alone -/
def truBB (g : J.Env → Option D) : J.Env → R Bool := fun env => match g env with
  | some d => (match truD d with | some b => .ok b env | none => .no)
  | none => .no
/-! list(range(..)) -/
def rgD (a b : Int) : List D := (List.range (b - a).toNat).map fun i => .int (a + (i : Nat))
def lrgF1 (f : J.Env → R D) : J.Env → R D := fun env => match f env with
  | .ok (.int n) e => if n ≤ 10000 ∧ 0 ≤ n then .ok (.lst true (rgD 0 n)) e else .no
  | .ex c ns vs e => .ex c ns vs e
  | _ => .no
def lrgF2 (f g : J.Env → R D) : J.Env → R D := lift2 (fun a b => match a, b with | .int i, .int j => if 0 ≤ i ∧ i ≤ 10000 ∧ 0 ≤ j ∧ j ≤ 10000 then some (.lst true (rgD i j)) else none | _, _ => none) f g
theorem rgV_rep {M : Addr → Prop} {a b : Int} : RepL K C M H (rgV a b) (rgD a b) [] := by
  unfold rgV rgD
  generalize (b - a).toNat = n
  have key : ∀ l : List Nat, RepL K C M H (l.map fun i => V.int (a + (i : Nat))) (l.map fun i => D.int (a + (i : Nat))) [] := fun l => by
    induction l with
    | nil => exact .nil
    | cons x l ih => exact .cons (F := []) (G := []) (.int _) ih
  exact key _
theorem i_lrg1 {f : J.Env → R D} {Q : VK} (h : tOf K C W (lrgF1 f) σ H Q) : tLstRg (tRg1 (tOf K C W f)) σ H Q := by
  obtain ⟨M0, env, F, r, h⟩ := h
  refine ⟨M0, env, F, r, ?_⟩
  cases ef : f env with
  | no => simp only [lrgF1, ef] at h; exact h
  | ex c ns ds e => simp only [lrgF1, ef] at h; exact h
  | ok d e =>
    cases d <;> simp only [lrgF1, ef] at h <;> try exact h.elim
    rename_i n
    split at h
    case isFalse => exact h.elim
    rename_i hn
    intro v H1 F1 r1 s1
    have rr := r1.rep
    cases rr with
    | have_ hv _ =>
      cases hv
      obtain ⟨F2, r2, s2⟩ := r1.drop
      refine ⟨n, rfl, .of_le (by omega) (by omega) (by omega) (by omega), fun p np => ?_⟩
      obtain ⟨F3, r3, s3⟩ := Rel.newL_ r2 (fun b hb => s2.subset hb) rgV_rep np
      exact h _ _ F3 r3 (s1.trans s3)
end
section
variable {X : Cx} {C : CT} {W : WX} {kp : List Nat} {pos p p' p2 apos : Pos} {a b c e o : Expr} {i : Nat} {f f2 : J.Env → R D} {g g2 : J.Env → Option D}
theorem z_popK (h : PE X e (tBM X.K "list" rPopAt (tVar i) (tCons (T_ X C W f) tNil))) : PE X e (T_ X C W (popKF i f)) := h.imp fun _ _ _ q => i_popK q
theorem z_ext {st : Stmt} (h : PS X st (tDrop (tBM X.K "list" rExtend (tVar i) (tCons (T_ X C W f) tNil)))) : PS X st (S_ X C W kp (extO i f)) := h.imp fun _ _ _ q => i_ext q
theorem z_lrg1 (h : PE X e (tLstRg (tRg1 (T_ X C W f)))) : PE X e (T_ X C W (lrgF1 f)) := h.imp fun _ _ _ q => i_lrg1 q
end
/-! zip of two lists -/
section
variable {K : PySem.W.Frag} {C : CT} {W : Wish} {M0 : Addr → Prop} {H : Hp} {σ : L2.St} {env : J.Env} {F : List Addr}
def zipI (f : J.Env → R (List D)) : J.Env → R (List D) := fun env => match f env with
  | .ok [.lst _ xs, .lst _ ys] e => .ok (zipD (D.fzL xs) (D.fzL ys)) e
  | .ex c ns vs e => .ex c ns vs e
  | _ => .no
end
/-! x in a list or tuple of flat items -/
section
variable {K : PySem.W.Frag} {C : CT} {W : Wish} {M0 : Addr → Prop} {H : Hp} {σ : L2.St} {env : J.Env} {F : List Addr}
def D.toV : D → V
  | .bl b => .bl b | .int i => .int i | .str s => .str s | _ => .non
def seqD : D → Option (List D)
  | .lst _ xs => some xs | .tup xs => some xs | _ => none
def inFD (neg : Bool) (d e : D) : Option D := match seqD e with
  | some xs => if d.flat && xs.all D.flat then some (.bl (if neg then !inV d.toV (xs.map D.toV) else inV d.toV (xs.map D.toV))) else none
  | none => none
theorem flat_v {M : Addr → Prop} {v : V} {d : D} (h : Rep K C M H v d F) (hf : d.flat = true) : v = d.toV ∧ flatV v = true := by
  cases h <;> first | exact ⟨rfl, rfl⟩ | cases hf
theorem flats_v {M : Addr → Prop} : ∀ {vs : List V} {ds : List D} {F : List Addr}, RepL K C M H vs ds F → ds.all D.flat = true → vs = ds.map D.toV ∧ vs.all flatV = true
  | _, _, _, .nil, _ => ⟨rfl, rfl⟩
  | _, _, _, .cons h t, q => by
    simp only [List.all_cons, Bool.and_eq_true] at q
    obtain ⟨e1, f1⟩ := flat_v h q.1
    obtain ⟨e2, f2⟩ := flats_v t q.2
    exact ⟨by rw [List.map_cons, ← e1, ← e2], by rw [List.all_cons, f1, f2]; rfl⟩
theorem p_inF {neg : Bool} : Op2 K C (rIn K neg) (inFD neg) := by
  intro M0 σ env F H v w d e x Q r eg q
  obtain ⟨F1, F2, F3, eF, hv, hw, _⟩ := r.two
  unfold inFD at eg
  split at eg
  case h_2 => cases eg
  rename_i xs es
  split at eg
  case isFalse => cases eg
  rename_i hf
  simp only [Bool.and_eq_true] at hf
  obtain rfl := Option.some.inj eg
  obtain ⟨e1, f1⟩ := flat_v hv hf.1
  cases e <;> simp only [seqD, reduceCtorEq, Option.some.injEq] at es
  · subst es
    obtain ⟨a, vs, G, rfl, h1, t, _⟩ := hw.lstR
    obtain ⟨e2, f2⟩ := flats_v t hf.2
    refine ⟨a, vs, rfl, .inl (.of h1), f1, f2, ?_⟩
    rw [e1, e2]
    exact Rel.sc2 r (.bl _) q
  · subst es
    obtain ⟨a, vs, rfl, h1, t⟩ := hw.tupR
    obtain ⟨e2, f2⟩ := flats_v t hf.2
    refine ⟨a, vs, rfl, .inr (.inl (.inl h1)), f1, f2, ?_⟩
    rw [e1, e2]
    exact Rel.sc2 r (.bl _) q
theorem i_lrg2 {f g : J.Env → R D} {Q : VK} (h : tOf K C W (lrgF2 f g) σ H Q) : tLstRg (tRg2 (tOf K C W f) (tOf K C W g)) σ H Q := by
  refine i_op2 (r := fun x y H2 Q => ∃ i j, x = .int i ∧ y = .int j ∧ (RgOk i j ∧ ∀ q, H2 q = none → Q (.ref q) (upd H2 q (.lst (rgV i j))))) ?_ h
  intro M0 σ env F H v w d e x Q r eg q
  obtain ⟨F1, F2, F3, eF, hv, hw, F4, r4, s4⟩ := r.two
  dsimp only at eg
  split at eg
  · split at eg
    case isFalse => cases eg
    rename_i hb
    obtain rfl := Option.some.inj eg
    cases hv; cases hw
    refine ⟨_, _, rfl, rfl, .of_le (by omega) (by omega) (by omega) (by omega), fun p np => ?_⟩
    obtain ⟨F5, r5, s5⟩ := Rel.newL_ r4 s4 rgV_rep np
    exact q _ _ F5 r5 s5
  · cases eg
end
section
variable {X : Cx} {C : CT} {W : WX} {e : Expr} {f g : J.Env → R D}
theorem z_lrg2 (h : PE X e (tLstRg (tRg2 (T_ X C W f) (T_ X C W g)))) : PE X e (T_ X C W (lrgF2 f g)) := h.imp fun _ _ _ q => i_lrg2 q
end
end J
/-! a value is frozen at once: nobody writes it any more -/
namespace J
open PySem L2 PySem.Spec PyProof.Rows
def ltI (i j : Int) : Bool := decide (i < j)
def leI (i j : Int) : Bool := decide (i ≤ j)
def gtI (i j : Int) : Bool := decide (j < i)
def geI (i j : Int) : Bool := decide (j ≤ i)
def frzF (f : J.Env → R D) : J.Env → R D := fun env => match f env with
  | .ok d e => .ok d.fz e
  | .ex c ns vs e => .ex c ns vs e
  | .no => .no
/-! a, b, .. = a list of that length -/
def lstG (n : Nat) (g : List D → J.Env → Option J.Env) : D → J.Env → Option J.Env := fun d env => match d with
  | .lst false ds => if ds.length = n then g ds env else none
  | _ => none
end J
/-! exceptions: raised, caught -/
namespace J
open PySem L2 PySem.Spec PyProof.Rows
/-- the promise of an own exception class's __init__: ns are the fields, fl their values by the arguments -/
def spX (Ca : Addr) (okv : List V → Prop) (ns : List Str) (fl : List V → List V) : Sp := fun vs H Q _ => ∃ (a : Addr) (us : List V), vs = .ref a :: us ∧ okv us ∧ H a = some (exo a Ca none) ∧ ∀ d, H d = none → d ≠ a → Q .non (upd (upd H d (exd d (ns.zip (fl us)))) a (exo a Ca (some d)))
structure XCalU (P : Program) (w : World) (K : PySem.W.Frag) (mg : Str → Option Value) (base : Heap) (C : CT) (c : Nat) (x : Str) (k : Nat) (ps : List Str) (okv : List V → Prop) (ns : List Str) (fl : List V → List V) (ds : List Value) (dvs : List V) where
  f : Addr
  fd : FuncData
  ok : FnOk P w K mg base CX0 k f fd ps (spX (C c) okv ns fl)
  b : Binds K fd ps ds
  vd : Vals dvs ds
  ox : OexC K (C c)
  g : mg x = some (.ref (C c))
  iC : PySem.W.findIn K (.ref (C c)) "__init__" = some (some (.ref f))
  tI : PySem.W.typeIn K (.ref f) = some (.type "function")
def raiseO (c : Nat) (ns : List Str) (g : List D → Option (List D)) (af : J.Env → R (List D)) : J.Env → Out := fun env => match af env with
  | .ok ds e => if D.noOwnL ds then (match g ds with | some xs => .ex c ns xs e | none => .no) else .no
  | .ex c ns vs e => .ex c ns vs e
  | .no => .no
/-- what the pure word says of the fields is what the heap's does -/
def XG (g : List D → Option (List D)) (okv : List V → Prop) (fl : List V → List V) (dvs : List V) (ns : List Str) : Prop := ∀ (K : PySem.W.Frag) (C : Nat → Addr) (M : Addr → Prop) (H : Hp) (vs : List V) (ds xs : List D), RepL K C M H vs ds [] → g ds = some xs → okv (vs ++ dvs) ∧ RepL K C M H (fl (vs ++ dvs)) xs [] ∧ vs.length ≤ 1000 ∧ (fl (vs ++ dvs)).length = ns.length
section
variable {K : PySem.W.Frag} {C : CT} {W : Wish} {kp : List Nat} {M0 : Addr → Prop} {H : Hp} {σ : L2.St} {env : J.Env} {F : List Addr}
theorem repO_L {M : Addr → Prop} : ∀ {vs : List V} {ds : List D} {F : List Addr}, RepO K C M H (vs.map some) (ds.map some) F → RepL K C M H vs ds F
  | [], [], _, .nil => .nil
  | _ :: _, _ :: _, _, .have_ h t => .cons h (repO_L t)
theorem i_raise {c : Nat} {ns : List Str} {g : List D → Option (List D)} {af : J.Env → R (List D)} {okv : List V → Prop} {fl : List V → List V} {dvs : List V} {E : Ends} (G : XG g okv fl dvs ns) (h : tS K C W kp (raiseO c ns g af) E σ H) :
    tMkO (C c) (spX (C c) okv ns fl) dvs (aOf K C W af []) σ H (fun cls d H' => W σ cls d H') := by
  obtain ⟨M0, env, F, r, h⟩ := h
  refine ⟨M0, env, F, r, ?_⟩
  cases ef : af env with
  | no => simp only [raiseO, ef] at h; exact h
  | ex c ns ds e => simp only [raiseO, ef] at h; exact exS h
  | ok ds e =>
    simp only [raiseO, ef] at h
    intro vs H1 F1 r1 s1 hl _
    have hn : D.noOwnL ds = true := by
      by_cases hn : D.noOwnL ds = true
      · exact hn
      · rw [if_neg hn] at h; exact False.elim h
    rw [if_pos hn] at h
    cases hg : g ds with
    | none => rw [hg] at h; exact False.elim h
    | some xs =>
      rw [hg] at h
      obtain ⟨Fa, Fb, eF, ra, rb⟩ := r1.pops (by rw [List.length_map, List.length_map]; exact hl)
      have rl : RepL K C (orF M0 F1) H1 vs ds [] := (repO_L ra).nn hn
      obtain ⟨g1, g2, g3, g4⟩ := G K C _ H1 vs ds xs rl hg
      obtain ⟨F2, r2, m2⟩ := Rel.drops (by rw [List.length_map, List.length_map]; exact hl) r1
      refine ⟨g3, fun a na => ⟨a, vs ++ dvs, rfl, g1, upd_same, fun d nd hda => ?_⟩⟩
      have nd1 : H1 d = none := by rw [upd_ne hda] at nd; exact nd
      refine ⟨rfl, d, ns.zip (fl (vs ++ dvs)), upd_same, by rw [upd_ne hda, upd_same], nd1, ?_⟩
      have eH : upd (del (upd (upd (upd H1 a (exo a (C c) none)) d (exd d (ns.zip (fl (vs ++ dvs))))) a (exo a (C c) (some d))) a) d (.xd (ns.zip (fl (vs ++ dvs)))) = upd H1 d (.xd (ns.zip (fl (vs ++ dvs)))) := by
        funext b
        by_cases hb : b = d
        · rw [hb, upd_same, upd_same]
        · rw [upd_ne hb, upd_ne hb]
          by_cases hba : b = a
          · rw [hba, del_same, na]
          · rw [del_ne hba, upd_ne hba, upd_ne hb, upd_ne hba]
      rw [eH]
      have sm : Same H1 (upd H1 d (.xd (ns.zip (fl (vs ++ dvs))))) := new_same nd1
      refine h d _ σ _ F2 (r2.grow sm) (s1.trans ⟨fun b o _ e _ => sm b o e, fun b hb => .inl (m2 b hb), .same sm⟩) Kp.rfl (by
        refine hide_at (fun z => ?_) upd_same
        · rcases z with z | z
          · exact (r2.al _ z).ne nd1
          · exact (repO_alive r2.rep _ z).ne nd1) g4.symm ?_
      exact repL_mono (hide_sub (fun b o _ q1 _ => sm b o q1) (.same sm) fun b _ q2 _ z => q2 (z.elim .inl fun z => .inr (m2 b z))) g2 fun _ hb => absurd hb List.not_mem_nil
end
/-- raise X(..) -/
theorem z_raise {P : Program} {w : World} {mg : Str → Option Value} {base : Heap} {X : Cx} {C : CT} {W : WX} {kp : List Nat} {c : Nat} {x : Str} {k : Nat} {ps : List Str} {okv : List V → Prop} {ns : List Str} {fl : List V → List V} {ds : List Value} {dvs : List V} {g : List D → Option (List D)} {af : J.Env → R (List D)} {e : Expr} {es : List Expr} {p pos pos' : Pos}
    (hc : X.calm = true) (tk : Takes X W) (eP : X.prog = P) (ew : X.w = w) (eM : X.mg = mg) (eB : X.base = base) (xc : XCalU P w X.K mg base C c x k ps okv ns fl ds dvs) (hr : Room (k + 1) X.A) (hg : Gl X x) (G : XG g okv fl dvs ns) (ha : PA X (e :: es) (A_ X C W af []))
    (hdb : (x == ("__debug__" : Str)) = false := by decide) (he : starEach (e :: es) X.env = (false, eval e X.env) :: starEach es X.env := by rfl) (hpl : (backTo pos (starEach es X.env)).any (·.1) = false := by rfl) :
    PS X (.Raise (some (.Call (.Name x p) (e :: es) [] pos)) none pos') (S_ X C W kp (raiseO c ns g af)) := by
  subst eP ew eM eB
  exact (ps_raise hc tk (pmk_oex xc.ox xc.iC xc.tI xc.ok hr xc.b xc.vd pass0 hg xc.g ha hdb he hpl)).imp fun D σ H h => i_raise G h
end J
namespace J
open PySem L2 PySem.Spec PyProof.Rows
/-! what a suite holds -/
mutual
def D.noX : D → Bool
  | .non => true | .bl _ => true | .int _ => true | .str _ => true | .hole => true | .exc => false
  | .lst _ xs => D.noXL xs
  | .scr _ => true
  | .tup xs => D.noXL xs
  | .dK _ _ vs => D.noXL vs
  | .tK _ vs => D.noXL vs
  | .dT _ _ vs => D.noXL vs
  | .ins _ c _ vs => c != 999 && D.noXL vs
def D.noXL : List D → Bool
  | [] => true
  | d :: ds => d.noX && D.noXL ds
end
def noXE : J.Env → Bool
  | [] => true
  | none :: e => noXE e
  | some d :: e => d.noX && noXE e
section
variable {K : PySem.W.Frag} {C C' : Nat → Addr} {M : Addr → Prop} {H : Hp}
mutual
theorem rep_chg (h : ∀ n, n ≠ 999 → C' n = C n) : ∀ {v : V} {d : D} {F : List Addr}, Rep K C M H v d F → d.noX = true → Rep K C' M H v d F
  | _, _, _, .non, _ => .non
  | _, _, _, .bl b, _ => .bl b
  | _, _, _, .int i, _ => .int i
  | _, _, _, .str x, _ => .str x
  | _, _, _, .hole v, _ => .hole v
  | _, _, _, .exc, k => nomatch k
  | _, _, _, .lst h1 e t, k => .lst h1 e (repL_chg h t k)
  | _, _, _, .scr h1, k => .scr h1
  | _, _, _, .own h1 t, k => .own h1 (repL_chg h t k)
  | _, _, _, .tup h1 t, k => .tup h1 (repL_chg h t k)
  | _, _, _, .dKf h1 l e t, k => .dKf h1 l e (repL_chg h t k)
  | _, _, _, .dKo h1 l t, k => .dKo h1 l (repL_chg h t k)
  | _, _, _, .tK h1 l e t, k => .tK h1 l e (repL_chg h t k)
  | _, _, _, .dTf h1 l e t, k => .dTf h1 l e (repL_chg h t k)
  | _, _, _, .dTo h1 l t, k => .dTo h1 l (repL_chg h t k)
  | _, _, _, .insF (c := c) h1 l e t, k => by
    simp only [D.noX, Bool.and_eq_true, bne_iff_ne] at k
    exact .insF (c := c) (by rw [h c k.1]; exact h1) l e (repL_chg h t k.2)
  | _, _, _, .insO (c := c) h1 l t, k => by
    simp only [D.noX, Bool.and_eq_true, bne_iff_ne] at k
    exact .insO (c := c) (by rw [h c k.1]; exact h1) l (repL_chg h t k.2)
theorem repL_chg (h : ∀ n, n ≠ 999 → C' n = C n) : ∀ {vs : List V} {ds : List D} {F : List Addr}, RepL K C M H vs ds F → D.noXL ds = true → RepL K C' M H vs ds F
  | _, _, _, .nil, _ => .nil
  | _, _, _, .cons a t, k => by
    simp only [D.noXL, Bool.and_eq_true] at k
    exact .cons (rep_chg h a k.1) (repL_chg h t k.2)
end
end
/-- C, an exception held beside -/
def CT.hold (C : CT) (z : ZT) : CT := { cl := fun n => if n = 999 then z.a else C.cl n, z := some z, t := C.t }
theorem CT.hold_ne {C : CT} {z : ZT} {n : Nat} (h : n ≠ 999) : (C.hold z).cl n = C.cl n := if_neg h
theorem CT.hold_999 {C : CT} {z : ZT} : (C.hold z).cl 999 = z.a := by simp [CT.hold]
def tryOnlyO (m : List (Nat × Bool)) (body hd : J.Env → Out) : J.Env → Out := fun env => match body env with
  | .ex c ns vs e => (match m.lookup c with
    | some true => (match hd e with
      | .ex _ _ _ _ => .no
      | o => o)
    | some false => .ex c ns vs e
    | none => .no)
  | o => o
/-- what is behind a suite: the exception's name goes -/
def outX (i : Nat) : Out → Out := fun o => match o with
  | .nx e => if noXE (e.set i none) then .nx (e.set i none) else .no
  | .bk e => if noXE (e.set i none) then .bk (e.set i none) else .no
  | .ct e => if noXE (e.set i none) then .ct (e.set i none) else .no
  | .rt r e => if r.noX && noXE (e.set i none) then .rt r (e.set i none) else .no
  | _ => .no
def tryAsO (m : List (Nat × Bool)) (i : Nat) (body : J.Env → Out) (hd : Nat → List Str → List D → J.Env → Out) : J.Env → Out := fun env => match body env with
  | .ex c ns vs e => (match m.lookup c with
    | some true => if i < e.length then (if D.noXL vs && noXE (e.set i none) then outX i (hd c ns vs (e.set i (some .exc))) else .no) else .no
    | some false => .ex c ns vs e
    | none => .no)
  | o => o
/-- e.f in a suite -/
def xfF (i : Nat) (f : Str) (ns : List Str) (ds : List D) : J.Env → R D := fun env => match env[i]? with
  | some (some .exc) => (match lookD ns ds f with
    | some d => .ok d env
    | none => .no)
  | _ => .no
def W00 : WX := fun _ _ _ _ => False
section
variable {K : PySem.W.Frag} {C : CT} {W : Wish} {kp : List Nat} {M0 : Addr → Prop} {H H' : Hp} {σ σ' : L2.St} {env e : J.Env} {F F' : List Addr} {D0 : Ends} {o : Out} {z : ZT} {r : D} {v : V}
theorem i_xf {i : Nat} {f : Str} {a : Addr} {cls : Value} {dd : Option Addr} {Q : VK} (ha : z.a = a) (hc : cls = Value.ref (C z.c)) (hd : dd = some z.dd) (h : tOf K (C.hold z) W (xfF i f z.ns z.ds) σ H Q) : tXf a cls dd (C z.c) f (tVar i) σ H Q := by
  obtain ⟨M0, env, F, r, h⟩ := h
  unfold xfF at h
  cases he : env[i]? with
  | none => rw [he] at h; exact False.elim h
  | some y => cases y with
    | none => rw [he] at h; exact False.elim h
    | some d => cases d with
      | exc =>
        rw [he] at h
        dsimp only at h
        obtain ⟨v, G, F1, F2, hσ, hv, _⟩ := r.rep.at he
        obtain ⟨h1, h2, h3⟩ := r.zd.1 z rfl
        have hva : v = .ref a := by
          cases hv
          rw [CT.hold_999, ha]
        subst hva
        cases hl : lookD z.ns z.ds f with
        | none => rw [hl] at h; exact False.elim h
        | some d =>
          rw [hl] at h
          have key : ∀ {ns : List Str} {vs : List V} {ds : List D}, ns.length = vs.length → RepL K (C.hold z) (orF M0 F) H vs ds [] → lookD ns ds f = some d → ∃ v, (ns.zip vs).lookup f = some v ∧ Rep K (C.hold z) (orF M0 F) H v d [] := by
            intro ns
            induction ns with
            | nil => intro vs ds _ _ q; simp [lookD] at q
            | cons n ns ih =>
              intro vs ds l t q
              generalize hE : ([] : List Addr) = E at t
              cases t with
              | nil => simp [lookD] at q
              | cons a1 t1 =>
                rename_i v1 d1 vs1 ds1 Fa Fb
                obtain ⟨ea, eb⟩ := List.append_eq_nil_iff.mp hE.symm
                subst ea eb
                simp only [lookD] at q
                by_cases hf : (f == n) = true
                · rw [if_pos hf] at q
                  cases q
                  exact ⟨v1, by simp only [List.zip_cons_cons, List.lookup, hf], a1⟩
                · rw [if_neg hf] at q
                  obtain ⟨v, q1, q2⟩ := ih (by simpa using l) t1 q
                  exact ⟨v, by simp only [List.zip_cons_cons, List.lookup, Bool.eq_false_iff.mpr hf]; exact q1, q2⟩
          obtain ⟨v, q1, q2⟩ := key h2 h3 hl
          exact ⟨.ref a, hσ, rfl, hc, z.dd, _, v, hd, (hide_some h1).1, q1, h v H F (r.data q2) .refl⟩
      | _ => rw [he] at h; exact False.elim h
end
/-- e.f in a suite -/
theorem q_xf {X : Cx} {C : CT} {W : WX} {a : Addr} {oe : Obj} {cls : Value} {d : Option Addr} {pn : List (Addr × Obj)} {z : ZT} {i : Nat} {e : Expr} {pos : Pos} {f : Str} (ha : z.a = a) (hc : cls = Value.ref (C z.c)) (hd : d = some z.dd) (T : XfC X.K (C z.c)) (hno : PySem.W.findIn X.K (.ref (C z.c)) f = some none)
    (hz : Zc cls d oe) (hf : ∃ vs, oe.data = .fields vs) (he : PE (X.suite a ((a, oe) :: pn)) e (tVar i)) (hb : attributeBase e f X.env (eval e X.env) = eval e X.env := by rfl) :
    PE (X.suite a ((a, oe) :: pn)) (.Attribute e f pos) (T_ (X.suite a ((a, oe) :: pn)) (C.hold z) W (xfF i f z.ns z.ds)) :=
  (pe_xf (C := C z.c) T hno hz hf he hb).imp fun σ H Q h => i_xf ha hc hd h
/-- a suite whose reading depends on what is held -/
theorem pss_ex {X : Cx} {ss : List Stmt} {α : Type} {p : α → Prop} {t : α → TS} (h : ∀ a, p a → PSs X ss (t a)) : PSs X ss (fun D σ H => ∃ a, p a ∧ t a D σ H) := ⟨fun pins s σ H D I ⟨a, pa, q⟩ => (h a pa).run pins s σ H D I q⟩
/-! the package's classes: one field and a text; a reason and a place; a reason alone -/
def okv1 : List V → Prop := fun us => ∃ v, us = [v]
def fl1 (txt : Str) : List V → List V := fun us => match us with
  | [v] => [v, .str txt]
  | _ => []
def gF1 (txt : Str) : List D → Option (List D) := fun ds => match ds with
  | [d] => some [d, .str txt]
  | _ => none
def gB1 : List D → Option (List D) := fun ds => match ds with
  | [.str y] => some [.non, .str y]
  | _ => none
def gB2 : List D → Option (List D) := fun ds => match ds with
  | [.str y, d] => some [d, .str y]
  | _ => none
def gW : List D → Option (List D) := fun ds => match ds with
  | [.str y] => some [.str y]
  | _ => none
section
variable {K : PySem.W.Frag} {C : Nat → Addr} {M : Addr → Prop} {H : Hp}
theorem repL1 {vs : List V} {d : D} (h : RepL K C M H vs [d] []) : ∃ v, vs = [v] ∧ Rep K C M H v d [] := by
  generalize e : ([] : List Addr) = E at h
  cases h with
  | cons a t =>
    cases t
    obtain ⟨e1, -⟩ := List.append_eq_nil_iff.mp e.symm
    subst e1
    exact ⟨_, rfl, a⟩
end
theorem xg_1 {txt f : Str} : XG (gF1 txt) okv1 (fl1 txt) [] [f, "why"] := by
  intro K C M H vs ds xs h hg
  unfold gF1 at hg
  split at hg
  · cases hg
    obtain ⟨v, rfl, a⟩ := repL1 h
    exact ⟨⟨v, rfl⟩, .cons (F := []) (G := []) a (.cons (F := []) (G := []) (.str _) .nil), by simp, rfl⟩
  · cases hg
theorem updXX {H : Hp} {a d : Addr} {x x' y : HO} (h : d ≠ a) : upd (upd (upd H d x) a y) d x' = upd (upd H d x') a y := by
  funext b
  by_cases hb : b = d
  · rw [hb, upd_same, upd_ne h, upd_same]
  · rw [upd_ne hb]
    by_cases ha : b = a
    · rw [ha, upd_same, upd_same]
    · rw [upd_ne ha, upd_ne ha, upd_ne hb, upd_ne hb]
/-- TollError's own, on the way to a class of the package -/
def spTE (K : PySem.W.Frag) : Sp := fun vs H Q _ => ∃ (a D : Addr) (y : Str), vs = [.ref a, .str y] ∧ OexC K D ∧ PySem.W.findIn K (.ref D) "why" = some none ∧ H a = some (exo a D none) ∧
  ∀ d, H d = none → d ≠ a → Q .non (upd (upd H d (exd d [("why", .str y)])) a (exo a D (some d)))
end J
namespace J
open PySem L2 PySem.Spec PyProof.Rows
/-! what K holds of the exception classes, put together -/
theorem oex_mk {K : PySem.W.Frag} {C : Addr} {nm q : Str} {N : Addr} {bs bm : List Value} {sn sub ab col dd k0 k1 k2 k3 k5 : _} (hC : K.lookup C = some (excClassObj nm q C N bs bm true sn sub ab col dd k0 k1 k2 k3 k5 "ValueError.__new__")) (hb : PySem.HandSPX.refsVE bm = true)
    (sa : PySem.W.findIn K (.ref C) "__setattr__" = some (some (.builtin "object.__setattr__"))) (ex : PySem.W.subIn K (.ref C) (.type "BaseException") = some true) (ty : PySem.W.typeIn K (.ref C) = some (.type "type")) (kC : PySem.W.keepIn K (.ref C) = true) : OexC K C :=
  ⟨⟨nm, q, N, bs, bm, sn, sub, ab, col, dd, k0, k1, k2, k3, k5, hC, hb⟩, sa, ex, ty, kC⟩
section
variable {K : PySem.W.Frag} {x qual : Str} {st : Stmt} {f T : Addr} {oc : Value} {od an : Option Addr} {osl : Array (Option Value)} {kV doc pm cdv ct ocT : Value} {odT : Option Addr} {n : Nat} {slT : Array (Option Value)}
theorem fundS_mk {y : Str} {tk : _} (l : K.lookup f = some ⟨oc, od, .func (PySem.W.fnOf x qual (defArgs st) (defBody st) (defScope st) (.ref T) kV doc pm an cdv ct), osl⟩) (c : PySem.W.codeIn K cdv qual = true) (k : PySem.W.keepIn K (.ref f) = true) (lT : K.lookup T = some ⟨ocT, odT, .seq #[.str y tk] n, slT⟩) :
    FunD K x qual (defArgs st) (defBody st) (defScope st) [.str y] [] f (PySem.W.fnOf x qual (defArgs st) (defBody st) (defScope st) (.ref T) kV doc pm an cdv ct) :=
  ⟨⟨oc, od, .ref T, kV, doc, pm, an, cdv, ct, osl, rfl, l, c, .inr ⟨by simp, T, _, [.str y tk], n, rfl, lT, rfl, .cons ⟨tk, rfl⟩ .nil⟩, .inl rfl⟩, k⟩
end
theorem exm_mk {K : PySem.W.Frag} {S D : Addr} {b : Bool} (h1 : PySem.W.subIn K (.ref S) (.type "BaseException") = some true) (h2 : PySem.W.isClsIn K S = true) (h3 : PySem.W.typeIn K (.ref S) = some (.type "type")) (h4 : PySem.W.subIn K (.ref D) (.ref S) = some b) : PySem.W.exmOne K (.ref D) (.ref S) = some b := by
  have e1 : (PySem.W.subIn K (.ref S) (.type "BaseException") == some true) = true := by rw [h1] <;> rfl
  have e2 : ((PySem.W.clsIn K S).isSome && PySem.W.typeIn K (.ref S) == some (.type "type")) = true := by
    have h2' : (PySem.W.clsIn K S).isSome = true := h2
    rw [h2', h3] <;> rfl
  show (if (PySem.W.subIn K (.ref S) (.type "BaseException") == some true) = true then (if ((PySem.W.clsIn K S).isSome && PySem.W.typeIn K (.ref S) == some (.type "type")) = true then PySem.W.subIn K (.ref D) (.ref S) else none) else none) = some b
  rw [if_pos e1, if_pos e2]
  exact h4
theorem all_nil {α : Type} {P : α → Prop} : ∀ q ∈ ([] : List α), P q := fun _ h => nomatch h
theorem all_cons {P : Nat → Bool → Prop} {k : Nat} {b : Bool} {l : List (Nat × Bool)} (h : P k b) (t : ∀ q ∈ l, P q.1 q.2) : ∀ q ∈ (k, b) :: l, P q.1 q.2 := fun q hq => by
  rcases List.mem_cons.mp hq with rfl | hq
  · exact h
  · exact t q hq
theorem look_all {P : Nat → Bool → Prop} : ∀ {l : List (Nat × Bool)}, (∀ q ∈ l, P q.1 q.2) → ∀ (k : Nat) (b : Bool), l.lookup k = some b → P k b
  | [], _, _, _, h => by cases h
  | (k0, b0) :: l, t, k, b, h => by
    simp only [List.lookup] at h
    split at h
    · rename_i e
      have := eq_of_beq e
      subst this
      cases h
      exact t _ (List.mem_cons_self ..)
    · exact look_all (fun q hq => t q (List.mem_cons_of_mem _ hq)) k b h
end J
/-! x == [], x != [] of a list that is written later -/
namespace J
open PySem L2 PySem.Spec PyProof.Rows
def rNil (K : PySem.W.Frag) (neg : Bool) : R2 := fun x y H Q => ∃ a b vs, x = .ref a ∧ y = .ref b ∧ SqL K H a vs ∧ SqL K H b [] ∧ Q (.bl (neg != vs.isEmpty)) H
section
variable {X : Cx}
theorem op_neNil (hu : X.A.units + 64 < cLine) : OpR X (compareOp .NotEq) (rNil X.K true) := by
  intro pins s σ H x y v u Q I rx ry h
  obtain ⟨a, b, vs, rfl, rfl, h1, h2, q⟩ := h
  cases rx
  cases ry
  obtain ⟨us, r1, p1, -⟩ := I.list h1
  obtain ⟨zs, r2, p2, -⟩ := I.list h2
  cases r2
  cases vs with
  | nil =>
    cases r1
    exact SeqAt.RcNeAt.lists (e := fun _ => true) p1.isList p2.isList rfl (by omega) (fun j h => absurd h (Nat.not_lt_zero j)) X.prog X.w _ _ ⟨.bl false, H, I, rfl, q⟩
  | cons w ws =>
    cases r1
    exact SeqAt.RcNeAt.lists_lengths p1.isList p2.isList (by simp) (by omega) X.prog X.w _ _ ⟨.bl true, H, I, rfl, q⟩
end
def nilF (neg : Bool) (i : Nat) : J.Env → R D := fun env => match env[i]? with
  | some (some (.lst _ xs)) => .ok (.bl (neg != xs.isEmpty)) env
  | _ => .no
section
variable {K : PySem.W.Frag} {C : CT} {W : Wish} {H : Hp} {σ : L2.St}
theorem i_nilF {neg : Bool} {i : Nat} {Q : VK} (h : tOf K C W (nilF neg i) σ H Q) : tOp (rNil K neg) (tVar i) (tLst tNil) σ H Q := by
  obtain ⟨M0, env, F, r, h⟩ := h
  unfold nilF at h
  split at h
  · rename_i o xs he
    obtain ⟨v, G, F1, F2, hσ, hv, _⟩ := r.rep.at he
    obtain ⟨a, vs, G2, rfl, ha, t, _⟩ := hv.lstR
    refine ⟨_, hσ, Nat.zero_le _, fun p np => ?_⟩
    have sm : Same H (upd H p (.lst [])) := new_same np
    have el : vs.isEmpty = xs.isEmpty := by
      cases t <;> rfl
    refine ⟨a, p, vs, rfl, rfl, SqL.mono sm (.of ha), .of upd_same, ?_⟩
    rw [el]
    exact h _ _ F ((r.grow sm).data (.bl _)) (.same sm fun b hb => .inl hb)
  · exact False.elim h
end
section
variable {X : Cx} {C : CT} {W : WX} {i : Nat} {a b : Expr} {pos : Pos}
theorem t_nilN (hu : X.A.units + 64 < cLine) (ha : PE X a (tVar i)) (hb : PE X b (tLst tNil)) (hm : behindInMarks .NotEq b = false) : PT X (.Compare a [.NotEq] [b] pos) (TT_ X C W (asB (nilF true i))) := (pt_cmpR (op_neNil hu) ha hb hm).imp fun _ _ _ q => i_nilF (i_asB q)
end
end J
/-! W: how a run ends, said with what is still to be done (symbolic steps by simp). -/
namespace J
open PySem L2 PySem.Spec PyProof.Rows
abbrev XQ := Nat → List Str → List D → J.Env → Prop
def noX : XQ := fun _ _ _ _ => False
def Wr {α : Type} (r : R α) (Q : α → J.Env → Prop) (X : XQ) : Prop := match r with
  | .ok a e => Q a e
  | .ex c ns vs e => X c ns vs e
  | .no => False
def Wo (o : Out) (Q : Out → Prop) : Prop := match o with
  | .nx e => Q (.nx e)
  | .rt r e => Q (.rt r e)
  | .bk e => Q (.bk e)
  | .ct e => Q (.ct e)
  | .ex c ns vs e => Q (.ex c ns vs e)
  | .no => False
def Wg (o : Option J.Env) (P : J.Env → Prop) : Prop := match o with
  | some e => P e
  | none => False
/-- a value of a word that does not write -/
def Wd (o : Option D) (P : D → Prop) : Prop := match o with
  | some d => P d
  | none => False
section
variable {α β : Type} {f f2 f3 : J.Env → R D} {g : D → J.Env → Option J.Env} {env e outs : J.Env} {Q : Out → Prop} {X : XQ} {P : J.Env → Prop} {QD : D → J.Env → Prop} {QL : List D → J.Env → Prop} {QB : Bool → J.Env → Prop} {QA : α → J.Env → Prop} {a : α} {d x r : D} {ds xs ys : List D} {c n i : Nat} {ns : List Str} {af ag : J.Env → R (List D)} {cb cb2 : J.Env → R Bool} {s s2 : J.Env → Out} {fb fb2 : J.Env → Option D} {o : Out}
theorem Wr.ok {r : R α} (h : Wr r QA noX) : ∃ a e, r = .ok a e ∧ QA a e := by
  cases r with
  | ok a e => exact ⟨a, e, rfl, h⟩
  | ex c ns vs e => exact False.elim h
  | no => exact False.elim h
theorem Wr.of {r : R α} (h : r = .ok a e) (h2 : QA a e) : Wr r QA X := by subst h; exact h2
theorem Wr.mono {r : R α} {Q2 : α → J.Env → Prop} {X2 : XQ} (h : Wr r QA X) (hq : ∀ a e, QA a e → Q2 a e) (hx : ∀ c ns vs e, X c ns vs e → X2 c ns vs e) : Wr r Q2 X2 := by
  cases r with
  | ok a e => exact hq a e h
  | ex c ns vs e => exact hx c ns vs e h
  | no => exact h
theorem Wo.mono {Q2 : Out → Prop} (h : Wo o Q) (hq : ∀ o, Q o → Q2 o) : Wo o Q2 := by
  cases o <;> first | exact hq _ h | exact h
theorem Wg.mono {o : Option J.Env} {P2 : J.Env → Prop} (h : Wg o P) (hq : ∀ e, P e → P2 e) : Wg o P2 := by
  cases o with
  | none => exact h
  | some e => exact hq e h
theorem W_ok : Wr (.ok a e) QA X ↔ QA a e := Iff.rfl
theorem W_ex {vs : List D} : Wr (.ex c ns vs e : R α) QA X ↔ X c ns vs e := Iff.rfl
theorem W_some : Wg (some e) P ↔ P e := Iff.rfl
theorem W_someD {PD : D → Prop} : Wd (some d) PD ↔ PD d := Iff.rfl
/-! what is still to be done -/
def exQ (Q : Out → Prop) : XQ := fun c ns vs e => Q (.ex c ns vs e)
def nxQ (Q : Out → Prop) : J.Env → Prop := fun e => Q (.nx e)
def seqQ (g : J.Env → Out) (Q : Out → Prop) : Out → Prop := fun o => match o with
  | .nx e => Wo (g e) Q
  | o => Q o
def retQ (Q : Out → Prop) : D → J.Env → Prop := fun d e => Q (.rt d e)
def dropQ (Q : Out → Prop) : D → J.Env → Prop := fun _ e => Q (.nx e)
def ifQ (f g : J.Env → Out) (Q : Out → Prop) : Bool → J.Env → Prop := fun b e => match b with
  | true => Wo (f e) Q
  | false => Wo (g e) Q
def ifeQ (f g : J.Env → R D) (Q : D → J.Env → Prop) (X : XQ) : Bool → J.Env → Prop := fun b e => match b with
  | true => Wr (f e) Q X
  | false => Wr (g e) Q X
def asgQ (g : D → J.Env → Option J.Env) (Q : Out → Prop) : D → J.Env → Prop := fun d e => Wg (g d e) (nxQ Q)
def op1Q (g : D → Option D) (Q : D → J.Env → Prop) : D → J.Env → Prop := fun d e => Wd (g d) fun x => Q x e
def op2Q (g : D → D → Option D) (f2 : J.Env → R D) (Q : D → J.Env → Prop) (X : XQ) : D → J.Env → Prop := fun d e => Wr (f2 e) (fun d2 e2 => Wd (g d d2) fun x => Q x e2) X
def op2R (g : D → D → Option D) (d : D) (Q : D → J.Env → Prop) : D → J.Env → Prop := fun d2 e2 => Wd (g d d2) fun x => Q x e2
def atQ (Q : D → J.Env → Prop) (e : J.Env) : D → Prop := fun x => Q x e
def avQ (g : J.Env → R (List D)) (Q : List D → J.Env → Prop) (X : XQ) : D → J.Env → Prop := fun d e => Wr (g e) (fun ds e2 => Q (d :: ds) e2) X
def avR (d : D) (Q : List D → J.Env → Prop) : List D → J.Env → Prop := fun ds e2 => Q (d :: ds) e2
def appQ (g : J.Env → R (List D)) (Q : List D → J.Env → Prop) (X : XQ) : List D → J.Env → Prop := fun ds e => Wr (g e) (fun es e2 => Q (ds ++ es) e2) X
def appR (ds : List D) (Q : List D → J.Env → Prop) : List D → J.Env → Prop := fun es e2 => Q (ds ++ es) e2
def calQ (run : List D → R D) (lk : List (Nat × Nat)) (Q : D → J.Env → Prop) (X : XQ) : List D → J.Env → Prop := fun ds e => Wr (run ds) (fun r outs => Q r (relink lk outs e)) (fun c ns vs outs => X c ns vs (relink lk outs e))
def bkQ (lk : List (Nat × Nat)) (e : J.Env) (Q : D → J.Env → Prop) : D → J.Env → Prop := fun r outs => Q r (relink lk outs e)
def bkX (lk : List (Nat × Nat)) (e : J.Env) (X : XQ) : XQ := fun c ns vs outs => X c ns vs (relink lk outs e)
def metQ (c : Nat) (m : Str) (run : List D → R D) (g : J.Env → R (List D)) (lk : List (Nat × Nat)) (Q : D → J.Env → Prop) (X : XQ) : D → J.Env → Prop := fun d e => recv c m d = true ∧ Wr (g e) (avR d (calQ run (lkV lk) Q X)) X
def makQ (c : Nat) (run : List D → R D) (lk : List (Nat × Nat)) (Q : D → J.Env → Prop) (X : XQ) : List D → J.Env → Prop := fun ds e => Wr (run (.ins true c [] [] :: ds)) (fun r outs => match r, outs with
  | .non, some d :: outs => Q d (relink lk outs e)
  | _, _ => False) (fun c ns vs outs => match outs with | _ :: outs => X c ns vs (relink lk outs e) | [] => False)
def makR (lk : List (Nat × Nat)) (e : J.Env) (Q : D → J.Env → Prop) : D → J.Env → Prop := fun r outs => match r, outs with
  | .non, some d :: outs => Q d (relink lk outs e)
  | _, _ => False
def makX (lk : List (Nat × Nat)) (e : J.Env) (X : XQ) : XQ := fun c ns vs outs => match outs with | _ :: outs => X c ns vs (relink lk outs e) | [] => False
def lstQ (Q : D → J.Env → Prop) : List D → J.Env → Prop := fun ds e => ds.length ≤ 1000000 ∧ Q (.lst true ds) e
def tupQ (Q : D → J.Env → Prop) : List D → J.Env → Prop := fun ds e => ds.length ≤ 1000000 ∧ Q (.tup ds) e
def frzQ (Q : D → J.Env → Prop) : D → J.Env → Prop := fun d e => Q d.fz e
def asbQ (Q : Bool → J.Env → Prop) : D → J.Env → Prop := fun d e => match d with
  | .bl b => Q b e
  | _ => False
def ofbQ (Q : D → J.Env → Prop) : Bool → J.Env → Prop := fun b e => Q (.bl b) e
def notQ (Q : Bool → J.Env → Prop) : Bool → J.Env → Prop := fun b e => Q (!b) e
def andQ (g : J.Env → R Bool) (Q : Bool → J.Env → Prop) (X : XQ) : Bool → J.Env → Prop := fun b e => match b with
  | true => Wr (g e) Q X
  | false => Q false e
def orQ (g : J.Env → R Bool) (Q : Bool → J.Env → Prop) (X : XQ) : Bool → J.Env → Prop := fun b e => match b with
  | false => Wr (g e) Q X
  | true => Q true e
def truQ (Q : Bool → J.Env → Prop) : D → J.Env → Prop := fun d e => match truD d with
  | some b => Q b e
  | none => False
def chQ (p p' : Int → Int → Bool) (f2 f3 : J.Env → R D) (Q : D → J.Env → Prop) (X : XQ) : D → J.Env → Prop := fun d e => Wr (f2 e) (fun y e2 => match d, y with
  | .int i, .int j => if p i j = true then Wr (f3 e2) (fun z e3 => match z with | .int k => Q (.bl (p' j k)) e3 | _ => False) X else Q (.bl false) e2
  | _, _ => False) X
def chR (p p' : Int → Int → Bool) (d : D) (f3 : J.Env → R D) (Q : D → J.Env → Prop) (X : XQ) : D → J.Env → Prop := fun y e2 => match d, y with
  | .int i, .int j => if p i j = true then Wr (f3 e2) (fun z e3 => match z with | .int k => Q (.bl (p' j k)) e3 | _ => False) X else Q (.bl false) e2
  | _, _ => False
def chS (p' : Int → Int → Bool) (j : Int) (Q : D → J.Env → Prop) : D → J.Env → Prop := fun z e3 => match z with | .int k => Q (.bl (p' j k)) e3 | _ => False
def forQ (g : D → J.Env → Option J.Env) (b : J.Env → Out) (Q : Out → Prop) : List D → J.Env → Prop := fun ds e => Wo (forL g b ds e) Q
def cmpQ (g : D → J.Env → Option J.Env) (c : J.Env → R Bool) (f : J.Env → R D) (vs : List Nat) (Q : D → J.Env → Prop) (X : XQ) : List D → J.Env → Prop := fun ds e => ds.length ≤ 1000000 ∧ Wr (compL g c f vs [] ds (wipeE e vs)) Q X
/-- what a comprehension of more fors has made -/
def Wk (o : Option (List D × J.Env)) (Q : List D → J.Env → Prop) : Prop := match o with
  | some (acc, e) => Q acc e
  | none => False
def mkQ (Q : D → J.Env → Prop) : List D → J.Env → Prop := fun acc e => Q (.lst true acc) e
def cmnQ (g : D → J.Env → Option J.Env) (c : J.Env → R Bool) (kw : KW) (vs : List Nat) (Q : D → J.Env → Prop) : List D → J.Env → Prop := fun ds e => Wk (loopW g c kw vs ds [] (wipeE e vs)) (mkQ Q)
def knQ (g : D → J.Env → Option J.Env) (c : J.Env → R Bool) (kw : KW) (vs : List Nat) (acc : List D) (Q : List D → J.Env → Prop) : List D → J.Env → Prop := fun ds e => Wk (loopW g c kw vs ds acc (wipeE e vs)) Q
def klQ (acc : List D) (Q : List D → J.Env → Prop) : D → J.Env → Prop := fun x e => acc.length < 1000000 ∧ Q (acc ++ [x]) e
def fldQ (c i : Nat) (f : Str) (Q : Out → Prop) : D → J.Env → Prop := fun d e => match e[i]? with
  | some (some (.ins true c' ns ds)) => (c' = c ∧ ns.length < 900 ∧ d.noOwn = true) ∧ Q (.nx (e.set i (some (.ins true c (putN f ns) (putDs f d ns ds)))))
  | _ => False
def augQ (i : Nat) (op : Int → Int → Int) (a : Int) (Q : Out → Prop) : D → J.Env → Prop := fun d e => match d with
  | .int b => Q (.nx (e.set i (some (.int (op a b)))))
  | _ => False
def apdQ (i : Nat) (Q : Out → Prop) : D → J.Env → Prop := fun d e => match e[i]? with
  | some (some (.lst true xs)) => xs.length < 1000000 ∧ Q (.nx (e.set i (some (.lst true (xs ++ [d])))))
  | _ => False
def extQ (i : Nat) (Q : Out → Prop) : D → J.Env → Prop := fun d e => match d, e[i]? with
  | .lst _ zs, some (some (.lst true xs)) => (D.noOwnL zs && decide (xs.length + zs.length ≤ 1000000)) = true ∧ Q (.nx (e.set i (some (.lst true (xs ++ zs)))))
  | _, _ => False
def parQ (i j : Nat) (Q : Out → Prop) : List D → J.Env → Prop := fun ds e => match ds with
  | [a, b] => (i < e.length ∧ j < e.length) ∧ Q (.nx ((e.set i (some a)).set j (some b)))
  | _ => False
def conQ (k : List D → J.Env → Option J.Env) (ds : List D) (P : J.Env → Prop) : J.Env → Prop := fun e => Wg (k ds e) P
def liQ (Q : List D → J.Env → Prop) : D → J.Env → Prop := fun d e => match d with
  | .lst _ xs => Q (D.fzL xs) e
  | _ => False
def tiQ (Q : List D → J.Env → Prop) : D → J.Env → Prop := fun d e => match d with
  | .tup xs => Q (D.fzL xs) e
  | _ => False
def enQ (k : Int) (Q : List D → J.Env → Prop) : List D → J.Env → Prop := fun ds e => match ds with
  | [.lst _ xs] => Q (enumD k (D.fzL xs)) e
  | _ => False
def r1Q (Q : List D → J.Env → Prop) : List D → J.Env → Prop := fun ds e => match ds with
  | [.int j] => (-(2 ^ 62) ≤ j ∧ j < 2 ^ 62) ∧ Q (rngD 0 j.toNat) e
  | _ => False
def r2Q (Q : List D → J.Env → Prop) : List D → J.Env → Prop := fun ds e => match ds with
  | [.int i, .int j] => (-(2 ^ 62) ≤ i ∧ i < 2 ^ 62 ∧ -(2 ^ 62) ≤ j ∧ j < 2 ^ 62) ∧ Q (rngD i (j - i).toNat) e
  | _ => False
def ziQ (Q : List D → J.Env → Prop) : List D → J.Env → Prop := fun ds e => match ds with
  | [.lst _ xs, .lst _ ys] => Q (zipD (D.fzL xs) (D.fzL ys)) e
  | _ => False
def asiQ (Q : D → J.Env → Prop) : D → J.Env → Prop := fun d e => match d with
  | .int i => Q (.int i) e
  | _ => False
def sl1Q (lo hi : J.Env → R D) (Q : D → J.Env → Prop) (X : XQ) : D → J.Env → Prop := fun d e => Wr (lo e) (fun l e2 => Wr (hi e2) (fun u e3 => Wd (slD d l u) fun x => Q x e3) X) X
def sl2Q (d : D) (hi : J.Env → R D) (Q : D → J.Env → Prop) (X : XQ) : D → J.Env → Prop := fun l e2 => Wr (hi e2) (fun u e3 => Wd (slD d l u) fun x => Q x e3) X
def sl3Q (d l : D) (Q : D → J.Env → Prop) : D → J.Env → Prop := fun u e3 => Wd (slD d l u) fun x => Q x e3
def lrQ (Q : D → J.Env → Prop) : D → J.Env → Prop := fun d e => match d with
  | .int n => (n ≤ 10000 ∧ 0 ≤ n) ∧ Q (.lst true (rgD 0 n)) e
  | _ => False
def defQ (n : Nat) (kp : List Nat) (Q : D → J.Env → Prop) (X : XQ) : Out → Prop := fun o => match o with
  | .nx e => Q .non (outsOf n kp e)
  | .rt r e => Q r (outsOf n kp e)
  | .ex c ns vs e => X c ns vs (outsOf n kp e)
  | _ => False
def loopQ (P : J.Env → Prop) (Q : Out → Prop) : Out → Prop := fun o => match o with
  | .nx e => P e
  | .ct e => P e
  | .bk e => Q (.nx e)
  | o => Q o
def bodQ (b : J.Env → Out) (P : J.Env → Prop) (Q : Out → Prop) : J.Env → Prop := fun e => Wo (b e) (loopQ P Q)
def popQ (i : Nat) (env : J.Env) (Q : D → J.Env → Prop) : Option (Option D) → Prop := fun o => match o with
  | some (some (.lst true xs)) => (match xs[xs.length - 1]? with
    | some x => Q x (env.set i (some (.lst true (xs.eraseIdx (xs.length - 1)))))
    | none => False)
  | _ => False
def rdQ (i : Nat) (env : J.Env) (Q : D → J.Env → Prop) : Option (Option D) → Prop := fun o => match o with
  | some (some d) => Q d.fz (env.set i (some d.fz))
  | _ => False
def rmQ (i : Nat) (env : J.Env) (Q : D → J.Env → Prop) : Option (Option D) → Prop := fun o => match o with
  | some (some d) => Q d (env.set i none)
  | _ => False
def rrQ (i : Nat) (env : J.Env) (g : J.Env → R (List D)) (Q : List D → J.Env → Prop) (X : XQ) : Option (Option D) → Prop := fun o => match o with
  | some (some d) => Wr (g (env.set i none)) (avR d Q) X
  | _ => False
def noQ (Q : D → J.Env → Prop) (env : J.Env) : D → Prop := fun d => d.noOwn = true ∧ Q d env
/-! the steps -/
theorem wz_seq : Wo (seqO s s2 env) Q ↔ Wo (s env) (seqQ s2 Q) := by unfold seqO Wo seqQ; cases s env <;> exact Iff.rfl
theorem wz_seqn : seqQ s Q (.nx e) ↔ Wo (s e) Q := Iff.rfl
theorem wz_seqr : seqQ s Q (.rt r e) ↔ Q (.rt r e) := Iff.rfl
theorem wz_seqb : seqQ s Q (.bk e) ↔ Q (.bk e) := Iff.rfl
theorem wz_seqc : seqQ s Q (.ct e) ↔ Q (.ct e) := Iff.rfl
theorem wz_seqx {vs : List D} : seqQ s Q (.ex c ns vs e) ↔ Q (.ex c ns vs e) := Iff.rfl
theorem wz_exQ {vs : List D} : exQ Q c ns vs e ↔ Q (.ex c ns vs e) := Iff.rfl
theorem wz_nxQ : nxQ Q e ↔ Q (.nx e) := Iff.rfl
theorem wz_nil : Wo (nilO env) Q ↔ Q (.nx env) := Iff.rfl
theorem wz_bk : Wo (bkO env) Q ↔ Q (.bk env) := Iff.rfl
theorem wz_ct : Wo (ctO env) Q ↔ Q (.ct env) := Iff.rfl
theorem wz_retN : Wo (retN env) Q ↔ Q (.rt .non env) := Iff.rfl
theorem wz_ret : Wo (retO f env) Q ↔ Wr (f env) (retQ Q) (exQ Q) := by unfold retO Wo Wr; cases f env <;> exact Iff.rfl
def nlP (neg : Bool) (env : J.Env) (Q : D → J.Env → Prop) : Option (Option D) → Prop := fun o => match o with
  | some (some (.lst _ xs)) => Q (.bl (neg != xs.isEmpty)) env
  | _ => False
theorem wz_nilF {neg : Bool} : Wr (nilF neg i env) QD X ↔ nlP neg env QD env[i]? := by
  unfold nilF nlP
  cases env[i]? with
  | none => exact Iff.rfl
  | some y => cases y with
    | none => exact Iff.rfl
    | some y => cases y <;> exact Iff.rfl
theorem wz_nlP {neg ow : Bool} : nlP neg env QD (some (some (.lst ow xs))) ↔ QD (.bl (neg != xs.isEmpty)) env := Iff.rfl
theorem wz_retQ : retQ Q d e ↔ Q (.rt d e) := Iff.rfl
theorem wz_drop : Wo (dropO f env) Q ↔ Wr (f env) (dropQ Q) (exQ Q) := by unfold dropO Wo Wr; cases f env <;> exact Iff.rfl
theorem wz_dropQ : dropQ Q d e ↔ Q (.nx e) := Iff.rfl
theorem wz_if : Wo (ifO cb s s2 env) Q ↔ Wr (cb env) (ifQ s s2 Q) (exQ Q) := by
  unfold ifO Wo Wr
  cases cb env with
  | ok b e => cases b <;> exact Iff.rfl
  | ex => exact Iff.rfl
  | no => exact Iff.rfl
theorem wz_ift : ifQ s s2 Q true e ↔ Wo (s e) Q := Iff.rfl
theorem wz_iff : ifQ s s2 Q false e ↔ Wo (s2 e) Q := Iff.rfl
theorem wz_ife : Wr (ifE cb f f2 env) QD X ↔ Wr (cb env) (ifeQ f f2 QD X) X := by
  unfold ifE Wr
  cases cb env with
  | ok b e => cases b <;> exact Iff.rfl
  | ex => exact Iff.rfl
  | no => exact Iff.rfl
theorem wz_ifet : ifeQ f f2 QD X true e ↔ Wr (f e) QD X := Iff.rfl
theorem wz_ifef : ifeQ f f2 QD X false e ↔ Wr (f2 e) QD X := Iff.rfl
theorem wz_asg : Wo (asgO f g env) Q ↔ Wr (f env) (asgQ g Q) (exQ Q) := by
  unfold asgO Wo Wr asgQ Wg nxQ
  cases f env with
  | ok d e => dsimp only; cases g d e <;> exact Iff.rfl
  | ex => exact Iff.rfl
  | no => exact Iff.rfl
theorem wz_asgQ : asgQ g Q d e ↔ Wg (g d e) (nxQ Q) := Iff.rfl
theorem wz_set (h : i < env.length) : Wg (setG i d env) P ↔ P (env.set i (some d)) := by unfold setG Wg; rw [if_pos h]
theorem wz_tup {g : List D → J.Env → Option J.Env} (h : ds.length = n) : Wg (tupG n g (.tup ds) env) P ↔ Wg (g ds env) P := by unfold tupG; simp only [h, if_true]
theorem wz_lsg {g : List D → J.Env → Option J.Env} (h : ds.length = n) : Wg (lstG n g (.lst false ds) env) P ↔ Wg (g ds env) P := by unfold lstG; simp only [h, if_true]
theorem wz_con {k : List D → J.Env → Option J.Env} : Wg (consG g k (d :: ds) env) P ↔ Wg (g d env) (conQ k ds P) := by
  unfold consG conQ Wg
  dsimp only
  cases g d env <;> exact Iff.rfl
theorem wz_conQ {k : List D → J.Env → Option J.Env} : conQ k ds P e ↔ Wg (k ds e) P := Iff.rfl
theorem wz_nilG : Wg (nilG [] env) P ↔ P env := Iff.rfl
theorem wz_rdF : Wr (rdF i env) QD X ↔ rdQ i env QD env[i]? := by
  unfold rdF rdQ Wr
  cases env[i]? with
  | none => exact Iff.rfl
  | some z => cases z <;> exact Iff.rfl
theorem wz_rdQ : rdQ i env QD (some (some d)) ↔ QD d.fz (env.set i (some d.fz)) := Iff.rfl
theorem wz_rdM : Wr (rdM i env) QD X ↔ rmQ i env QD env[i]? := by
  unfold rdM rmQ Wr
  cases env[i]? with
  | none => exact Iff.rfl
  | some z => cases z <;> exact Iff.rfl
theorem wz_rmQ : rmQ i env QD (some (some d)) ↔ QD d (env.set i none) := Iff.rfl
theorem wz_okC : Wr (okC d env) QD X ↔ QD d env := Iff.rfl
theorem wz_toT : Wr (toT fb env) QD X ↔ Wd (fb env) (noQ QD env) := by
  unfold toT Wr Wd noQ
  cases fb env with
  | none => exact Iff.rfl
  | some d =>
    dsimp only
    by_cases h : d.noOwn = true
    · rw [if_pos h]; exact ⟨fun z => ⟨h, z⟩, fun z => z.2⟩
    · rw [if_neg h]; exact ⟨fun z => False.elim z, fun z => absurd z.1 h⟩
theorem wz_noQ : noQ QD env d ↔ (d.noOwn = true ∧ QD d env) := Iff.rfl
theorem wz_rdB : rdB i env = (env[i]?).join := id rfl
def bo2 (g : D → D → Option D) : Option D → Option D → Option D := fun a b => match a, b with
  | some d, some e => g d e
  | _, _ => none
def bo1 (g : D → Option D) : Option D → Option D := fun a => match a with
  | some d => g d
  | none => none
theorem wz_bop2 {g : D → D → Option D} : bop2 g fb fb2 env = bo2 g (fb env) (fb2 env) := id rfl
theorem wz_bop1 {g : D → Option D} : bop1 g fb env = bo1 g (fb env) := id rfl
theorem wz_bo2 {g : D → D → Option D} : bo2 g (some d) (some x) = g d x := id rfl
theorem wz_bo1 {g : D → Option D} : bo1 g (some d) = g d := id rfl
theorem wz_l1 {g : D → Option D} : Wr (lift1 g f env) QD X ↔ Wr (f env) (op1Q g QD) X := by
  unfold lift1 R.bind Wr op1Q Wd
  cases f env with
  | ok d e => dsimp only; cases g d <;> exact Iff.rfl
  | ex => exact Iff.rfl
  | no => exact Iff.rfl
theorem wz_op1 {g : D → Option D} : op1Q g QD d e ↔ Wd (g d) (atQ QD e) := Iff.rfl
theorem wz_at : atQ QD e d ↔ QD d e := Iff.rfl
theorem wz_l2 {g : D → D → Option D} : Wr (lift2 g f f2 env) QD X ↔ Wr (f env) (op2Q g f2 QD X) X := by
  unfold lift2 R.bind Wr op2Q Wd Wr
  cases f env with
  | ok d e =>
    dsimp only
    cases f2 e with
    | ok d2 e2 => dsimp only; cases g d d2 <;> exact Iff.rfl
    | ex => exact Iff.rfl
    | no => exact Iff.rfl
  | ex => exact Iff.rfl
  | no => exact Iff.rfl
theorem wz_op2 {g : D → D → Option D} : op2Q g f2 QD X d e ↔ Wr (f2 e) (op2R g d QD) X := Iff.rfl
theorem wz_op2R {g : D → D → Option D} : op2R g d QD x e ↔ Wd (g d x) (atQ QD e) := Iff.rfl
theorem wz_a0 : Wr (args0 env) QL X ↔ QL [] env := Iff.rfl
theorem wz_av : Wr (argV f af env) QL X ↔ Wr (f env) (avQ af QL X) X := by
  unfold argV R.bind Wr avQ Wr
  cases f env with
  | ok d e => dsimp only; cases af e <;> exact Iff.rfl
  | ex => exact Iff.rfl
  | no => exact Iff.rfl
theorem wz_avQ : avQ af QL X d e ↔ Wr (af e) (avR d QL) X := Iff.rfl
theorem wz_avR : avR d QL ds e ↔ QL (d :: ds) e := Iff.rfl
theorem wz_ar : Wr (argR i af env) QL X ↔ rrQ i env af QL X env[i]? := by
  unfold argR R.bind Wr rrQ Wr avR
  cases env[i]? with
  | none => exact Iff.rfl
  | some z => cases z with
    | none => exact Iff.rfl
    | some d => dsimp only; cases af (env.set i none) <;> exact Iff.rfl
theorem wz_rrQ : rrQ i env af QL X (some (some d)) ↔ Wr (af (env.set i none)) (avR d QL) X := Iff.rfl
theorem wz_app : Wr (argApp af ag env) QL X ↔ Wr (af env) (appQ ag QL X) X := by
  unfold argApp R.bind Wr appQ Wr
  cases af env with
  | ok d e => dsimp only; cases ag e <;> exact Iff.rfl
  | ex => exact Iff.rfl
  | no => exact Iff.rfl
theorem wz_appQ : appQ ag QL X ds e ↔ Wr (ag e) (appR ds QL) X := Iff.rfl
theorem wz_appR : appR ds QL xs e ↔ QL (ds ++ xs) e := Iff.rfl
theorem wz_cal {run : List D → R D} {lk : List (Nat × Nat)} : Wr (callF run lk af env) QD X ↔ Wr (af env) (calQ run lk QD X) X := by
  unfold callF R.bind Wr calQ Wr
  cases af env with
  | ok ds e => dsimp only; cases run ds <;> exact Iff.rfl
  | ex => exact Iff.rfl
  | no => exact Iff.rfl
theorem wz_calQ {run : List D → R D} {lk : List (Nat × Nat)} : calQ run lk QD X ds e ↔ Wr (run ds) (bkQ lk e QD) (bkX lk e X) := Iff.rfl
theorem wz_bkQ {lk : List (Nat × Nat)} : bkQ lk e QD r outs ↔ QD r (relink lk outs e) := Iff.rfl
theorem wz_bkX {lk : List (Nat × Nat)} {vs : List D} : bkX lk e X c ns vs outs ↔ X c ns vs (relink lk outs e) := Iff.rfl
theorem wz_rl0 : relink [] outs e = e := id rfl
def rlK (lk : List (Nat × Nat)) (outs e : J.Env) (k i : Nat) : Option (Option D) → J.Env := fun o => match o with
  | some (some d) => relink lk (outs.set k none) (e.set i (some d))
  | _ => relink lk outs e
theorem wz_rl {lk : List (Nat × Nat)} {k : Nat} : relink ((k, i) :: lk) outs e = rlK lk outs e k i outs[k]? := by
  unfold relink rlK
  cases outs[k]? with
  | none => rfl
  | some z => cases z <;> rfl
theorem wz_rlK {lk : List (Nat × Nat)} {k : Nat} : rlK lk outs e k i (some (some d)) = relink lk (outs.set k none) (e.set i (some d)) := id rfl
theorem wz_lkV0 : lkV [] = [] := id rfl
theorem wz_lkV {lk : List (Nat × Nat)} {k : Nat} : lkV ((k, i) :: lk) = (k + 1, i) :: lkV lk := id rfl
theorem wz_met {m : Str} {run : List D → R D} {lk : List (Nat × Nat)} : Wr (methF c m run f af lk env) QD X ↔ Wr (f env) (metQ c m run af lk QD X) X := by
  unfold methF
  generalize hz : f env = z
  cases z with
  | ok d e =>
    have e1 : Wr (R.ok d e) (metQ c m run af lk QD X) X ↔ (recv c m d = true ∧ Wr (af e) (avR d (calQ run (lkV lk) QD X)) X) := Iff.rfl
    rw [e1]
    simp only [R.bind]
    by_cases h : recv c m d = true
    · simp only [h, if_true, true_and]
      rw [wz_cal]
      cases af e <;> exact Iff.rfl
    · simp only [h, if_false]
      exact ⟨fun z => False.elim z, fun z => absurd z.1 (by simp)⟩
  | ex => exact Iff.rfl
  | no => exact Iff.rfl
theorem wz_metQ {m : Str} {run : List D → R D} {lk : List (Nat × Nat)} : metQ c m run af lk QD X d e ↔ (recv c m d = true ∧ Wr (af e) (avR d (calQ run (lkV lk) QD X)) X) := Iff.rfl
theorem wz_mak {run : List D → R D} {lk : List (Nat × Nat)} : Wr (makeF c run lk af env) QD X ↔ Wr (af env) (makQ c run lk QD X) X := by
  unfold makeF R.bind Wr makQ Wr
  cases af env with
  | ok ds e =>
    dsimp only
    cases run (D.ins true c [] [] :: ds) with
    | ok r outs =>
      cases outs with
      | nil => cases r <;> exact Iff.rfl
      | cons x xs => cases x <;> cases r <;> exact Iff.rfl
    | ex c ns vs outs => cases outs <;> exact Iff.rfl
    | no => exact Iff.rfl
  | ex => exact Iff.rfl
  | no => exact Iff.rfl
theorem wz_makQ {run : List D → R D} {lk : List (Nat × Nat)} : makQ c run lk QD X ds e ↔ Wr (run (.ins true c [] [] :: ds)) (makR lk e QD) (makX lk e X) := Iff.rfl
theorem wz_makR {lk : List (Nat × Nat)} : makR lk e QD .non (some d :: outs) ↔ QD d (relink lk outs e) := Iff.rfl
theorem wz_makX {lk : List (Nat × Nat)} {vs : List D} {z : Option D} : makX lk e X c ns vs (z :: outs) ↔ X c ns vs (relink lk outs e) := Iff.rfl
theorem wz_lst : Wr (lstF af env) QD X ↔ Wr (af env) (lstQ QD) X := by
  unfold lstF
  generalize af env = z
  cases z with
  | ok ds e =>
    have e1 : Wr (R.ok ds e) (lstQ QD) X ↔ (ds.length ≤ 1000000 ∧ QD (.lst true ds) e) := Iff.rfl
    rw [e1]
    dsimp only
    by_cases h : ds.length ≤ 1000000
    · rw [if_pos h]; exact ⟨fun z => ⟨h, z⟩, fun z => z.2⟩
    · rw [if_neg h]; exact ⟨fun z => False.elim z, fun z => absurd z.1 h⟩
  | ex => exact Iff.rfl
  | no => exact Iff.rfl
theorem wz_lstQ (h : ds.length ≤ 1000000) : lstQ QD ds e ↔ QD (.lst true ds) e := ⟨fun z => z.2, fun z => ⟨h, z⟩⟩
theorem wz_tpl : Wr (tupF af env) QD X ↔ Wr (af env) (tupQ QD) X := by
  unfold tupF
  generalize af env = z
  cases z with
  | ok ds e =>
    have e1 : Wr (R.ok ds e) (tupQ QD) X ↔ (ds.length ≤ 1000000 ∧ QD (.tup ds) e) := Iff.rfl
    rw [e1]
    dsimp only
    by_cases h : ds.length ≤ 1000000
    · rw [if_pos h]; exact ⟨fun z => ⟨h, z⟩, fun z => z.2⟩
    · rw [if_neg h]; exact ⟨fun z => False.elim z, fun z => absurd z.1 h⟩
  | ex => exact Iff.rfl
  | no => exact Iff.rfl
theorem wz_tplQ (h : ds.length ≤ 1000000) : tupQ QD ds e ↔ QD (.tup ds) e := ⟨fun z => z.2, fun z => ⟨h, z⟩⟩
theorem wz_frz : Wr (frzF f env) QD X ↔ Wr (f env) (frzQ QD) X := by unfold frzF Wr; cases f env <;> exact Iff.rfl
theorem wz_frzQ : frzQ QD d e ↔ QD d.fz e := Iff.rfl
theorem wz_asb : Wr (asB f env) QB X ↔ Wr (f env) (asbQ QB) X := by
  unfold asB Wr
  cases f env with
  | ok d e => cases d <;> exact Iff.rfl
  | ex => exact Iff.rfl
  | no => exact Iff.rfl
theorem wz_asbQ {b : Bool} : asbQ QB (.bl b) e ↔ QB b e := Iff.rfl
theorem wz_ofb : Wr (ofB cb env) QD X ↔ Wr (cb env) (ofbQ QD) X := by unfold ofB Wr; cases cb env <;> exact Iff.rfl
theorem wz_ofbQ {b : Bool} : ofbQ QD b e ↔ QD (.bl b) e := Iff.rfl
theorem wz_not : Wr (notB cb env) QB X ↔ Wr (cb env) (notQ QB) X := by unfold notB Wr; cases cb env <;> exact Iff.rfl
theorem wz_notQ {b : Bool} : notQ QB b e ↔ QB (!b) e := Iff.rfl
theorem wz_and : Wr (andB cb cb2 env) QB X ↔ Wr (cb env) (andQ cb2 QB X) X := by
  unfold andB Wr
  cases cb env with
  | ok b e => cases b <;> exact Iff.rfl
  | ex => exact Iff.rfl
  | no => exact Iff.rfl
theorem wz_andt : andQ cb QB X true e ↔ Wr (cb e) QB X := Iff.rfl
theorem wz_andf : andQ cb QB X false e ↔ QB false e := Iff.rfl
theorem wz_or : Wr (orB cb cb2 env) QB X ↔ Wr (cb env) (orQ cb2 QB X) X := by
  unfold orB Wr
  cases cb env with
  | ok b e => cases b <;> exact Iff.rfl
  | ex => exact Iff.rfl
  | no => exact Iff.rfl
theorem wz_ort : orQ cb QB X true e ↔ QB true e := Iff.rfl
theorem wz_orf : orQ cb QB X false e ↔ Wr (cb e) QB X := Iff.rfl
theorem wz_yes : Wr (yesB env) QB X ↔ QB true env := Iff.rfl
theorem wz_tru : Wr (truB f env) QB X ↔ Wr (f env) (truQ QB) X := by
  unfold truB Wr truQ
  cases f env with
  | ok d e => dsimp only; cases truD d <;> exact Iff.rfl
  | ex => exact Iff.rfl
  | no => exact Iff.rfl
def trR (Q : Bool → J.Env → Prop) (e : J.Env) : Option Bool → Prop := fun o => match o with
  | some b => Q b e
  | none => False
def tbP (Q : Bool → J.Env → Prop) (env : J.Env) : Option D → Prop := fun o => match o with
  | some d => trR Q env (truD d)
  | none => False
theorem wz_truQ : truQ QB d e ↔ trR QB e (truD d) := Iff.rfl
theorem wz_trR {b : Bool} : trR QB e (some b) ↔ QB b e := Iff.rfl
theorem wz_trub : Wr (truBB fb env) QB X ↔ tbP QB env (fb env) := by
  unfold truBB Wr tbP trR
  cases fb env with
  | none => exact Iff.rfl
  | some d => dsimp only; cases truD d <;> exact Iff.rfl
theorem wz_tbP : tbP QB env (some d) ↔ trR QB env (truD d) := Iff.rfl
theorem wz_ch {p p' : Int → Int → Bool} : Wr (chainF p p' f f2 f3 env) QD X ↔ Wr (f env) (chQ p p' f2 f3 QD X) X := by
  unfold chainF R.bind Wr chQ
  cases f env with
  | ok d e =>
    dsimp only
    unfold Wr
    cases f2 e with
    | ok y e2 =>
      cases d <;> try exact Iff.rfl
      cases y <;> try exact Iff.rfl
      rename_i i j
      dsimp only
      by_cases h : p i j = true
      · rw [if_pos h, if_pos h]
        cases f3 e2 with
        | ok z e3 => cases z <;> exact Iff.rfl
        | ex => exact Iff.rfl
        | no => exact Iff.rfl
      · rw [if_neg h, if_neg h]
    | ex => exact Iff.rfl
    | no => exact Iff.rfl
  | ex => exact Iff.rfl
  | no => exact Iff.rfl
theorem wz_chQ {p p' : Int → Int → Bool} : chQ p p' f2 f3 QD X d e ↔ Wr (f2 e) (chR p p' d f3 QD X) X := Iff.rfl
theorem wz_chR {p p' : Int → Int → Bool} {i j : Int} : chR p p' (.int i) f3 QD X (.int j) e ↔ if p i j = true then Wr (f3 e) (chS p' j QD) X else QD (.bl false) e := Iff.rfl
theorem wz_chS {p' : Int → Int → Bool} {k j : Int} : chS p' j QD (.int k) e ↔ QD (.bl (p' j k)) e := Iff.rfl
theorem wz_for {it : J.Env → R (List D)} : Wo (forO it g s env) Q ↔ Wr (it env) (forQ g s Q) (exQ Q) := by unfold forO Wo Wr; cases it env <;> exact Iff.rfl
theorem wz_forQ : forQ g s Q ds e ↔ Wo (forL g s ds e) Q := Iff.rfl
theorem wz_cmp {it : J.Env → R (List D)} {vs : List Nat} : Wr (compO it g cb f vs env) QD X ↔ Wr (it env) (cmpQ g cb f vs QD X) X := by
  unfold compO
  generalize it env = z
  cases z with
  | ok ds e =>
    have e1 : Wr (R.ok ds e) (cmpQ g cb f vs QD X) X ↔ (ds.length ≤ 1000000 ∧ Wr (compL g cb f vs [] ds (wipeE e vs)) QD X) := Iff.rfl
    rw [e1]
    dsimp only
    by_cases h : ds.length ≤ 1000000
    · rw [if_pos h]; exact ⟨fun z => ⟨h, z⟩, fun z => z.2⟩
    · rw [if_neg h]; exact ⟨fun z => False.elim z, fun z => absurd z.1 h⟩
  | ex => exact Iff.rfl
  | no => exact Iff.rfl
theorem wz_cmpQ {vs : List Nat} (h : ds.length ≤ 1000000) : cmpQ g cb f vs QD X ds e ↔ Wr (compL g cb f vs [] ds (wipeE e vs)) QD X := ⟨fun z => z.2, fun z => ⟨h, z⟩⟩
theorem wz_wipe0 : wipeE e [] = e := id rfl
theorem wz_wipe {v : Nat} {vs : List Nat} : wipeE e (v :: vs) = (wipeE e vs).set v none := id rfl
theorem wz_cmn {it : J.Env → R (List D)} {kw : KW} {vs : List Nat} : Wr (compNO it g cb kw vs env) QD X ↔ Wr (it env) (cmnQ g cb kw vs QD) X := by
  unfold compNO Wr cmnQ Wk mkQ
  cases it env with
  | ok ds e =>
    dsimp only
    cases loopW g cb kw vs ds [] (wipeE e vs) with
    | none => exact Iff.rfl
    | some q => exact Iff.rfl
  | ex => exact Iff.rfl
  | no => exact Iff.rfl
theorem wz_cmnQ {kw : KW} {vs : List Nat} : cmnQ g cb kw vs QD ds e ↔ Wk (loopW g cb kw vs ds [] (wipeE e vs)) (mkQ QD) := Iff.rfl
theorem wz_mkQ : mkQ QD xs e ↔ QD (.lst true xs) e := Iff.rfl
theorem wz_kn {it : J.Env → R (List D)} {kw : KW} {vs : List Nat} : Wk (kNextW it g cb kw vs xs env) QL ↔ Wr (it env) (knQ g cb kw vs xs QL) noX := by
  unfold kNextW Wr Wk knQ noX
  cases it env <;> exact Iff.rfl
theorem wz_knQ {kw : KW} {vs : List Nat} : knQ g cb kw vs xs QL ds e ↔ Wk (loopW g cb kw vs ds xs (wipeE e vs)) QL := Iff.rfl
theorem wz_kl : Wk (kLastW f xs env) QL ↔ Wr (f env) (klQ xs QL) noX := by
  unfold kLastW
  generalize f env = z
  cases z with
  | ok x e =>
    have e1 : Wr (R.ok x e) (klQ xs QL) noX ↔ (xs.length < 1000000 ∧ QL (xs ++ [x]) e) := Iff.rfl
    rw [e1]
    dsimp only
    by_cases h : xs.length < 1000000
    · rw [if_pos h]; exact ⟨fun z => ⟨h, z⟩, fun z => z.2⟩
    · rw [if_neg h]; exact ⟨fun z => False.elim z, fun z => absurd z.1 h⟩
  | ex => exact Iff.rfl
  | no => exact Iff.rfl
theorem wz_klQ (h : xs.length < 1000000) : klQ xs QL x e ↔ QL (xs ++ [x]) e := ⟨fun z => z.2, fun z => ⟨h, z⟩⟩
theorem wz_fld {nm : Str} : Wo (fldO c i nm f env) Q ↔ Wr (f env) (fldQ c i nm Q) (exQ Q) := by
  unfold fldO
  generalize f env = z
  cases z with
  | ok d e =>
    have e1 : Wr (R.ok d e) (fldQ c i nm Q) (exQ Q) ↔ fldQ c i nm Q d e := Iff.rfl
    rw [e1]
    unfold fldQ
    dsimp only
    generalize e[i]? = y
    cases y with
    | none => exact Iff.rfl
    | some y => cases y with
      | none => exact Iff.rfl
      | some y => cases y with
        | ins o c' ns ds => cases o with
          | false => exact Iff.rfl
          | true =>
            dsimp only
            by_cases h : c' = c ∧ ns.length < 900 ∧ d.noOwn = true
            · rw [if_pos h]; exact ⟨fun z => ⟨h, z⟩, fun z => z.2⟩
            · rw [if_neg h]; exact ⟨fun z => False.elim z, fun z => absurd z.1 h⟩
        | _ => exact Iff.rfl
  | ex => exact Iff.rfl
  | no => exact Iff.rfl
def fdR (c i : Nat) (f : Str) (Q : Out → Prop) (d : D) (e : J.Env) : Option (Option D) → Prop := fun o => match o with
  | some (some (.ins true c' ns ds)) => (c' = c ∧ ns.length < 900 ∧ d.noOwn = true) ∧ Q (.nx (e.set i (some (.ins true c (putN f ns) (putDs f d ns ds)))))
  | _ => False
theorem wz_fldQ {nm : Str} : fldQ c i nm Q d e ↔ fdR c i nm Q d e e[i]? := Iff.rfl
theorem wz_fdR {nm : Str} {cs : List Str} {c2 : Nat} : fdR c i nm Q d e (some (some (.ins true c2 cs ds))) ↔ ((c2 = c ∧ cs.length < 900 ∧ d.noOwn = true) ∧ Q (.nx (e.set i (some (.ins true c (putN nm cs) (putDs nm d cs ds)))))) := Iff.rfl
def auP (i : Nat) (op : Int → Int → Int) (f : J.Env → R D) (env : J.Env) (Q : Out → Prop) : Option (Option D) → Prop := fun o => match o with
  | some (some (.int a)) => Wr (f env) (augQ i op a Q) (exQ Q)
  | _ => False
theorem wz_aug {op : Int → Int → Int} : Wo (augO i op f env) Q ↔ auP i op f env Q env[i]? := by
  unfold augO auP
  cases env[i]? with
  | none => exact Iff.rfl
  | some z => cases z with
    | none => exact Iff.rfl
    | some z =>
      cases z <;> try exact Iff.rfl
      dsimp only
      cases f env with
      | ok d e => cases d <;> exact Iff.rfl
      | ex => exact Iff.rfl
      | no => exact Iff.rfl
theorem wz_auP {op : Int → Int → Int} {a : Int} : auP i op f env Q (some (some (.int a))) ↔ Wr (f env) (augQ i op a Q) (exQ Q) := Iff.rfl
theorem wz_augQ {op : Int → Int → Int} {a b : Int} : augQ i op a Q (.int b) e ↔ Q (.nx (e.set i (some (.int (op a b))))) := Iff.rfl
def apP (i : Nat) (f : J.Env → R D) (env : J.Env) (Q : Out → Prop) : Option (Option D) → Prop := fun o => match o with
  | some (some (.lst true _)) => Wr (f env) (apdQ i Q) (exQ Q)
  | _ => False
def apR (i : Nat) (Q : Out → Prop) (d : D) (e : J.Env) : Option (Option D) → Prop := fun o => match o with
  | some (some (.lst true xs)) => xs.length < 1000000 ∧ Q (.nx (e.set i (some (.lst true (xs ++ [d])))))
  | _ => False
theorem wz_apd : Wo (appO i f env) Q ↔ apP i f env Q env[i]? := by
  unfold appO apP
  cases env[i]? with
  | none => exact Iff.rfl
  | some z => cases z with
    | none => exact Iff.rfl
    | some z =>
      cases z <;> try exact Iff.rfl
      rename_i o ys
      cases o with
      | false => exact Iff.rfl
      | true =>
        dsimp only
        generalize f env = z
        cases z with
        | ok d e =>
          have e1 : Wr (R.ok d e) (apdQ i Q) (exQ Q) ↔ apdQ i Q d e := Iff.rfl
          rw [e1]
          unfold apdQ
          dsimp only
          generalize e[i]? = y
          cases y with
          | none => exact Iff.rfl
          | some y => cases y with
            | none => exact Iff.rfl
            | some y => cases y with
              | lst o zs => cases o with
                | false => exact Iff.rfl
                | true =>
                  dsimp only
                  by_cases h : zs.length < 1000000
                  · rw [if_pos h]; exact ⟨fun z => ⟨h, z⟩, fun z => z.2⟩
                  · rw [if_neg h]; exact ⟨fun z => False.elim z, fun z => absurd z.1 h⟩
              | _ => exact Iff.rfl
        | ex => exact Iff.rfl
        | no => exact Iff.rfl
theorem wz_apP : apP i f env Q (some (some (.lst true xs))) ↔ Wr (f env) (apdQ i Q) (exQ Q) := Iff.rfl
theorem wz_apdQ : apdQ i Q d e ↔ apR i Q d e e[i]? := Iff.rfl
theorem wz_apR (h : xs.length < 1000000) : apR i Q d e (some (some (.lst true xs))) ↔ Q (.nx (e.set i (some (.lst true (xs ++ [d]))))) := ⟨fun z => z.2, fun z => ⟨h, z⟩⟩
def exP (i : Nat) (f : J.Env → R D) (env : J.Env) (Q : Out → Prop) : Option (Option D) → Prop := fun o => match o with
  | some (some (.lst true _)) => Wr (f env) (extQ i Q) (exQ Q)
  | _ => False
def exR (i : Nat) (Q : Out → Prop) (zs : List D) (e : J.Env) : Option (Option D) → Prop := fun o => match o with
  | some (some (.lst true xs)) => (D.noOwnL zs && decide (xs.length + zs.length ≤ 1000000)) = true ∧ Q (.nx (e.set i (some (.lst true (xs ++ zs)))))
  | _ => False
theorem wz_ext : Wo (extO i f env) Q ↔ exP i f env Q env[i]? := by
  unfold extO exP
  cases env[i]? with
  | none => exact Iff.rfl
  | some z => cases z with
    | none => exact Iff.rfl
    | some z =>
      cases z <;> try exact Iff.rfl
      rename_i o ys
      cases o with
      | false => exact Iff.rfl
      | true =>
        dsimp only
        generalize f env = z
        cases z with
        | ok d e =>
          have e1 : Wr (R.ok d e) (extQ i Q) (exQ Q) ↔ extQ i Q d e := Iff.rfl
          rw [e1]
          unfold extQ
          cases d <;> try exact Iff.rfl
          rename_i o2 zs
          dsimp only
          generalize e[i]? = y
          cases y with
          | none => exact Iff.rfl
          | some y => cases y with
            | none => exact Iff.rfl
            | some y => cases y with
              | lst o ws => cases o with
                | false => exact Iff.rfl
                | true =>
                  dsimp only
                  by_cases h : (D.noOwnL zs && decide (ws.length + zs.length ≤ 1000000)) = true
                  · rw [if_pos h]; exact ⟨fun z => ⟨h, z⟩, fun z => z.2⟩
                  · rw [if_neg h]; exact ⟨fun z => False.elim z, fun z => absurd z.1 h⟩
              | _ => exact Iff.rfl
        | ex => exact Iff.rfl
        | no => exact Iff.rfl
theorem wz_exP : exP i f env Q (some (some (.lst true xs))) ↔ Wr (f env) (extQ i Q) (exQ Q) := Iff.rfl
theorem wz_extQ {ob : Bool} : extQ i Q (.lst ob ys) e ↔ exR i Q ys e e[i]? := by
  unfold extQ exR
  cases e[i]? with
  | none => exact Iff.rfl
  | some z => cases z with
    | none => exact Iff.rfl
    | some z =>
      cases z <;> try exact Iff.rfl
      rename_i o xs
      cases o <;> exact Iff.rfl
theorem wz_exR (h : xs.length + ys.length ≤ 1000000) : exR i Q ys e (some (some (.lst true xs))) ↔ (D.noOwnL ys = true ∧ Q (.nx (e.set i (some (.lst true (xs ++ ys)))))) := by
  unfold exR
  simp only [h, decide_true, Bool.and_true]
theorem wz_par {j : Nat} : Wo (parO i j af env) Q ↔ Wr (af env) (parQ i j Q) (exQ Q) := by
  unfold parO
  generalize af env = z
  cases z with
  | ok ds e =>
    have e1 : Wr (R.ok ds e) (parQ i j Q) (exQ Q) ↔ parQ i j Q ds e := Iff.rfl
    rw [e1]
    unfold parQ
    match ds with
    | [] => exact Iff.rfl
    | [_] => exact Iff.rfl
    | [a, b] =>
      dsimp only
      by_cases h : i < e.length ∧ j < e.length
      · rw [if_pos h]; exact ⟨fun z => ⟨h, z⟩, fun z => z.2⟩
      · rw [if_neg h]; exact ⟨fun z => False.elim z, fun z => absurd z.1 h⟩
    | _ :: _ :: _ :: _ => exact Iff.rfl
  | ex => exact Iff.rfl
  | no => exact Iff.rfl
theorem wz_parQ {j : Nat} (h : i < e.length) (h2 : j < e.length) : parQ i j Q [d, x] e ↔ Q (.nx ((e.set i (some d)).set j (some x))) := by
  unfold parQ
  simp only [h, h2, and_self, true_and]
def p1R (i : Nat) (d : D) (env : J.Env) (P : J.Env → Prop) (xs : List D) : Option Nat → Prop := fun o => match o with
  | some j => P (env.set i (some (.lst true (xs.set j d))))
  | none => False
def p1P (i : Nat) (d : D) (env : J.Env) (P : J.Env → Prop) : Option D → Option (Option D) → Prop := fun a b => match a, b with
  | some (.int k), some (some (.lst true xs)) => p1R i d env P xs (ixN xs.length k)
  | _, _ => False
theorem wz_put1 : Wg (put1G i fb d env) P ↔ p1P i d env P (fb env) env[i]? := by
  unfold put1G p1P p1R Wg
  cases fb env with
  | none => exact Iff.rfl
  | some y =>
    cases y <;> try exact Iff.rfl
    cases env[i]? with
    | none => exact Iff.rfl
    | some z => cases z with
      | none => exact Iff.rfl
      | some z =>
        cases z <;> try exact Iff.rfl
        rename_i o xs
        cases o with
        | false => exact Iff.rfl
        | true =>
          rename_i k
          dsimp only
          cases ixN xs.length k <;> exact Iff.rfl
theorem wz_p1P {k : Int} : p1P i d env P (some (.int k)) (some (some (.lst true xs))) ↔ p1R i d env P xs (ixN xs.length k) := Iff.rfl
theorem wz_p1R {j : Nat} : p1R i d env P xs (some j) ↔ P (env.set i (some (.lst true (xs.set j d)))) := Iff.rfl
def p2S (i : Nat) (d : D) (env : J.Env) (P : J.Env → Prop) (rows : List D) (ja : Nat) (xs : List D) : Option Nat → Prop := fun o => match o with
  | some j => P (env.set i (some (.lst true (rows.set ja (.lst true (xs.set j d))))))
  | none => False
def p2R (i : Nat) (b : Int) (d : D) (env : J.Env) (P : J.Env → Prop) (rows : List D) (ja : Nat) : Option D → Prop := fun o => match o with
  | some (.lst true xs) => p2S i d env P rows ja xs (ixN xs.length b)
  | _ => False
def p2Q (i : Nat) (b : Int) (d : D) (env : J.Env) (P : J.Env → Prop) (rows : List D) : Option Nat → Prop := fun o => match o with
  | some ja => p2R i b d env P rows ja rows[ja]?
  | none => False
def p2P (i : Nat) (d : D) (env : J.Env) (P : J.Env → Prop) : Option D → Option D → Option (Option D) → Prop := fun a b c => match a, b, c with
  | some (.int a), some (.int b), some (some (.lst true rows)) => p2Q i b d env P rows (ixN rows.length a)
  | _, _, _ => False
theorem wz_put2 : Wg (put2G i fb fb2 d env) P ↔ p2P i d env P (fb env) (fb2 env) env[i]? := by
  unfold put2G p2P p2Q p2R p2S Wg
  cases fb env with
  | none => exact Iff.rfl
  | some y =>
    cases y <;> try exact Iff.rfl
    cases fb2 env with
    | none => exact Iff.rfl
    | some y =>
      cases y <;> try exact Iff.rfl
      cases env[i]? with
      | none => exact Iff.rfl
      | some z => cases z with
        | none => exact Iff.rfl
        | some z =>
          cases z <;> try exact Iff.rfl
          rename_i k k2 o xs
          cases o with
          | false => exact Iff.rfl
          | true =>
            dsimp only
            cases ixN xs.length k with
            | none => exact Iff.rfl
            | some ja =>
              dsimp only
              cases xs[ja]? with
              | none => exact Iff.rfl
              | some y =>
                cases y <;> try exact Iff.rfl
                rename_i o ys
                cases o with
                | false => exact Iff.rfl
                | true => dsimp only; cases ixN ys.length k2 <;> exact Iff.rfl
theorem wz_p2P {k k2 : Int} : p2P i d env P (some (.int k)) (some (.int k2)) (some (some (.lst true xs))) ↔ p2Q i k2 d env P xs (ixN xs.length k) := Iff.rfl
theorem wz_p2Q {k : Int} {j : Nat} : p2Q i k d env P xs (some j) ↔ p2R i k d env P xs j xs[j]? := Iff.rfl
theorem wz_p2R {k : Int} {j : Nat} : p2R i k d env P xs j (some (.lst true ys)) ↔ p2S i d env P xs j ys (ixN ys.length k) := Iff.rfl
theorem wz_p2S {j k : Nat} : p2S i d env P xs j ys (some k) ↔ P (env.set i (some (.lst true (xs.set j (.lst true (ys.set k d)))))) := Iff.rfl
def psP (i : Nat) (env : J.Env) (P : J.Env → Prop) (ys : List D) : Option D → Option D → Option (Option D) → Prop := fun a b c => match a, b, c with
  | some (.int a), some (.int c), some (some (.lst true xs)) => (D.noOwnL ys && (D.noOwnL xs && (decide (0 ≤ a) && (decide (a ≤ c) && (decide (c ≤ xs.length) && decide (xs.length + ys.length ≤ 1000000)))))) = true ∧ P (env.set i (some (.lst true (xs.take a.toNat ++ ys ++ xs.drop c.toNat))))
  | _, _, _ => False
theorem wz_putS {o : Bool} : Wg (putSG i fb fb2 (.lst o ys) env) P ↔ psP i env P ys (fb env) (fb2 env) env[i]? := by
  unfold putSG psP Wg
  cases fb env with
  | none => exact Iff.rfl
  | some y =>
    cases y <;> try exact Iff.rfl
    cases fb2 env with
    | none => exact Iff.rfl
    | some y =>
      cases y <;> try exact Iff.rfl
      cases env[i]? with
      | none => exact Iff.rfl
      | some z => cases z with
        | none => exact Iff.rfl
        | some z =>
          cases z <;> try exact Iff.rfl
          rename_i a c o2 xs
          cases o2 with
          | false => exact Iff.rfl
          | true =>
            dsimp only
            by_cases h : (D.noOwnL ys && (D.noOwnL xs && (decide (0 ≤ a) && (decide (a ≤ c) && (decide (c ≤ xs.length) && decide (xs.length + ys.length ≤ 1000000)))))) = true
            · rw [if_pos h]; exact ⟨fun z => ⟨h, z⟩, fun z => z.2⟩
            · rw [if_neg h]; exact ⟨fun z => False.elim z, fun z => absurd z.1 h⟩
theorem wz_psP {a b : Int} (a0 : 0 ≤ a) (ab : a ≤ b) (bl : b ≤ xs.length) (hl : xs.length + ys.length ≤ 1000000) : psP i env P ys (some (.int a)) (some (.int b)) (some (some (.lst true xs))) ↔ ((D.noOwnL ys = true ∧ D.noOwnL xs = true) ∧ P (env.set i (some (.lst true (xs.take a.toNat ++ ys ++ xs.drop b.toNat))))) := by
  unfold psP
  simp only [a0, ab, bl, hl, decide_true, Bool.and_true, Bool.and_eq_true]
theorem wz_li : Wr (lstI f env) QL X ↔ Wr (f env) (liQ QL) X := by
  unfold lstI Wr liQ
  cases f env with
  | ok d e => cases d <;> exact Iff.rfl
  | ex => exact Iff.rfl
  | no => exact Iff.rfl
theorem wz_liQ {o : Bool} : liQ QL (.lst o xs) e ↔ QL (D.fzL xs) e := Iff.rfl
theorem wz_ti : Wr (tupI f env) QL X ↔ Wr (f env) (tiQ QL) X := by
  unfold tupI Wr tiQ
  cases f env with
  | ok d e => cases d <;> exact Iff.rfl
  | ex => exact Iff.rfl
  | no => exact Iff.rfl
theorem wz_tiQ : tiQ QL (.tup xs) e ↔ QL (D.fzL xs) e := Iff.rfl
theorem wz_en {k : Int} : Wr (enumI k af env) QL X ↔ Wr (af env) (enQ k QL) X := by
  unfold enumI Wr enQ
  cases af env with
  | ok ds e => match ds with
    | [] => exact Iff.rfl
    | [d] => cases d <;> exact Iff.rfl
    | d :: _ :: _ => cases d <;> exact Iff.rfl
  | ex => exact Iff.rfl
  | no => exact Iff.rfl
theorem wz_enQ {k : Int} {o : Bool} : enQ k QL [.lst o xs] e ↔ QL (enumD k (D.fzL xs)) e := Iff.rfl
theorem wz_r1 : Wr (rng1I af env) QL X ↔ Wr (af env) (r1Q QL) X := by
  unfold rng1I
  generalize af env = z
  cases z with
  | ok ds e =>
    have e1 : Wr (R.ok ds e) (r1Q QL) X ↔ r1Q QL ds e := Iff.rfl
    rw [e1]
    unfold r1Q
    match ds with
    | [] => exact Iff.rfl
    | [d] =>
      cases d <;> try exact Iff.rfl
      rename_i j
      dsimp only
      by_cases h : -(2 ^ 62) ≤ j ∧ j < 2 ^ 62
      · rw [if_pos h]; exact ⟨fun z => ⟨h, z⟩, fun z => z.2⟩
      · rw [if_neg h]; exact ⟨fun z => False.elim z, fun z => absurd z.1 h⟩
    | d :: _ :: _ => cases d <;> exact Iff.rfl
  | ex => exact Iff.rfl
  | no => exact Iff.rfl
theorem wz_r1Q {j : Int} (h : -1000000000 ≤ j) (h2 : j ≤ 1000000000) : r1Q QL [.int j] e ↔ QL (rngD 0 j.toNat) e := by
  have : -(2 ^ 62) ≤ j ∧ j < 2 ^ 62 := by omega
  exact ⟨fun z => z.2, fun z => ⟨this, z⟩⟩
theorem wz_r2 : Wr (rng2I af env) QL X ↔ Wr (af env) (r2Q QL) X := by
  unfold rng2I
  generalize af env = z
  cases z with
  | ok ds e =>
    have e1 : Wr (R.ok ds e) (r2Q QL) X ↔ r2Q QL ds e := Iff.rfl
    rw [e1]
    unfold r2Q
    match ds with
    | [] => exact Iff.rfl
    | [d] => cases d <;> exact Iff.rfl
    | [d, d2] =>
      cases d <;> try exact Iff.rfl
      cases d2 <;> try exact Iff.rfl
      rename_i i j
      dsimp only
      by_cases h : -(2 ^ 62) ≤ i ∧ i < 2 ^ 62 ∧ -(2 ^ 62) ≤ j ∧ j < 2 ^ 62
      · rw [if_pos h]; exact ⟨fun z => ⟨h, z⟩, fun z => z.2⟩
      · rw [if_neg h]; exact ⟨fun z => False.elim z, fun z => absurd z.1 h⟩
    | d :: d2 :: _ :: _ => cases d <;> cases d2 <;> exact Iff.rfl
  | ex => exact Iff.rfl
  | no => exact Iff.rfl
theorem wz_r2Q {i j : Int} (h0 : -1000000000 ≤ i) (h1 : i ≤ 1000000000) (h : -1000000000 ≤ j) (h2 : j ≤ 1000000000) : r2Q QL [.int i, .int j] e ↔ QL (rngD i (j - i).toNat) e := by
  have : -(2 ^ 62) ≤ i ∧ i < 2 ^ 62 ∧ -(2 ^ 62) ≤ j ∧ j < 2 ^ 62 := by omega
  exact ⟨fun z => z.2, fun z => ⟨this, z⟩⟩
theorem wz_zi : Wr (zipI af env) QL X ↔ Wr (af env) (ziQ QL) X := by
  unfold zipI Wr ziQ
  cases af env with
  | ok ds e => match ds with
    | [] => exact Iff.rfl
    | [d] => cases d <;> exact Iff.rfl
    | [d, d2] => cases d <;> cases d2 <;> exact Iff.rfl
    | d :: d2 :: _ :: _ => cases d <;> cases d2 <;> exact Iff.rfl
  | ex => exact Iff.rfl
  | no => exact Iff.rfl
theorem wz_ziQ {o o2 : Bool} : ziQ QL [.lst o xs, .lst o2 ys] e ↔ QL (zipD (D.fzL xs) (D.fzL ys)) e := Iff.rfl
theorem wz_asi : Wr (asI f env) QD X ↔ Wr (f env) (asiQ QD) X := by
  unfold asI Wr asiQ
  cases f env with
  | ok d e => cases d <;> exact Iff.rfl
  | ex => exact Iff.rfl
  | no => exact Iff.rfl
theorem wz_asiQ {k : Int} : asiQ QD (.int k) e ↔ QD (.int k) e := Iff.rfl
theorem wz_sl {lo hi : J.Env → R D} : Wr (slF f lo hi env) QD X ↔ Wr (f env) (sl1Q lo hi QD X) X := by
  unfold slF R.bind Wr sl1Q Wr Wd
  cases f env with
  | ok d e =>
    dsimp only
    cases lo e with
    | ok l e2 =>
      dsimp only
      cases hi e2 with
      | ok u e3 => dsimp only; cases slD d l u <;> exact Iff.rfl
      | ex => exact Iff.rfl
      | no => exact Iff.rfl
    | ex => exact Iff.rfl
    | no => exact Iff.rfl
  | ex => exact Iff.rfl
  | no => exact Iff.rfl
theorem wz_sl1 {lo hi : J.Env → R D} : sl1Q lo hi QD X d e ↔ Wr (lo e) (sl2Q d hi QD X) X := Iff.rfl
theorem wz_sl2 {hi : J.Env → R D} {l : D} : sl2Q d hi QD X l e ↔ Wr (hi e) (sl3Q d l QD) X := Iff.rfl
theorem wz_sl3 {l u : D} : sl3Q d l QD u e ↔ Wd (slD d l u) (atQ QD e) := Iff.rfl
theorem wz_lr1 : Wr (lrgF1 f env) QD X ↔ Wr (f env) (lrQ QD) X := by
  unfold lrgF1
  generalize f env = z
  cases z with
  | ok d e =>
    have e1 : Wr (R.ok d e) (lrQ QD) X ↔ lrQ QD d e := Iff.rfl
    rw [e1]
    unfold lrQ
    cases d <;> try exact Iff.rfl
    rename_i n
    dsimp only
    by_cases h : n ≤ 10000 ∧ 0 ≤ n
    · rw [if_pos h]; exact ⟨fun z => ⟨h, z⟩, fun z => z.2⟩
    · rw [if_neg h]; exact ⟨fun z => False.elim z, fun z => absurd z.1 h⟩
  | ex => exact Iff.rfl
  | no => exact Iff.rfl
theorem wz_lrQ {n : Int} (h : 0 ≤ n) (h2 : n ≤ 10000) : lrQ QD (.int n) e ↔ QD (.lst true (rgD 0 n)) e := ⟨fun z => z.2, fun z => ⟨⟨h2, h⟩, z⟩⟩
theorem wz_pop : Wr (popF i env) QD X ↔ popQ i env QD env[i]? := by
  unfold popF Wr popQ
  cases env[i]? with
  | none => exact Iff.rfl
  | some z => cases z with
    | none => exact Iff.rfl
    | some d =>
      cases d <;> try exact Iff.rfl
      rename_i o xs
      cases o with
      | false => exact Iff.rfl
      | true => dsimp only; cases xs[xs.length - 1]? <;> exact Iff.rfl
def poR (i : Nat) (env : J.Env) (Q : D → J.Env → Prop) (xs : List D) : Option D → Prop := fun o => match o with
  | some x => Q x (env.set i (some (.lst true (xs.eraseIdx (xs.length - 1)))))
  | none => False
theorem wz_popQ : popQ i env QD (some (some (.lst true xs))) ↔ poR i env QD xs xs[xs.length - 1]? := Iff.rfl
theorem wz_poR : poR i env QD xs (some d) ↔ QD d (env.set i (some (.lst true (xs.eraseIdx (xs.length - 1))))) := Iff.rfl
theorem wz_def {kp : List Nat} {l : Nat} : Wr (defF n kp l s ds) QD X ↔ Wo (s (ds.map some ++ List.replicate l none)) (defQ n kp QD X) := by
  unfold defF Wr Wo defQ
  cases s (ds.map some ++ List.replicate l none) <;> exact Iff.rfl
theorem wz_defn {kp : List Nat} : defQ n kp QD X (.nx e) ↔ QD .non (outsOf n kp e) := Iff.rfl
theorem wz_defr {kp : List Nat} : defQ n kp QD X (.rt r e) ↔ QD r (outsOf n kp e) := Iff.rfl
theorem wz_defx {kp : List Nat} {vs : List D} {c2 : Nat} : defQ n kp QD X (.ex c2 ns vs e) ↔ X c2 ns vs (outsOf n kp e) := Iff.rfl
theorem wz_lpn : loopQ P Q (.nx e) ↔ P e := Iff.rfl
theorem wz_lpc : loopQ P Q (.ct e) ↔ P e := Iff.rfl
theorem wz_lpb : loopQ P Q (.bk e) ↔ Q (.nx e) := Iff.rfl
theorem wz_lpr : loopQ P Q (.rt r e) ↔ Q (.rt r e) := Iff.rfl
theorem wz_lpx {vs : List D} : loopQ P Q (.ex c ns vs e) ↔ Q (.ex c ns vs e) := Iff.rfl
theorem wz_bod : bodQ s P Q e ↔ Wo (s e) (loopQ P Q) := Iff.rfl
/-! exceptions -/
def raS (c : Nat) (ns : List Str) (e : J.Env) (Q : Out → Prop) : Option (List D) → Prop := fun o => match o with
  | some xs => Q (.ex c ns xs e)
  | none => False
def raQ (c : Nat) (ns : List Str) (g : List D → Option (List D)) (Q : Out → Prop) : List D → J.Env → Prop := fun ds e => D.noOwnL ds = true ∧ raS c ns e Q (g ds)
theorem wz_raise {g : List D → Option (List D)} : Wo (raiseO c ns g af env) Q ↔ Wr (af env) (raQ c ns g Q) (exQ Q) := by
  unfold raiseO
  generalize af env = z
  cases z with
  | ok ds e =>
    have e1 : Wr (R.ok ds e) (raQ c ns g Q) (exQ Q) ↔ (D.noOwnL ds = true ∧ raS c ns e Q (g ds)) := Iff.rfl
    rw [e1]
    dsimp only
    by_cases h : D.noOwnL ds = true
    · rw [if_pos h]
      cases g ds with
      | none => exact ⟨fun z => False.elim z, fun z => z.2⟩
      | some xs => exact ⟨fun z => ⟨h, z⟩, fun z => z.2⟩
    · rw [if_neg h]; exact ⟨fun z => False.elim z, fun z => absurd z.1 h⟩
  | ex => exact Iff.rfl
  | no => exact Iff.rfl
theorem wz_raQ {g : List D → Option (List D)} : raQ c ns g Q ds e ↔ (D.noOwnL ds = true ∧ raS c ns e Q (g ds)) := Iff.rfl
theorem wz_raS : raS c ns e Q (some xs) ↔ Q (.ex c ns xs e) := Iff.rfl
theorem wz_gF1 {txt : Str} : gF1 txt [d] = some [d, .str txt] := id rfl
theorem wz_gB1 {y : Str} : gB1 [.str y] = some [.non, .str y] := id rfl
theorem wz_gB2 {y : Str} : gB2 [.str y, d] = some [d, .str y] := id rfl
theorem wz_gW {y : Str} : gW [.str y] = some [.str y] := id rfl
def toQ (m : List (Nat × Bool)) (hd : J.Env → Out) (Q : Out → Prop) : Out → Prop := fun o => match o with
  | .ex c ns vs e => (match m.lookup c with
    | some true => Wo (hd e) (fun o => match o with | .ex _ _ _ _ => False | o => Q o)
    | some false => Q (.ex c ns vs e)
    | none => False)
  | o => Q o
def toR (Q : Out → Prop) : Out → Prop := fun o => match o with | .ex _ _ _ _ => False | o => Q o
theorem wz_tryO {m : List (Nat × Bool)} {hd : J.Env → Out} : Wo (tryOnlyO m s hd env) Q ↔ Wo (s env) (toQ m hd Q) := by
  unfold tryOnlyO
  cases s env with
  | ex c ns vs e =>
    have e1 : Wo (.ex c ns vs e) (toQ m hd Q) ↔ toQ m hd Q (.ex c ns vs e) := Iff.rfl
    rw [e1]
    unfold toQ
    dsimp only
    cases m.lookup c with
    | none => exact Iff.rfl
    | some b => cases b with
      | true => dsimp only; cases hd e <;> exact Iff.rfl
      | false => exact Iff.rfl
  | _ => exact Iff.rfl
theorem wz_tyT {m : List (Nat × Bool)} {hd : J.Env → Out} {vs : List D} (h : m.lookup c = some true) : toQ m hd Q (.ex c ns vs e) ↔ Wo (hd e) (toR Q) := by
  unfold toQ toR
  simp only [h]
theorem wz_tyF {m : List (Nat × Bool)} {hd : J.Env → Out} {vs : List D} (h : m.lookup c = some false) : toQ m hd Q (.ex c ns vs e) ↔ Q (.ex c ns vs e) := by
  unfold toQ
  simp only [h]
theorem wz_tyn {m : List (Nat × Bool)} {hd : J.Env → Out} : toQ m hd Q (.nx e) ↔ Q (.nx e) := Iff.rfl
theorem wz_tyr {m : List (Nat × Bool)} {hd : J.Env → Out} : toQ m hd Q (.rt r e) ↔ Q (.rt r e) := Iff.rfl
theorem wz_tyRn : toR Q (.nx e) ↔ Q (.nx e) := Iff.rfl
theorem wz_tyRr : toR Q (.rt r e) ↔ Q (.rt r e) := Iff.rfl
def outQ (i : Nat) (Q : Out → Prop) : Out → Prop := fun o => match o with
  | .nx e => noXE (e.set i none) = true ∧ Q (.nx (e.set i none))
  | .bk e => noXE (e.set i none) = true ∧ Q (.bk (e.set i none))
  | .ct e => noXE (e.set i none) = true ∧ Q (.ct (e.set i none))
  | .rt r e => (r.noX && noXE (e.set i none)) = true ∧ Q (.rt r (e.set i none))
  | _ => False
theorem wz_out {i : Nat} {o : Out} : Wo (outX i o) Q ↔ Wo o (outQ i Q) := by
  unfold outX
  cases o with
  | nx e =>
    have e1 : Wo (.nx e) (outQ i Q) ↔ (noXE (e.set i none) = true ∧ Q (.nx (e.set i none))) := Iff.rfl
    rw [e1]
    dsimp only
    by_cases h : noXE (e.set i none) = true
    · rw [if_pos h]; exact ⟨fun z => ⟨h, z⟩, fun z => z.2⟩
    · rw [if_neg h]; exact ⟨fun z => False.elim z, fun z => absurd z.1 h⟩
  | bk e =>
    have e1 : Wo (.bk e) (outQ i Q) ↔ (noXE (e.set i none) = true ∧ Q (.bk (e.set i none))) := Iff.rfl
    rw [e1]
    dsimp only
    by_cases h : noXE (e.set i none) = true
    · rw [if_pos h]; exact ⟨fun z => ⟨h, z⟩, fun z => z.2⟩
    · rw [if_neg h]; exact ⟨fun z => False.elim z, fun z => absurd z.1 h⟩
  | ct e =>
    have e1 : Wo (.ct e) (outQ i Q) ↔ (noXE (e.set i none) = true ∧ Q (.ct (e.set i none))) := Iff.rfl
    rw [e1]
    dsimp only
    by_cases h : noXE (e.set i none) = true
    · rw [if_pos h]; exact ⟨fun z => ⟨h, z⟩, fun z => z.2⟩
    · rw [if_neg h]; exact ⟨fun z => False.elim z, fun z => absurd z.1 h⟩
  | rt r e =>
    have e1 : Wo (.rt r e) (outQ i Q) ↔ ((r.noX && noXE (e.set i none)) = true ∧ Q (.rt r (e.set i none))) := Iff.rfl
    rw [e1]
    dsimp only
    by_cases h : (r.noX && noXE (e.set i none)) = true
    · rw [if_pos h]; exact ⟨fun z => ⟨h, z⟩, fun z => z.2⟩
    · rw [if_neg h]; exact ⟨fun z => False.elim z, fun z => absurd z.1 h⟩
  | _ => exact Iff.rfl
def taR (i : Nat) (hd : List Str → List D → J.Env → Out) (Q : Out → Prop) (ns : List Str) (vs : List D) (e : J.Env) : Prop := i < e.length ∧ (D.noXL vs && noXE (e.set i none)) = true ∧ Wo (hd ns vs (e.set i (some .exc))) (outQ i Q)
def taQ (m : List (Nat × Bool)) (i : Nat) (hd : Nat → List Str → List D → J.Env → Out) (Q : Out → Prop) : Out → Prop := fun o => match o with
  | .ex c ns vs e => (match m.lookup c with
    | some true => taR i (hd c) Q ns vs e
    | some false => Q (.ex c ns vs e)
    | none => False)
  | o => Q o
theorem wz_tryA {m : List (Nat × Bool)} {hd : Nat → List Str → List D → J.Env → Out} : Wo (tryAsO m i s hd env) Q ↔ Wo (s env) (taQ m i hd Q) := by
  unfold tryAsO
  cases s env with
  | ex c ns vs e =>
    have e1 : Wo (.ex c ns vs e) (taQ m i hd Q) ↔ taQ m i hd Q (.ex c ns vs e) := Iff.rfl
    rw [e1]
    unfold taQ taR
    dsimp only
    cases m.lookup c with
    | none => exact Iff.rfl
    | some b => cases b with
      | true =>
        dsimp only
        by_cases h1 : i < e.length
        · rw [if_pos h1]
          by_cases h2 : (D.noXL vs && noXE (e.set i none)) = true
          · rw [if_pos h2, wz_out]; exact ⟨fun z => ⟨h1, h2, z⟩, fun z => z.2.2⟩
          · rw [if_neg h2]; exact ⟨fun z => False.elim z, fun z => absurd z.2.1 h2⟩
        · rw [if_neg h1]; exact ⟨fun z => False.elim z, fun z => absurd z.1 h1⟩
      | false => exact Iff.rfl
  | _ => exact Iff.rfl
theorem wz_taT {m : List (Nat × Bool)} {hd : Nat → List Str → List D → J.Env → Out} {vs : List D} (h : m.lookup c = some true) : taQ m i hd Q (.ex c ns vs e) ↔ taR i (hd c) Q ns vs e := by
  unfold taQ
  simp only [h]
theorem wz_taF {m : List (Nat × Bool)} {hd : Nat → List Str → List D → J.Env → Out} {vs : List D} (h : m.lookup c = some false) : taQ m i hd Q (.ex c ns vs e) ↔ Q (.ex c ns vs e) := by
  unfold taQ
  simp only [h]
theorem wz_tan {m : List (Nat × Bool)} {hd : Nat → List Str → List D → J.Env → Out} : taQ m i hd Q (.nx e) ↔ Q (.nx e) := Iff.rfl
theorem wz_tar {m : List (Nat × Bool)} {hd : Nat → List Str → List D → J.Env → Out} : taQ m i hd Q (.rt r e) ↔ Q (.rt r e) := Iff.rfl
theorem wz_taR {hd : List Str → List D → J.Env → Out} {vs : List D} (h : i < e.length) : taR i hd Q ns vs e ↔ ((D.noXL vs && noXE (e.set i none)) = true ∧ Wo (hd ns vs (e.set i (some .exc))) (outQ i Q)) := ⟨fun z => z.2, fun z => ⟨h, z⟩⟩
theorem wz_oun : outQ i Q (.nx e) ↔ (noXE (e.set i none) = true ∧ Q (.nx (e.set i none))) := Iff.rfl
theorem wz_our : outQ i Q (.rt r e) ↔ ((r.noX && noXE (e.set i none)) = true ∧ Q (.rt r (e.set i none))) := Iff.rfl
def xfQ (env : J.Env) (ns : List Str) (ds : List D) (f : Str) (Q : D → J.Env → Prop) : Option (Option D) → Prop := fun o => match o with
  | some (some .exc) => Wd (lookD ns ds f) fun d => Q d env
  | _ => False
theorem wz_xf {f : Str} : Wr (xfF i f ns ds env) QD X ↔ xfQ env ns ds f QD env[i]? := by
  unfold xfF xfQ Wr Wd
  cases env[i]? with
  | none => exact Iff.rfl
  | some z => cases z with
    | none => exact Iff.rfl
    | some d =>
      cases d <;> try exact Iff.rfl
      dsimp only
      cases lookD ns ds f <;> exact Iff.rfl
theorem wz_xfQ {f : Str} : xfQ env ns ds f QD (some (some .exc)) ↔ Wd (lookD ns ds f) (atQ QD env) := Iff.rfl
theorem wz_noXn : noXE (none :: e) = noXE e := id rfl
theorem wz_noXs : noXE (some d :: e) = (d.noX && noXE e) := id rfl
theorem wz_noX0 : noXE [] = true := id rfl
/-! loops, by an invariant -/
theorem W_for0 (I : Nat → J.Env → Prop) : ∀ (ds : List D) (k : Nat) (e : J.Env), I k e → (∀ i d e, ds[i]? = some d → I (k + i) e → Wg (g d e) (bodQ s (I (k + i + 1)) Q)) → (∀ e, I (k + ds.length) e → Q (.nx e)) → Wo (forL g s ds e) Q
  | [], k, e, h0, _, hq => hq e h0
  | d :: ds, k, e, h0, hs, hq => by
    have h1 := hs 0 d e rfl h0
    have ih := fun e2 (h : I (k + 1) e2) => W_for0 I ds (k + 1) e2 h (fun i d e hi hI => by
      have := hs (i + 1) d e (by simpa using hi) (by rw [show k + (i + 1) = k + 1 + i by omega]; exact hI)
      rw [show k + (i + 1) + 1 = k + 1 + i + 1 by omega] at this
      exact this) (fun e h => hq e (by rw [List.length_cons, show k + (ds.length + 1) = k + 1 + ds.length by omega]; exact h))
    unfold Wg bodQ at h1
    unfold Wo
    simp only [forL]
    cases hg : g d e with
    | none => rw [hg] at h1; exact h1
    | some e1 =>
      rw [hg] at h1
      dsimp only at h1 ⊢
      unfold Wo at h1
      cases hb : s e1 with
      | nx e2 => rw [hb] at h1; exact ih e2 h1
      | ct e2 => rw [hb] at h1; exact ih e2 h1
      | bk e2 => rw [hb] at h1; exact h1
      | rt r e2 => rw [hb] at h1; exact h1
      | ex c ns vs e2 => rw [hb] at h1; exact h1
      | no => rw [hb] at h1; exact h1
theorem W_for (I : Nat → J.Env → Prop) (h0 : I 0 e) (hs : ∀ i d e, ds[i]? = some d → I i e → Wg (g d e) (bodQ s (I (i + 1)) Q)) (hq : ∀ e, I ds.length e → Q (.nx e)) : Wo (forL g s ds e) Q :=
  W_for0 I ds 0 e h0 (fun i d e hi hI => by rw [Nat.zero_add] at hI ⊢; exact hs i d e hi hI) (fun e h => hq e (by rw [Nat.zero_add] at h; exact h))
def whQ (s : J.Env → Out) (P : J.Env → Prop) (Q : Out → Prop) : Bool → J.Env → Prop := fun b e => match b with
  | true => Wo (s e) (loopQ P Q)
  | false => Q (.nx e)
theorem wz_wht : whQ s P Q true e ↔ Wo (s e) (loopQ P Q) := Iff.rfl
theorem wz_whf : whQ s P Q false e ↔ Q (.nx e) := Iff.rfl
theorem W_while (I : Nat → J.Env → Prop) (hs : ∀ k e, I k e → Wr (cb e) (whQ s (fun e2 => ∃ j, j < k ∧ I j e2) Q) (exQ Q)) : ∀ (k : Nat) (e : J.Env) (m : Nat), I k e → k < m → Wo (whileL cb s m e) Q := by
  intro k e m
  induction m generalizing k e with
  | zero => exact fun _ h => absurd h (by omega)
  | succ m ih =>
    intro hI hm
    have h1 := hs k e hI
    unfold Wo
    simp only [whileL]
    unfold Wr at h1
    cases hc : cb e with
    | ok b e1 =>
      rw [hc] at h1
      cases b with
      | false => exact h1
      | true =>
        have h2 : Wo (s e1) (loopQ (fun e2 => ∃ j, j < k ∧ I j e2) Q) := h1
        unfold Wo at h2
        dsimp only
        cases hb : s e1 with
        | nx e2 => rw [hb] at h2; obtain ⟨j, hj, hI2⟩ := h2; exact ih j e2 hI2 (by omega)
        | ct e2 => rw [hb] at h2; obtain ⟨j, hj, hI2⟩ := h2; exact ih j e2 hI2 (by omega)
        | bk e2 => rw [hb] at h2; exact h2
        | rt r e2 => rw [hb] at h2; exact h2
        | ex c ns vs e2 => rw [hb] at h2; exact h2
        | no => rw [hb] at h2; exact h2
    | ex c ns vs e1 => rw [hc] at h1; exact h1
    | no => rw [hc] at h1; exact h1
/-- a comprehension's body -/
def cbQ (c : J.Env → R Bool) (f : J.Env → R D) (vs : List Nat) (N : J.Env → Prop) (S : D → J.Env → Prop) : J.Env → Prop := fun e => Wr (c e) (fun b e2 => match b with
  | true => Wr (f e2) (fun x e3 => S x (wipeE e3 vs)) noX
  | false => N (wipeE e2 vs)) noX
def cbR (f : J.Env → R D) (vs : List Nat) (N : J.Env → Prop) (S : D → J.Env → Prop) : Bool → J.Env → Prop := fun b e2 => match b with
  | true => Wr (f e2) (fun x e3 => S x (wipeE e3 vs)) noX
  | false => N (wipeE e2 vs)
def cbS (vs : List Nat) (S : D → J.Env → Prop) : D → J.Env → Prop := fun x e3 => S x (wipeE e3 vs)
theorem wz_cb {vs : List Nat} {S : D → J.Env → Prop} : cbQ cb f vs P S e ↔ Wr (cb e) (cbR f vs P S) noX := Iff.rfl
theorem wz_cbt {vs : List Nat} {S : D → J.Env → Prop} : cbR f vs P S true e ↔ Wr (f e) (cbS vs S) noX := Iff.rfl
theorem wz_cbf {vs : List Nat} {S : D → J.Env → Prop} : cbR f vs P S false e ↔ P (wipeE e vs) := Iff.rfl
theorem wz_cbS {vs : List Nat} {S : D → J.Env → Prop} : cbS vs S d e ↔ S d (wipeE e vs) := Iff.rfl
theorem W_comp0 {vs : List Nat} (I : Nat → List D → J.Env → Prop) : ∀ (ds acc : List D) (k : Nat) (e : J.Env), I k acc e → (∀ i d acc e, ds[i]? = some d → I (k + i) acc e → Wg (g d e) (cbQ cb f vs (I (k + i + 1) acc) (fun x => I (k + i + 1) (acc ++ [x])))) → (∀ acc e, I (k + ds.length) acc e → QD (.lst true acc) e) → Wr (compL g cb f vs acc ds e) QD X
  | [], acc, k, e, h0, _, hq => hq acc e h0
  | d :: ds, acc, k, e, h0, hs, hq => by
    have h1 := hs 0 d acc e rfl h0
    have ih := fun acc2 e2 (h : I (k + 1) acc2 e2) => W_comp0 I ds acc2 (k + 1) e2 h (fun i d acc e hi hI => by
      have := hs (i + 1) d acc e (by simpa using hi) (by rw [show k + (i + 1) = k + 1 + i by omega]; exact hI)
      rw [show k + (i + 1) + 1 = k + 1 + i + 1 by omega] at this
      exact this) (fun acc e h => hq acc e (by rw [List.length_cons, show k + (ds.length + 1) = k + 1 + ds.length by omega]; exact h))
    unfold Wg cbQ Wr at h1
    simp only [compL]
    cases hg : g d e with
    | none => rw [hg] at h1; exact False.elim h1
    | some e1 =>
      rw [hg] at h1
      dsimp only at h1 ⊢
      cases hb : cb e1 with
      | ok b e2 =>
        rw [hb] at h1
        cases b with
        | true =>
          dsimp only at h1 ⊢
          cases hf : f e2 with
          | ok x e3 => rw [hf] at h1; exact ih _ _ h1
          | ex => rw [hf] at h1; exact False.elim h1
          | no => rw [hf] at h1; exact False.elim h1
        | false => exact ih _ _ h1
      | ex => rw [hb] at h1; exact False.elim h1
      | no => rw [hb] at h1; exact False.elim h1
theorem W_comp {vs : List Nat} (I : Nat → List D → J.Env → Prop) (h0 : I 0 [] e) (hs : ∀ i d acc e, ds[i]? = some d → I i acc e → Wg (g d e) (cbQ cb f vs (I (i + 1) acc) (fun x => I (i + 1) (acc ++ [x])))) (hq : ∀ acc e, I ds.length acc e → QD (.lst true acc) e) : Wr (compL g cb f vs [] ds e) QD X :=
  W_comp0 I ds [] 0 e h0 (fun i d acc e hi hI => by rw [Nat.zero_add] at hI ⊢; exact hs i d acc e hi hI) (fun acc e h => hq acc e (by rw [Nat.zero_add] at h; exact h))
/-- the body of a comprehension of more fors -/
def ckQ (c : J.Env → R Bool) (kw : KW) (acc : List D) (vs : List Nat) (N : J.Env → Prop) (S : List D → J.Env → Prop) : J.Env → Prop := fun e => Wr (c e) (fun b e2 => match b with
  | true => Wk (kw acc e2) (fun acc2 e3 => S acc2 (wipeE e3 vs))
  | false => N (wipeE e2 vs)) noX
def ckR (kw : KW) (acc : List D) (vs : List Nat) (N : J.Env → Prop) (S : List D → J.Env → Prop) : Bool → J.Env → Prop := fun b e2 => match b with
  | true => Wk (kw acc e2) (fun acc2 e3 => S acc2 (wipeE e3 vs))
  | false => N (wipeE e2 vs)
def ckS (vs : List Nat) (S : List D → J.Env → Prop) : List D → J.Env → Prop := fun acc2 e3 => S acc2 (wipeE e3 vs)
theorem wz_ck {kw : KW} {vs : List Nat} {S : List D → J.Env → Prop} : ckQ cb kw xs vs P S e ↔ Wr (cb e) (ckR kw xs vs P S) noX := Iff.rfl
theorem wz_ckt {kw : KW} {vs : List Nat} {S : List D → J.Env → Prop} : ckR kw xs vs P S true e ↔ Wk (kw xs e) (ckS vs S) := Iff.rfl
theorem wz_ckf {kw : KW} {vs : List Nat} {S : List D → J.Env → Prop} : ckR kw xs vs P S false e ↔ P (wipeE e vs) := Iff.rfl
theorem wz_ckS {vs : List Nat} {S : List D → J.Env → Prop} : ckS vs S xs e ↔ S xs (wipeE e vs) := Iff.rfl
end
end J
/-! operators on what is known; lists as maps over a range -/
namespace J
open PySem L2 PySem.Spec PyProof.Rows
section
variable {a b i j k lo : Int} {n m : Nat} {f g : Nat → D} {o o2 : Bool} {xs ys : List D} {d e x : D} {p : Int → Int → Bool} {P : D → Prop}
theorem wa_add : addD (.int a) (.int b) = some (.int (a + b)) := id rfl
theorem wa_addL (h : xs.length + ys.length ≤ 1000000) (hx : D.noOwnL xs = true) (hy : D.noOwnL ys = true) : addD (.lst o xs) (.lst o2 ys) = some (.lst true (xs ++ ys)) := by
  simp only [addD, hx, hy, h, decide_true, Bool.and_self, if_true]
theorem wa_addT (h : xs.length + ys.length ≤ 1000000) (hx : D.noOwnL xs = true) (hy : D.noOwnL ys = true) : addD (.tup xs) (.tup ys) = some (.tup (xs ++ ys)) := by
  simp only [addD, hx, hy, h, decide_true, Bool.and_self, if_true]
theorem wa_addB : addB (.int a) (.int b) = some (.int (a + b)) := id rfl
theorem wa_sub : subD (.int a) (.int b) = some (.int (a - b)) := id rfl
theorem wa_neg : negD (.int a) = some (.int (-a)) := id rfl
theorem wa_int : intD (.int a) = some (.int a) := id rfl
theorem wa_intT : intD (.bl true) = some (.int 1) := id rfl
theorem wa_intF : intD (.bl false) = some (.int 0) := id rfl
theorem wa_mul1 (h : -10000000000000000 < a) (h2 : a < 10000000000000000) : mulD (.int a) (.int b) = some (.int (a * b)) := by
  have h3 : -(2 ^ 64) < a := by omega
  have h4 : a < 2 ^ 64 := by omega
  simp only [mulD, mulOk, h3, h4, decide_true, Bool.and_self, Bool.true_or, if_true]
theorem wa_mul2 (h : -10000000000000000 < b) (h2 : b < 10000000000000000) : mulD (.int a) (.int b) = some (.int (a * b)) := by
  have h3 : -(2 ^ 64) < b := by omega
  have h4 : b < 2 ^ 64 := by omega
  simp only [mulD, mulOk, h3, h4, decide_true, Bool.and_self, Bool.true_or, Bool.or_true, if_true]
theorem wa_div (h : 0 < b) (h2 : b < 10000000000000000) : divD (.int a) (.int b) = some (.int (a / b)) := by
  have h3 : b.natAbs.log2 < 9000 := by
    by_cases hz : b.natAbs = 0
    · rw [hz]; decide
    · rw [Nat.log2_lt hz]
      have : b.natAbs < 2 ^ 64 := by omega
      exact Nat.lt_trans this (Nat.pow_lt_pow_right (by decide) (by decide))
  simp only [divD, h, h3, if_true]
theorem wa_mod (h : 0 < b) : modD (.int a) (.int b) = some (.int (a % b)) := by
  simp only [modD, h, if_true]
theorem wa_pow18 : powD (.int 10) (.int 18) = some (.int 1000000000000000000) := by simp [powD]
theorem wa_pow15 : powD (.int 10) (.int 15) = some (.int 1000000000000000) := by simp [powD]
theorem wa_pow12 : powD (.int 10) (.int 12) = some (.int 1000000000000) := by simp [powD]
theorem wa_pow11 : powD (.int 10) (.int 11) = some (.int 100000000000) := by simp [powD]
theorem wa_pow6 : powD (.int 10) (.int 6) = some (.int 1000000) := by simp [powD]
theorem wa_max : maxD (.int a) (.int b) = some (.int (max a b)) := by
  simp only [maxD]; congr 2; omega
theorem wa_min : minD (.int a) (.int b) = some (.int (min a b)) := by
  simp only [minD]; congr 2; omega
theorem wa_cmp : cmpD p (.int a) (.int b) = some (.bl (p a b)) := id rfl
theorem wa_lt1 (h : a < b) : ltI a b = true := by simp only [ltI, h, decide_true]
theorem wa_lt0 (h : b ≤ a) : ltI a b = false := by simp only [ltI]; exact decide_eq_false (by omega)
theorem wa_le1 (h : a ≤ b) : leI a b = true := by simp only [leI, h, decide_true]
theorem wa_le0 (h : b < a) : leI a b = false := by simp only [leI]; exact decide_eq_false (by omega)
theorem wa_gt1 (h : b < a) : gtI a b = true := by simp only [gtI, h, decide_true]
theorem wa_gt0 (h : a ≤ b) : gtI a b = false := by simp only [gtI]; exact decide_eq_false (by omega)
theorem wa_ge1 (h : b ≤ a) : geI a b = true := by simp only [geI, h, decide_true]
theorem wa_ge0 (h : a < b) : geI a b = false := by simp only [geI]; exact decide_eq_false (by omega)
def eqI (i j : Int) : Bool := i == j
theorem wa_eq1 (h : a = b) : eqI a b = true := by simp [eqI, h]
theorem wa_eq0 (h : a ≠ b) : eqI a b = false := by simp [eqI, h]
theorem eqD_int' (i j : Int) : eqD (.int i) (.int j) = some (.bl (eqI i j)) := by
  simp [eqD, shp, D.okP, D.toP, SeqAt.shaped, PyData.canLay0, PyData.depth, PyData.eqv, eqI]
theorem neD_int' (i j : Int) : neD (.int i) (.int j) = some (.bl (!eqI i j)) := by
  simp [neD, shp, D.okP, D.toP, SeqAt.shaped, PyData.canLay0, PyData.depth, PyData.eqv, eqI]
theorem wa_isiII : isiD "int" (.int a) = some (.bl true) := id rfl
theorem wa_isiIB : isiD "bool" (.int a) = some (.bl false) := id rfl
theorem wa_isiIS : isiD "str" (.int a) = some (.bl false) := id rfl
theorem wa_isiIL : isiD "list" (.int a) = some (.bl false) := id rfl
theorem wa_isiIT : isiD "tuple" (.int a) = some (.bl false) := id rfl
theorem wa_isiLI : isiD "int" (.lst o xs) = some (.bl false) := id rfl
theorem wa_isiLB : isiD "bool" (.lst o xs) = some (.bl false) := id rfl
theorem wa_isiLL : isiD "list" (.lst o xs) = some (.bl true) := id rfl
theorem wa_isiLT : isiD "tuple" (.lst o xs) = some (.bl false) := id rfl
theorem wa_isiTI : isiD "int" (.tup xs) = some (.bl false) := id rfl
theorem wa_isiTB : isiD "bool" (.tup xs) = some (.bl false) := id rfl
theorem wa_isiTL : isiD "list" (.tup xs) = some (.bl false) := id rfl
theorem wa_isiTT : isiD "tuple" (.tup xs) = some (.bl true) := id rfl
theorem wa_isiBI {s : Bool} : isiD "int" (.bl s) = some (.bl true) := id rfl
theorem wa_isiBB {s : Bool} : isiD "bool" (.bl s) = some (.bl true) := id rfl
theorem wa_isiBL {s : Bool} : isiD "list" (.bl s) = some (.bl false) := id rfl
theorem wa_isiBT {s : Bool} : isiD "tuple" (.bl s) = some (.bl false) := id rfl
theorem wa_isiSI {s : Str} : isiD "int" (.str s) = some (.bl false) := id rfl
theorem wa_isiSB {s : Str} : isiD "bool" (.str s) = some (.bl false) := id rfl
theorem wa_isiSL {s : Str} : isiD "list" (.str s) = some (.bl false) := id rfl
theorem wa_isiST {s : Str} : isiD "tuple" (.str s) = some (.bl false) := id rfl
theorem wa_isiNI : isiD "int" .non = some (.bl false) := id rfl
theorem wa_isiNB : isiD "bool" .non = some (.bl false) := id rfl
theorem wa_isiNL : isiD "list" .non = some (.bl false) := id rfl
theorem wa_isiNT : isiD "tuple" .non = some (.bl false) := id rfl
theorem wa_truB {b : Bool} : truD (.bl b) = some b := id rfl
theorem wa_truI : truD (.int a) = some (!eqI a 0) := id rfl
theorem wa_truLc : truD (.lst o (x :: xs)) = some true := id rfl
theorem wa_truLn : truD (.lst o []) = some false := id rfl
theorem wa_truTc : truD (.tup (x :: xs)) = some true := id rfl
theorem wa_lenL : lenD (.lst o xs) = some (.int xs.length) := id rfl
theorem wa_lenT : lenD (.tup xs) = some (.int xs.length) := id rfl
theorem wa_lenS : lenD (.scr xs) = some (.int xs.length) := id rfl
theorem wa_lstL (h : D.noOwnL xs = true) : listD (.lst o xs) = some (.lst true xs) := by simp only [listD, h, if_true]
theorem wa_lstT (h : D.noOwnL xs = true) : listD (.tup xs) = some (.lst true xs) := by simp only [listD, h, if_true]
theorem wa_lstS : listD (.scr xs) = some (.lst true xs) := id rfl
theorem wa_tplL (h : D.noOwnL xs = true) : tupleD (.lst o xs) = some (.tup xs) := by simp only [tupleD, h, if_true]
theorem wa_tplT (h : D.noOwnL xs = true) : tupleD (.tup xs) = some (.tup xs) := by simp only [tupleD, h, if_true]
theorem wa_revL (h : D.noOwnL xs = true) : revD (.lst o xs) = some (.lst true xs.reverse) := by simp only [revD, h, if_true]
theorem wa_non : isNonD .non .non = some (.bl true) := id rfl
theorem wa_nonI : isNonD (.int a) .non = some (.bl false) := id rfl
theorem wa_nonL : isNonD (.lst o xs) .non = some (.bl false) := id rfl
theorem wa_nonT : isNonD (.tup xs) .non = some (.bl false) := id rfl
theorem wa_nnon : isNotNonD .non .non = some (.bl false) := id rfl
theorem wa_nnonI : isNotNonD (.int a) .non = some (.bl true) := id rfl
theorem wa_nnonL : isNotNonD (.lst o xs) .non = some (.bl true) := id rfl
theorem wa_nnonT : isNotNonD (.tup xs) .non = some (.bl true) := id rfl
theorem eq_of_Wr {α : Type} {r : R α} {d : α} {e : J.Env} (h : ∀ Q : α → J.Env → Prop, Q d e → Wr r Q noX) : r = .ok d e := by
  obtain ⟨a, e2, h1, rfl, rfl⟩ := (h (fun d' e' => d' = d ∧ e' = e) ⟨rfl, rfl⟩).ok
  exact h1
section
variable {g : D → J.Env → Option J.Env} {s : J.Env → Out} {c : J.Env → R Bool} {f : J.Env → R D} {vs : List Nat} {env e : J.Env} {Q : Out → Prop} {X : XQ} {QD : D → J.Env → Prop} {d x : D} {acc ds : List D}
def fuN (g : D → J.Env → Option J.Env) (s : J.Env → Out) (ds : List D) (Q : Out → Prop) : J.Env → Prop := fun e => Wo (forL g s ds e) Q
theorem wz_fuN : fuN g s ds Q e ↔ Wo (forL g s ds e) Q := Iff.rfl
theorem wz_forN : Wo (forL g s [] e) Q ↔ Q (.nx e) := Iff.rfl
theorem wz_forC : Wo (forL g s (d :: ds) e) Q ↔ Wg (g d e) (bodQ s (fuN g s ds Q) Q) := by
  unfold Wg
  simp only [forL]
  cases g d e with
  | none => exact Iff.rfl
  | some e1 =>
    dsimp only
    unfold bodQ
    cases s e1 <;> exact Iff.rfl
def cuN (g : D → J.Env → Option J.Env) (c : J.Env → R Bool) (f : J.Env → R D) (vs : List Nat) (acc ds : List D) (QD : D → J.Env → Prop) (X : XQ) : J.Env → Prop := fun e => Wr (compL g c f vs acc ds e) QD X
def cuS (g : D → J.Env → Option J.Env) (c : J.Env → R Bool) (f : J.Env → R D) (vs : List Nat) (acc ds : List D) (QD : D → J.Env → Prop) (X : XQ) : D → J.Env → Prop := fun x e => Wr (compL g c f vs (acc ++ [x]) ds e) QD X
theorem wz_cuN : cuN g c f vs acc ds QD X e ↔ Wr (compL g c f vs acc ds e) QD X := Iff.rfl
theorem wz_cuS : cuS g c f vs acc ds QD X x e ↔ Wr (compL g c f vs (acc ++ [x]) ds e) QD X := Iff.rfl
theorem wz_cmpN : Wr (compL g c f vs acc [] e) QD X ↔ QD (.lst true acc) e := Iff.rfl
theorem wz_cmpC : Wr (compL g c f vs acc (d :: ds) e) QD X ↔ Wg (g d e) (cbQ c f vs (cuN g c f vs acc ds QD X) (cuS g c f vs acc ds QD X)) := by
  unfold Wg
  simp only [compL]
  cases g d e with
  | none => exact Iff.rfl
  | some e1 =>
    dsimp only
    unfold cbQ
    cases c e1 with
    | ok b e2 =>
      cases b with
      | true => dsimp only; unfold Wr; dsimp only; cases f e2 <;> exact Iff.rfl
      | false => exact Iff.rfl
    | ex => exact Iff.rfl
    | no => exact Iff.rfl
end
/-! indices -/
def ixK : Option D → Option D := fun o => match o with
  | some x => if x.noOwn then some x else none
  | none => none
theorem wa_ixL : ixF (.lst o xs) (.int i) = ixK (L2.atI xs i) := id rfl
theorem wa_ixT : ixF (.tup xs) (.int i) = ixK (L2.atI xs i) := id rfl
theorem wa_ixS : ixF (.scr xs) (.int i) = ixK (L2.atI xs i) := id rfl
theorem wa_ixK : Wd (ixK (some x)) P ↔ (x.noOwn = true ∧ P x) := by
  unfold Wd ixK
  dsimp only
  by_cases h : x.noOwn = true
  · rw [if_pos h]; exact ⟨fun z => ⟨h, z⟩, fun z => z.2⟩
  · rw [if_neg h]; exact ⟨fun z => False.elim z, fun z => absurd z.1 h⟩
theorem wa_ixdL : ixD (.lst o xs) (.int i) = L2.atI xs i := id rfl
theorem wa_ixdT : ixD (.tup xs) (.int i) = L2.atI xs i := id rfl
theorem wa_ixdS : ixD (.scr xs) (.int i) = L2.atI xs i := id rfl
theorem wa_at0 {α : Type} {x : α} {l : List α} : L2.atI (x :: l) 0 = some x := by
  unfold L2.atI ixN
  rw [if_pos (by decide), if_pos (by simp only [List.length_cons]; omega)]
  rfl
theorem wa_at1 {α : Type} {x y : α} {l : List α} : L2.atI (x :: y :: l) 1 = some y := by
  unfold L2.atI ixN
  rw [if_pos (by decide), if_pos (by simp only [List.length_cons]; omega)]
  rfl
theorem wa_at2 {α : Type} {x y z : α} {l : List α} : L2.atI (x :: y :: z :: l) 2 = some z := by
  unfold L2.atI ixN
  rw [if_pos (by decide), if_pos (by simp only [List.length_cons]; omega)]
  rfl
theorem wa_at3 {α : Type} {x y z u : α} {l : List α} : L2.atI (x :: y :: z :: u :: l) 3 = some u := by
  unfold L2.atI ixN
  rw [if_pos (by decide), if_pos (by simp only [List.length_cons]; omega)]
  rfl
theorem wa_atm1 {α : Type} {x : α} {l : List α} : L2.atI (l ++ [x]) (-1) = some x := by
  have hn : ixN (l ++ [x]).length (-1) = some l.length := by
    unfold ixN
    rw [if_neg (by decide), if_pos (by simp; omega)]
    simp
    omega
  unfold L2.atI
  rw [hn]
  simp
theorem wa_atm2 {α : Type} {x y : α} {l : List α} : L2.atI (l ++ [x, y]) (-2) = some x := by
  have hn : ixN (l ++ [x, y]).length (-2) = some l.length := by
    unfold ixN
    rw [if_neg (by decide), if_pos (by simp; omega)]
    simp
    omega
  unfold L2.atI
  rw [hn]
  simp
theorem wa_atR {α : Type} {f : Nat → α} (h0 : 0 ≤ i) (h1 : i < n) : L2.atI ((List.range n).map f) i = some (f i.toNat) := by
  unfold L2.atI ixN
  rw [if_pos h0, if_pos (by simp; omega)]
  have : i.toNat < n := by omega
  simp [this]
theorem wa_ixNp {n : Nat} (h0 : 0 ≤ i) (h1 : i < n) : ixN n i = some i.toNat := by
  unfold ixN
  rw [if_pos h0, if_pos h1]
/-! lists over a range -/
theorem wl_fzL : D.fzL ((List.range n).map f) = (List.range n).map fun i => (f i).fz := by
  induction List.range n with
  | nil => rfl
  | cons a l ih => simp only [List.map_cons, D.fzL, ih]
theorem wl_noL : D.noOwnL ((List.range n).map f) = (List.range n).all fun i => (f i).noOwn := by
  induction List.range n with
  | nil => rfl
  | cons a l ih => simp only [List.map_cons, D.noOwnL, ih, List.all_cons]
theorem wl_allT : ((List.range n).all fun _ => true) = true := by simp
theorem wl_fzA : D.fzL (xs ++ ys) = D.fzL xs ++ D.fzL ys := by
  induction xs with
  | nil => rfl
  | cons a l ih => simp only [List.cons_append, D.fzL, ih]
theorem wl_noA : D.noOwnL (xs ++ ys) = (D.noOwnL xs && D.noOwnL ys) := by
  induction xs with
  | nil => simp [D.noOwnL]
  | cons a l ih => simp only [List.cons_append, D.noOwnL, ih, Bool.and_assoc]
theorem wl_len {α : Type} {f : Nat → α} : ((List.range n).map f).length = n := by simp
theorem wl_rng : rngD lo n = (List.range n).map fun i => .int (lo + (i : Nat)) := id rfl
theorem wl_rg : rgD a b = (List.range (b - a).toNat).map fun i => .int (a + (i : Nat)) := id rfl
theorem wl_enum : enumD k ((List.range n).map f) = (List.range n).map fun i => .tup [.int (k + (i : Nat)), f i] := by
  unfold enumD
  rw [List.length_map, List.length_range]
  apply List.map_congr_left
  intro i hi
  rw [List.mem_range] at hi
  simp [hi]
theorem wl_zip : zipD ((List.range n).map f) ((List.range n).map g) = (List.range n).map fun i => .tup [f i, g i] := by
  unfold zipD
  simp [List.zipWith_map_left, List.zipWith_map_right]
theorem wl_get (h : ((List.range n).map f)[m]? = some d) : m < n ∧ d = f m := by
  by_cases hm : m < n
  · rw [List.getElem?_map, List.getElem?_range hm] at h
    exact ⟨hm, (Option.some.inj h).symm⟩
  · rw [List.getElem?_eq_none (by simp; omega)] at h; cases h
theorem wl_pop1 {α : Type} {l : List α} {x : α} : (l ++ [x])[(l ++ [x]).length - 1]? = some x := by simp
theorem wl_pop2 {α : Type} {l : List α} {x y : α} : (l ++ [x, y])[(l ++ [x, y]).length - 1]? = some y := by simp
theorem wl_er1 {α : Type} {l : List α} {x : α} : (l ++ [x]).eraseIdx ((l ++ [x]).length - 1) = l := by
  rw [List.eraseIdx_append_of_length_le (by simp)]
  simp
theorem wl_er2 {α : Type} {l : List α} {x y : α} : (l ++ [x, y]).eraseIdx ((l ++ [x, y]).length - 1) = l ++ [x] := by
  rw [List.eraseIdx_append_of_length_le (by simp)]
  simp
theorem wl_lenA {α : Type} {l m : List α} : (l ++ m).length = l.length + m.length := by simp
theorem wl_lenM {α β : Type} {l : List α} {f : α → β} : (l.map f).length = l.length := by simp
theorem wa_slNK (h : D.noOwnL xs = true) : slD (.lst o xs) .non (.int k) = some (.lst true (cutD xs none (some k))) := by simp only [slD, prt, h, if_true]
theorem wa_slKN (h : D.noOwnL xs = true) : slD (.lst o xs) (.int k) .non = some (.lst true (cutD xs (some k) none)) := by simp only [slD, prt, h, if_true]
theorem wa_slKK (h : D.noOwnL xs = true) : slD (.lst o xs) (.int k) (.int j) = some (.lst true (cutD xs (some k) (some j))) := by simp only [slD, prt, h, if_true]
theorem wa_slSKK : slD (.scr xs) (.int k) (.int j) = some (.lst true (cutD xs (some k) (some j))) := by simp only [slD, prt]
theorem wa_slSNK : slD (.scr xs) .non (.int k) = some (.lst true (cutD xs none (some k))) := by simp only [slD, prt]
theorem wa_slSKN : slD (.scr xs) (.int k) .non = some (.lst true (cutD xs (some k) none)) := by simp only [slD, prt]
theorem wa_slTKN (h : D.noOwnL xs = true) : slD (.tup xs) (.int k) .non = some (.tup (cutD xs (some k) none)) := by simp only [slD, prt, h, if_true]
theorem wl_cutm1 {l : List D} {x : D} : cutD (l ++ [x]) none (some (-1)) = l := by
  have h1 : HT.sIx (l ++ [x]).length (l ++ [x]).length (some (-1)) = l.length := by
    simp [HT.sIx]
    omega
  have h0 : HT.sIx (l ++ [x]).length 0 none = 0 := rfl
  unfold cutD
  rw [h1, h0]
  simp
theorem wl_noR : D.noOwnL xs.reverse = D.noOwnL xs := by
  induction xs with
  | nil => rfl
  | cons a l ih => rw [List.reverse_cons, wl_noA, ih]; simp only [D.noOwnL, Bool.and_true]; exact Bool.and_comm _ _
theorem wl_fzR : D.fzL xs.reverse = (D.fzL xs).reverse := by
  induction xs with
  | nil => rfl
  | cons a l ih => rw [List.reverse_cons, wl_fzA, ih]; simp only [D.fzL, List.reverse_cons]
theorem wl_lenR {α : Type} {l : List α} : l.reverse.length = l.length := by simp
theorem wz_popQ1 {i : Nat} {env : J.Env} {QD : D → J.Env → Prop} : popQ i env QD (some (some (.lst true (xs ++ [x])))) ↔ QD x (env.set i (some (.lst true xs))) := by
  rw [wz_popQ, wl_pop1, wz_poR, wl_er1]
theorem wz_popQ2 {i : Nat} {env : J.Env} {QD : D → J.Env → Prop} : popQ i env QD (some (some (.lst true (xs ++ [d, x])))) ↔ QD x (env.set i (some (.lst true (xs ++ [d])))) := by
  rw [wz_popQ, wl_pop2, wz_poR, wl_er2]
theorem cut_ints {l : List Int} {a b : Option Int} : ∃ l' : List Int, cutD (l.map D.int) a b = l'.map D.int ∧ l'.length ≤ l.length ∧ ∀ z ∈ l', z ∈ l := by
  unfold cutD
  refine ⟨(l.drop (HT.sIx (l.map D.int).length 0 a)).take (HT.sIx (l.map D.int).length (l.map D.int).length b - HT.sIx (l.map D.int).length 0 a), by rw [List.map_take, List.map_drop], by simp; omega, fun z hz => List.mem_of_mem_drop (List.mem_of_mem_take hz)⟩
theorem wl_enumN {k : Int} : enumD k [] = [] := id rfl
theorem wl_enumC {k : Int} {x : D} {xs : List D} : enumD k (x :: xs) = .tup [.int k, x] :: enumD (k + 1) xs := by
  unfold enumD
  rw [List.length_cons, List.range_succ_eq_map, List.map_cons, List.map_map]
  congr 1
  · simp
  · apply List.map_congr_left
    intro i _
    simp only [Function.comp, List.getD_cons_succ]
    congr 3
    omega
theorem wl_zipN {ys : List D} : zipD [] ys = [] := id rfl
theorem wl_zipC {x y : D} {xs ys : List D} : zipD (x :: xs) (y :: ys) = .tup [x, y] :: zipD xs ys := id rfl
theorem W_forP0 {α : Type} {f : α → D} {g : D → J.Env → Option J.Env} {s : J.Env → Out} {Q : Out → Prop} (I : List α → J.Env → Prop) (l0 : List α) : ∀ (l done : List α) (e : J.Env), l0 = done ++ l → I done e → (∀ done a rest e, l0 = done ++ a :: rest → I done e → Wg (g (f a) e) (bodQ s (I (done ++ [a])) Q)) → (∀ e, I l0 e → Q (.nx e)) → Wo (forL g s (l.map f) e) Q
  | [], done, e, hd, h0, _, hq => hq e (by rw [hd, List.append_nil]; exact h0)
  | a :: l, done, e, hd, h0, hs, hq => by
    have h1 := hs done a l e hd h0
    have ih := fun e2 (h : I (done ++ [a]) e2) => W_forP0 I l0 l (done ++ [a]) e2 (by rw [hd, List.append_assoc]; rfl) h hs hq
    rw [List.map_cons, wz_forC]
    refine h1.mono fun e1 h2 => ?_
    refine Wo.mono h2 fun o h3 => ?_
    cases o with
    | nx e => exact ih e h3
    | ct e => exact ih e h3
    | bk e => exact h3
    | rt r e => exact h3
    | ex c ns vs e => exact h3
    | no => exact h3
/-- a loop over a list: what holds of what is behind -/
theorem W_forP {α : Type} {f : α → D} {g : D → J.Env → Option J.Env} {s : J.Env → Out} {Q : Out → Prop} (I : List α → J.Env → Prop) {l : List α} {e : J.Env} (h0 : I [] e) (hs : ∀ done a rest e, l = done ++ a :: rest → I done e → Wg (g (f a) e) (bodQ s (I (done ++ [a])) Q)) (hq : ∀ e, I l e → Q (.nx e)) : Wo (forL g s (l.map f) e) Q :=
  W_forP0 I l l [] e rfl h0 hs hq
/-- from a run said for every end to the exception it ends with -/
theorem ex_of_Wr {α : Type} {r : R α} {c : Nat} {ns : List Str} {ds : List D} {e : J.Env} (h : ∀ X : XQ, X c ns ds e → Wr r (fun _ _ => False) X) : r = .ex c ns ds e := by
  have h1 := h (fun c' ns' ds' e' => c' = c ∧ ns' = ns ∧ ds' = ds ∧ e' = e) ⟨rfl, rfl, rfl, rfl⟩
  cases r with
  | ok a e => exact False.elim h1
  | no => exact False.elim h1
  | ex c' ns' ds' e' =>
    obtain ⟨rfl, rfl, rfl, rfl⟩ := h1
    rfl
theorem take_split {α : Type} {l : List α} {i : Nat} {a : α} (h : l[i]? = some a) : l = l.take i ++ a :: l.drop (i + 1) ∧ l.take (i + 1) = l.take i ++ [a] := by
  obtain ⟨hi, rfl⟩ := List.getElem?_eq_some_iff.mp h
  refine ⟨?_, (List.take_append_getElem hi).symm⟩
  have := List.take_append_drop i l
  rw [List.drop_eq_getElem_cons hi] at this
  exact this.symm
theorem W_compP {α : Type} {f : α → D} {g : D → J.Env → Option J.Env} {cb : J.Env → R Bool} {fx : J.Env → R D} {vs : List Nat} {QD : D → J.Env → Prop} {X : XQ} {e : J.Env} {l : List α} (I : List α → List D → J.Env → Prop) (h0 : I [] [] e) (hs : ∀ done a rest acc e, l = done ++ a :: rest → I done acc e → Wg (g (f a) e) (cbQ cb fx vs (I (done ++ [a]) acc) (fun x => I (done ++ [a]) (acc ++ [x])))) (hq : ∀ acc e, I l acc e → QD (.lst true acc) e) : Wr (compL g cb fx vs [] (l.map f) e) QD X := by
  refine W_comp (fun i acc e => I (l.take i) acc e) (by simpa using h0) ?_ ?_
  · intro i d acc e hd hI
    rw [List.getElem?_map, Option.map_eq_some_iff] at hd
    obtain ⟨a, ha, rfl⟩ := hd
    obtain ⟨h1, h2⟩ := take_split ha
    have := hs _ a _ acc e h1 hI
    rw [h2]
    exact this
  · intro acc e h
    rw [List.length_map, List.take_length] at h
    exact hq acc e h
end
/-! xs.pop(k) -/
section
variable {i : Nat} {f : J.Env → R D} {env e : J.Env} {QD : D → J.Env → Prop} {X : XQ} {xs : List D} {n : Int} {j : Nat} {x : D}
def pkS (i : Nat) (xs : List D) (e : J.Env) (QD : D → J.Env → Prop) (j : Nat) : Option D → Prop := fun o => match o with
  | some x => QD x (e.set i (some (.lst true (xs.eraseIdx j))))
  | none => False
def pkR (i : Nat) (xs : List D) (e : J.Env) (QD : D → J.Env → Prop) : Option Nat → Prop := fun o => match o with
  | some j => pkS i xs e QD j xs[j]?
  | none => False
def pkQ (i : Nat) (n : Int) (e : J.Env) (QD : D → J.Env → Prop) : Option (Option D) → Prop := fun o => match o with
  | some (some (.lst true xs)) => (-(2 ^ 63) ≤ n ∧ n < 2 ^ 63) ∧ pkR i xs e QD (ixN xs.length n)
  | _ => False
def pkP (i : Nat) (QD : D → J.Env → Prop) : D → J.Env → Prop := fun k e => match k with
  | .int n => pkQ i n e QD e[i]?
  | _ => False
def pkO (i : Nat) (f : J.Env → R D) (env : J.Env) (QD : D → J.Env → Prop) (X : XQ) : Option (Option D) → Prop := fun o => match o with
  | some (some (.lst true _)) => Wr (f env) (pkP i QD) X
  | _ => False
theorem wz_pk : Wr (popKF i f env) QD X ↔ pkO i f env QD X env[i]? := by
  unfold popKF pkO
  cases env[i]? with
  | none => exact Iff.rfl
  | some y => cases y with
    | none => exact Iff.rfl
    | some y =>
      cases y <;> try exact Iff.rfl
      rename_i o ys
      cases o with
      | false => exact Iff.rfl
      | true =>
        dsimp only
        generalize f env = z
        cases z with
        | ok k e =>
          have e1 : Wr (R.ok k e) (pkP i QD) X ↔ pkP i QD k e := Iff.rfl
          rw [e1]
          simp only [R.bind]
          unfold pkP
          cases k <;> try exact Iff.rfl
          rename_i n
          dsimp only
          unfold pkQ
          cases e[i]? with
          | none => exact Iff.rfl
          | some y => cases y with
            | none => exact Iff.rfl
            | some y =>
              cases y <;> try exact Iff.rfl
              rename_i o xs
              cases o with
              | false => exact Iff.rfl
              | true =>
                dsimp only
                by_cases h : -(2 ^ 63) ≤ n ∧ n < 2 ^ 63
                · rw [if_pos h]
                  unfold pkR
                  cases ixN xs.length n with
                  | none => exact ⟨fun z => False.elim z, fun z => z.2⟩
                  | some j =>
                    dsimp only
                    unfold pkS
                    cases xs[j]? with
                    | none => exact ⟨fun z => False.elim z, fun z => z.2⟩
                    | some x => exact ⟨fun z => ⟨h, z⟩, fun z => z.2⟩
                · rw [if_neg h]; exact ⟨fun z => False.elim z, fun z => absurd z.1 h⟩
        | ex => exact Iff.rfl
        | no => exact Iff.rfl
theorem wz_pkO {ys : List D} : pkO i f env QD X (some (some (.lst true ys))) ↔ Wr (f env) (pkP i QD) X := Iff.rfl
theorem wz_pkP : pkP i QD (.int n) e ↔ pkQ i n e QD e[i]? := Iff.rfl
theorem wz_pkQ (h0 : -9223372036854775808 ≤ n) (h1 : n < 9223372036854775808) : pkQ i n e QD (some (some (.lst true xs))) ↔ pkR i xs e QD (ixN xs.length n) := ⟨fun z => z.2, fun z => ⟨⟨by omega, by omega⟩, z⟩⟩
theorem wz_pkR : pkR i xs e QD (some j) ↔ pkS i xs e QD j xs[j]? := Iff.rfl
theorem wz_pkS : pkS i xs e QD j (some x) ↔ QD x (e.set i (some (.lst true (xs.eraseIdx j)))) := Iff.rfl
theorem wl_neC {x : D} {xs : List D} : (true != (x :: xs).isEmpty) = true := id rfl
theorem wl_neN : (true != ([] : List D).isEmpty) = false := id rfl
theorem wl_eqC {x : D} {xs : List D} : (false != (x :: xs).isEmpty) = false := id rfl
theorem wl_eqN : (false != ([] : List D).isEmpty) = true := id rfl
end
end J
/-! sorted(set(xs)), len(set(xs)): lists of pairs of ints, fewer than 64 -/
namespace J
open PySem L2 PySem.Spec PyProof.Rows
/-! ### as rules of the layer -/
/-! ### pure words -/
/-! len(set(ints)) -/
section
variable {K : PySem.W.Frag} {C : CT} {H : Hp}
/-- x in a list -/
def inLD (d e : D) : Option D := match e with
  | .lst _ ds => if shp d && shp e then some (.bl ((D.toPL ds).any fun z => PyData.eqv z d.toP)) else none
  | _ => none
def notInLD (d e : D) : Option D := match e with
  | .lst _ ds => if shp d && shp e then some (.bl (!(D.toPL ds).any fun z => PyData.eqv z d.toP)) else none
  | _ => none
end
theorem room65 {k : Nat} {A : Around} (r : Room k A) : A.units + 65 < cLine := by have := r.un; omega
end J
/-! dicts as values: displays -/
namespace J
open PySem L2 PySem.Spec PyProof.Rows
def keyD : D → Option Key
  | .int i => some (.inl i)
  | .str s => some (.inr s)
  | _ => none
/-- {} -/
def dnewF : J.Env → R D := fun env => .ok (.dK true [] []) env
/-- {k: v} -/
def dispF (f g : J.Env → R D) : J.Env → R D := fun env => match f env with
  | .ok d e => (match keyD d with
    | some k => (match g e with
      | .ok x e2 => if x.noOwn then .ok (.dK true [k] [x]) e2 else .no
      | _ => .no)
    | none => .no)
  | _ => .no
end J
/-! a dict is equal to nothing of another kind -/
namespace PySem.SeqAt
open AutoSeq1 (wpAny_loadPart')
open MeetsSeq PySem.W
theorem dict_eq_declines_none (l : Addr) (es : Array DictEntry) (ep : Nat) (dd : Option Addr) (sl : Array (Option Value)) :
    Meets (Builtin.«dict.__eq__» ⟨[.ref l, .none], []⟩) (fun _ R s => s.heap.get? l = some { cls := .type "dict", dict := dd, data := .dict es ep, slots := sl } ∧ R (.ok (.ret .notImplemented)) s) :=
  .of_wp fun prog w A R s h => by obtain ⟨hp, g, d, tk, os⟩ := s; obtain ⟨hl, h⟩ := h; have f1 := F.sub_NoneType_dict; wp_walk using wpAny_loadPart' hl; exact ⟨_, rfl, h⟩
theorem none_eq_declines_dict (l : Addr) (es : Array DictEntry) (ep : Nat) (dd : Option Addr) (sl : Array (Option Value)) :
    Meets (Builtin.«NoneType.__eq__» ⟨[.none, .ref l], []⟩) (fun _ R s => s.heap.get? l = some { cls := .type "dict", dict := dd, data := .dict es ep, slots := sl } ∧ R (.ok (.ret .notImplemented)) s) :=
  .of_wp fun prog w A R s h => by obtain ⟨hp, g, d, tk, os⟩ := s; obtain ⟨hl, h⟩ := h; wp_walk using wpAny_loadPart' hl, wpAny_load hl; exact ⟨_, rfl, h⟩
theorem dict_eq_declines_bool (l : Addr) (es : Array DictEntry) (ep : Nat) (dd : Option Addr) (sl : Array (Option Value)) (b : Bool) :
    Meets (Builtin.«dict.__eq__» ⟨[.ref l, (.bool b)], []⟩) (fun _ R s => s.heap.get? l = some { cls := .type "dict", dict := dd, data := .dict es ep, slots := sl } ∧ R (.ok (.ret .notImplemented)) s) :=
  .of_wp fun prog w A R s h => by obtain ⟨hp, g, d, tk, os⟩ := s; obtain ⟨hl, h⟩ := h; have f1 := F.sub_bool_dict; wp_walk using wpAny_loadPart' hl; exact ⟨_, rfl, h⟩
theorem bool_eq_declines_dict (l : Addr) (es : Array DictEntry) (ep : Nat) (dd : Option Addr) (sl : Array (Option Value)) (b : Bool) :
    Meets (Builtin.«int.__eq__» ⟨[(.bool b), .ref l], []⟩) (fun _ R s => s.heap.get? l = some { cls := .type "dict", dict := dd, data := .dict es ep, slots := sl } ∧ R (.ok (.ret .notImplemented)) s) :=
  .of_wp fun prog w A R s h => by obtain ⟨hp, g, d, tk, os⟩ := s; obtain ⟨hl, h⟩ := h; wp_walk using wpAny_loadPart' hl, wpAny_load hl; exact ⟨_, rfl, h⟩
theorem dict_eq_declines_int (l : Addr) (es : Array DictEntry) (ep : Nat) (dd : Option Addr) (sl : Array (Option Value)) (b : Int) (u : Tok) :
    Meets (Builtin.«dict.__eq__» ⟨[.ref l, (.int b u)], []⟩) (fun _ R s => s.heap.get? l = some { cls := .type "dict", dict := dd, data := .dict es ep, slots := sl } ∧ R (.ok (.ret .notImplemented)) s) :=
  .of_wp fun prog w A R s h => by obtain ⟨hp, g, d, tk, os⟩ := s; obtain ⟨hl, h⟩ := h; have f1 := F.sub_int_dict; wp_walk using wpAny_loadPart' hl; exact ⟨_, rfl, h⟩
theorem int_eq_declines_dict (l : Addr) (es : Array DictEntry) (ep : Nat) (dd : Option Addr) (sl : Array (Option Value)) (b : Int) (u : Tok) :
    Meets (Builtin.«int.__eq__» ⟨[(.int b u), .ref l], []⟩) (fun _ R s => s.heap.get? l = some { cls := .type "dict", dict := dd, data := .dict es ep, slots := sl } ∧ R (.ok (.ret .notImplemented)) s) :=
  .of_wp fun prog w A R s h => by obtain ⟨hp, g, d, tk, os⟩ := s; obtain ⟨hl, h⟩ := h; wp_walk using wpAny_loadPart' hl, wpAny_load hl; exact ⟨_, rfl, h⟩
theorem dict_eq_declines_str (l : Addr) (es : Array DictEntry) (ep : Nat) (dd : Option Addr) (sl : Array (Option Value)) (b : Str) (u : Tok) :
    Meets (Builtin.«dict.__eq__» ⟨[.ref l, (.str b u)], []⟩) (fun _ R s => s.heap.get? l = some { cls := .type "dict", dict := dd, data := .dict es ep, slots := sl } ∧ R (.ok (.ret .notImplemented)) s) :=
  .of_wp fun prog w A R s h => by obtain ⟨hp, g, d, tk, os⟩ := s; obtain ⟨hl, h⟩ := h; have f1 := F.sub_str_dict; wp_walk using wpAny_loadPart' hl; exact ⟨_, rfl, h⟩
theorem str_eq_declines_dict (l : Addr) (es : Array DictEntry) (ep : Nat) (dd : Option Addr) (sl : Array (Option Value)) (b : Str) (u : Tok) :
    Meets (Builtin.«str.__eq__» ⟨[(.str b u), .ref l], []⟩) (fun _ R s => s.heap.get? l = some { cls := .type "dict", dict := dd, data := .dict es ep, slots := sl } ∧ R (.ok (.ret .notImplemented)) s) :=
  .of_wp fun prog w A R s h => by obtain ⟨hp, g, d, tk, os⟩ := s; obtain ⟨hl, h⟩ := h; wp_walk using wpAny_loadPart' hl, wpAny_load hl; exact ⟨_, rfl, h⟩
theorem dict_eq_declines_list (l b : Addr) (es : Array DictEntry) (ep : Nat) (items : Array Value) (n : Nat) (dd dd2 : Option Addr) (sl sl2 : Array (Option Value)) :
    Meets (Builtin.«dict.__eq__» ⟨[.ref l, .ref b], []⟩) (fun _ R s => s.heap.get? l = some { cls := .type "dict", dict := dd, data := .dict es ep, slots := sl } ∧ s.heap.get? b = some { cls := .type "list", dict := dd2, data := .seq items n, slots := sl2 } ∧ R (.ok (.ret .notImplemented)) s) :=
  .of_wp fun prog w A R s h => by obtain ⟨hp, g, d, tk, os⟩ := s; obtain ⟨hl, hb, h⟩ := h; have f1 := F.sub_list_dict; wp_walk using wpAny_loadPart' hl, wpAny_loadPart' hb; exact ⟨_, rfl, h⟩
theorem list_eq_declines_dict (l b : Addr) (es : Array DictEntry) (ep : Nat) (items : Array Value) (n : Nat) (dd dd2 : Option Addr) (sl sl2 : Array (Option Value)) :
    Meets (Builtin.«list.__eq__» ⟨[.ref b, .ref l], []⟩) (fun _ R s => s.heap.get? l = some { cls := .type "dict", dict := dd, data := .dict es ep, slots := sl } ∧ s.heap.get? b = some { cls := .type "list", dict := dd2, data := .seq items n, slots := sl2 } ∧ R (.ok (.ret .notImplemented)) s) :=
  .of_wp fun prog w A R s h => by obtain ⟨hp, g, d, tk, os⟩ := s; obtain ⟨hl, hb, h⟩ := h; have f1 := F.sub_dict_list; wp_walk using wpAny_loadPart' hl, wpAny_loadPart' hb; exact ⟨_, rfl, h⟩
theorem dict_eq_declines_tuple (l b : Addr) (es : Array DictEntry) (ep : Nat) (items : Array Value) (n : Nat) (dd dd2 : Option Addr) (sl sl2 : Array (Option Value)) :
    Meets (Builtin.«dict.__eq__» ⟨[.ref l, .ref b], []⟩) (fun _ R s => s.heap.get? l = some { cls := .type "dict", dict := dd, data := .dict es ep, slots := sl } ∧ s.heap.get? b = some { cls := .type "tuple", dict := dd2, data := .seq items n, slots := sl2 } ∧ R (.ok (.ret .notImplemented)) s) :=
  .of_wp fun prog w A R s h => by obtain ⟨hp, g, d, tk, os⟩ := s; obtain ⟨hl, hb, h⟩ := h; have f1 := F.sub_tuple_dict; wp_walk using wpAny_loadPart' hl, wpAny_loadPart' hb; exact ⟨_, rfl, h⟩
theorem tuple_eq_declines_dict (l b : Addr) (es : Array DictEntry) (ep : Nat) (items : Array Value) (n : Nat) (dd dd2 : Option Addr) (sl sl2 : Array (Option Value)) :
    Meets (Builtin.«tuple.__eq__» ⟨[.ref b, .ref l], []⟩) (fun _ R s => s.heap.get? l = some { cls := .type "dict", dict := dd, data := .dict es ep, slots := sl } ∧ s.heap.get? b = some { cls := .type "tuple", dict := dd2, data := .seq items n, slots := sl2 } ∧ R (.ok (.ret .notImplemented)) s) :=
  .of_wp fun prog w A R s h => by obtain ⟨hp, g, d, tk, os⟩ := s; obtain ⟨hl, hb, h⟩ := h; have f1 := F.sub_dict_tuple; wp_walk using wpAny_loadPart' hl, wpAny_loadPart' hb; exact ⟨_, rfl, h⟩
section
variable {A : Around} {s : Shared} {l : Addr} {es : Array DictEntry} {ep : Nat}
theorem RcAt.dict_none (hl : s.heap.DictRaw l es ep) (hu : A.units < cLine) : RcAt A s (.ref l) .none false := fun prog w E Q h => by
  obtain ⟨⟨cls, dd, data, sl⟩, ho, ⟨hc, hdd, hsl⟩, hd⟩ := id hl
  simp only at hc hd hdd hsl
  subst hc hd hdd hsl
  exact rc_eq_decline_or (k := false) ⟨_, ho, rfl⟩ rfl (by decide) F.sub_NoneType_dict F.slot_dict_eq F.slot_NoneType_eq_refl
    (fun _ hq => call_meets F.slot_dict_eq ⟨_, ho, rfl⟩ F.entry_dict_eq (F.args_dict_eq_2 _ _) (dict_eq_declines_none l es ep none #[]) ⟨ho, hq⟩)
    (fun _ hq => call_meets F.slot_NoneType_eq_refl rfl F.entry_NoneType_eq (F.args_NoneType_eq_2 _ _) (none_eq_declines_dict l es ep none #[]) ⟨ho, hq⟩)
    (fun _ hq => wpAny_of_eq (rfl : isSame (.ref l) .none = pure false) hq) (.inr hu) h
theorem EqAt.dict_none (hl : s.heap.DictRaw l es ep) (hu : A.units < cLine) : EqAt A s (.ref l) .none false := fun prog w E Q h => by
  unfold eqBool
  refine wpAny_holding ?_
  refine wpAny_ite_split (fun hab => absurd (eq_of_beq hab) nofun) (fun _ => ?_)
  exact wpAny_bind (RcAt.dict_none hl hu prog w E _ (wpAny_truthy_bool h))
theorem RcAt.none_dict (hl : s.heap.DictRaw l es ep) (hu : A.units < cLine) : RcAt A s .none (.ref l) false := fun prog w E Q h => by
  obtain ⟨⟨cls, dd, data, sl⟩, ho, ⟨hc, hdd, hsl⟩, hd⟩ := id hl
  simp only at hc hd hdd hsl
  subst hc hd hdd hsl
  exact rc_eq_decline_or (k := false) rfl ⟨_, ho, rfl⟩ (by decide) F.sub_dict_NoneType F.slot_NoneType_eq F.slot_dict_eq_refl
    (fun _ hq => call_meets F.slot_NoneType_eq rfl F.entry_NoneType_eq (F.args_NoneType_eq_2 _ _) (none_eq_declines_dict l es ep none #[]) ⟨ho, hq⟩)
    (fun _ hq => call_meets F.slot_dict_eq_refl ⟨_, ho, rfl⟩ F.entry_dict_eq (F.args_dict_eq_2 _ _) (dict_eq_declines_none l es ep none #[]) ⟨ho, hq⟩)
    (fun _ hq => wpAny_of_eq (rfl : isSame .none (.ref l) = pure false) hq) (.inr hu) h
theorem EqAt.none_dict (hl : s.heap.DictRaw l es ep) (hu : A.units < cLine) : EqAt A s .none (.ref l) false := fun prog w E Q h => by
  unfold eqBool
  refine wpAny_holding ?_
  refine wpAny_ite_split (fun hab => absurd (eq_of_beq hab) nofun) (fun _ => ?_)
  exact wpAny_bind (RcAt.none_dict hl hu prog w E _ (wpAny_truthy_bool h))
theorem RcAt.dict_bool (b : Bool) (hl : s.heap.DictRaw l es ep) (hu : A.units < cLine) : RcAt A s (.ref l) (.bool b) false := fun prog w E Q h => by
  obtain ⟨⟨cls, dd, data, sl⟩, ho, ⟨hc, hdd, hsl⟩, hd⟩ := id hl
  simp only at hc hd hdd hsl
  subst hc hd hdd hsl
  exact rc_eq_decline_or (k := false) ⟨_, ho, rfl⟩ rfl (by decide) F.sub_bool_dict F.slot_dict_eq F.slot_bool_eq_refl
    (fun _ hq => call_meets F.slot_dict_eq ⟨_, ho, rfl⟩ F.entry_dict_eq (F.args_dict_eq_2 _ _) (dict_eq_declines_bool l es ep none #[] b) ⟨ho, hq⟩)
    (fun _ hq => call_meets F.slot_bool_eq_refl rfl F.entry_int_eq (F.args_int_eq_2 _ _) (bool_eq_declines_dict l es ep none #[] b) ⟨ho, hq⟩)
    (fun _ hq => wpAny_of_eq (rfl : isSame (.ref l) (.bool b) = pure false) hq) (.inr hu) h
theorem EqAt.dict_bool (b : Bool) (hl : s.heap.DictRaw l es ep) (hu : A.units < cLine) : EqAt A s (.ref l) (.bool b) false := fun prog w E Q h => by
  unfold eqBool
  refine wpAny_holding ?_
  refine wpAny_ite_split (fun hab => absurd (eq_of_beq hab) nofun) (fun _ => ?_)
  exact wpAny_bind (RcAt.dict_bool b hl hu prog w E _ (wpAny_truthy_bool h))
theorem RcAt.bool_dict (b : Bool) (hl : s.heap.DictRaw l es ep) (hu : A.units < cLine) : RcAt A s (.bool b) (.ref l) false := fun prog w E Q h => by
  obtain ⟨⟨cls, dd, data, sl⟩, ho, ⟨hc, hdd, hsl⟩, hd⟩ := id hl
  simp only at hc hd hdd hsl
  subst hc hd hdd hsl
  exact rc_eq_decline_or (k := false) rfl ⟨_, ho, rfl⟩ (by decide) F.sub_dict_bool F.slot_bool_eq F.slot_dict_eq_refl
    (fun _ hq => call_meets F.slot_bool_eq rfl F.entry_int_eq (F.args_int_eq_2 _ _) (bool_eq_declines_dict l es ep none #[] b) ⟨ho, hq⟩)
    (fun _ hq => call_meets F.slot_dict_eq_refl ⟨_, ho, rfl⟩ F.entry_dict_eq (F.args_dict_eq_2 _ _) (dict_eq_declines_bool l es ep none #[] b) ⟨ho, hq⟩)
    (fun _ hq => wpAny_of_eq (rfl : isSame (.bool b) (.ref l) = pure false) hq) (.inr hu) h
theorem EqAt.bool_dict (b : Bool) (hl : s.heap.DictRaw l es ep) (hu : A.units < cLine) : EqAt A s (.bool b) (.ref l) false := fun prog w E Q h => by
  unfold eqBool
  refine wpAny_holding ?_
  refine wpAny_ite_split (fun hab => absurd (eq_of_beq hab) nofun) (fun _ => ?_)
  exact wpAny_bind (RcAt.bool_dict b hl hu prog w E _ (wpAny_truthy_bool h))
theorem RcAt.dict_int (b : Int) (u : Tok) (hl : s.heap.DictRaw l es ep) (hu : A.units < cLine) : RcAt A s (.ref l) (.int b u) false := fun prog w E Q h => by
  obtain ⟨⟨cls, dd, data, sl⟩, ho, ⟨hc, hdd, hsl⟩, hd⟩ := id hl
  simp only at hc hd hdd hsl
  subst hc hd hdd hsl
  exact rc_eq_decline_or (k := false) ⟨_, ho, rfl⟩ (typeIs_int s b u) (by decide) F.sub_int_dict F.slot_dict_eq F.slot_int_eq_refl
    (fun _ hq => call_meets F.slot_dict_eq ⟨_, ho, rfl⟩ F.entry_dict_eq (F.args_dict_eq_2 _ _) (dict_eq_declines_int l es ep none #[] b u) ⟨ho, hq⟩)
    (fun _ hq => call_meets F.slot_int_eq_refl (typeIs_int s b u) F.entry_int_eq (F.args_int_eq_2 _ _) (int_eq_declines_dict l es ep none #[] b u) ⟨ho, hq⟩)
    (fun _ hq => wpAny_of_eq (rfl : isSame (.ref l) (.int b u) = pure false) hq) (.inr hu) h
theorem EqAt.dict_int (b : Int) (u : Tok) (hl : s.heap.DictRaw l es ep) (hu : A.units < cLine) : EqAt A s (.ref l) (.int b u) false := fun prog w E Q h => by
  unfold eqBool
  refine wpAny_holding ?_
  refine wpAny_ite_split (fun hab => absurd (eq_of_beq hab) nofun) (fun _ => ?_)
  exact wpAny_bind (RcAt.dict_int b u hl hu prog w E _ (wpAny_truthy_bool h))
theorem RcAt.int_dict (b : Int) (u : Tok) (hl : s.heap.DictRaw l es ep) (hu : A.units < cLine) : RcAt A s (.int b u) (.ref l) false := fun prog w E Q h => by
  obtain ⟨⟨cls, dd, data, sl⟩, ho, ⟨hc, hdd, hsl⟩, hd⟩ := id hl
  simp only at hc hd hdd hsl
  subst hc hd hdd hsl
  exact rc_eq_decline_or (k := false) (typeIs_int s b u) ⟨_, ho, rfl⟩ (by decide) F.sub_dict_int F.slot_int_eq F.slot_dict_eq_refl
    (fun _ hq => call_meets F.slot_int_eq (typeIs_int s b u) F.entry_int_eq (F.args_int_eq_2 _ _) (int_eq_declines_dict l es ep none #[] b u) ⟨ho, hq⟩)
    (fun _ hq => call_meets F.slot_dict_eq_refl ⟨_, ho, rfl⟩ F.entry_dict_eq (F.args_dict_eq_2 _ _) (dict_eq_declines_int l es ep none #[] b u) ⟨ho, hq⟩)
    (fun _ hq => wpAny_of_eq (rfl : isSame (.int b u) (.ref l) = pure false) hq) (.inr hu) h
theorem EqAt.int_dict (b : Int) (u : Tok) (hl : s.heap.DictRaw l es ep) (hu : A.units < cLine) : EqAt A s (.int b u) (.ref l) false := fun prog w E Q h => by
  unfold eqBool
  refine wpAny_holding ?_
  refine wpAny_ite_split (fun hab => absurd (eq_of_beq hab) nofun) (fun _ => ?_)
  exact wpAny_bind (RcAt.int_dict b u hl hu prog w E _ (wpAny_truthy_bool h))
theorem RcAt.dict_str (b : Str) (u : Tok) (hl : s.heap.DictRaw l es ep) (hu : A.units < cLine) : RcAt A s (.ref l) (.str b u) false := fun prog w E Q h => by
  obtain ⟨⟨cls, dd, data, sl⟩, ho, ⟨hc, hdd, hsl⟩, hd⟩ := id hl
  simp only at hc hd hdd hsl
  subst hc hd hdd hsl
  exact rc_eq_decline_or (k := false) ⟨_, ho, rfl⟩ (typeIs_str s b u) (by decide) F.sub_str_dict F.slot_dict_eq F.slot_str_eq_refl
    (fun _ hq => call_meets F.slot_dict_eq ⟨_, ho, rfl⟩ F.entry_dict_eq (F.args_dict_eq_2 _ _) (dict_eq_declines_str l es ep none #[] b u) ⟨ho, hq⟩)
    (fun _ hq => call_meets F.slot_str_eq_refl (typeIs_str s b u) F.entry_str_eq (F.args_str_eq_2 _ _) (str_eq_declines_dict l es ep none #[] b u) ⟨ho, hq⟩)
    (fun _ hq => wpAny_of_eq (rfl : isSame (.ref l) (.str b u) = pure false) hq) (.inr hu) h
theorem EqAt.dict_str (b : Str) (u : Tok) (hl : s.heap.DictRaw l es ep) (hu : A.units < cLine) : EqAt A s (.ref l) (.str b u) false := fun prog w E Q h => by
  unfold eqBool
  refine wpAny_holding ?_
  refine wpAny_ite_split (fun hab => absurd (eq_of_beq hab) nofun) (fun _ => ?_)
  exact wpAny_bind (RcAt.dict_str b u hl hu prog w E _ (wpAny_truthy_bool h))
theorem RcAt.str_dict (b : Str) (u : Tok) (hl : s.heap.DictRaw l es ep) (hu : A.units < cLine) : RcAt A s (.str b u) (.ref l) false := fun prog w E Q h => by
  obtain ⟨⟨cls, dd, data, sl⟩, ho, ⟨hc, hdd, hsl⟩, hd⟩ := id hl
  simp only at hc hd hdd hsl
  subst hc hd hdd hsl
  exact rc_eq_decline_or (k := false) (typeIs_str s b u) ⟨_, ho, rfl⟩ (by decide) F.sub_dict_str F.slot_str_eq F.slot_dict_eq_refl
    (fun _ hq => call_meets F.slot_str_eq (typeIs_str s b u) F.entry_str_eq (F.args_str_eq_2 _ _) (str_eq_declines_dict l es ep none #[] b u) ⟨ho, hq⟩)
    (fun _ hq => call_meets F.slot_dict_eq_refl ⟨_, ho, rfl⟩ F.entry_dict_eq (F.args_dict_eq_2 _ _) (dict_eq_declines_str l es ep none #[] b u) ⟨ho, hq⟩)
    (fun _ hq => wpAny_of_eq (rfl : isSame (.str b u) (.ref l) = pure false) hq) (.inr hu) h
theorem EqAt.str_dict (b : Str) (u : Tok) (hl : s.heap.DictRaw l es ep) (hu : A.units < cLine) : EqAt A s (.str b u) (.ref l) false := fun prog w E Q h => by
  unfold eqBool
  refine wpAny_holding ?_
  refine wpAny_ite_split (fun hab => absurd (eq_of_beq hab) nofun) (fun _ => ?_)
  exact wpAny_bind (RcAt.str_dict b u hl hu prog w E _ (wpAny_truthy_bool h))
theorem ne_of_dict_list {b : Addr} {items : Array Value} (hl : s.heap.DictRaw l es ep) (hb : s.heap.IsList b items) : l ≠ b := fun e => by
  subst e
  obtain ⟨o, ho, ⟨hc, _⟩, _⟩ := hl
  obtain ⟨o2, ho2, hc2, _⟩ := hb
  rw [ho] at ho2
  cases ho2
  rw [hc] at hc2
  exact absurd hc2 (by simp)
theorem RcAt.dict_list {b : Addr} {items : Array Value} (hl : s.heap.DictRaw l es ep) (hb : s.heap.IsList b items) (hu : A.units < cLine) : RcAt A s (.ref l) (.ref b) false := fun prog w E Q h => by
  have hne := ne_of_dict_list hl hb
  obtain ⟨⟨cls, dd, data, sl⟩, ho, ⟨hc, hdd, hsl⟩, hd⟩ := id hl
  obtain ⟨⟨cls2, dd2, data2, sl2⟩, ho2, hc2, n, hd2⟩ := id hb
  simp only at hc hd hdd hsl hc2 hd2
  subst hc hd hdd hsl hc2 hd2
  exact (rc_eq_decline_or (k := false) ⟨_, ho, rfl⟩ ⟨_, ho2, rfl⟩ (by decide) F.sub_list_dict F.slot_dict_eq F.slot_list_eq_refl
    (fun _ hq => call_meets F.slot_dict_eq ⟨_, ho, rfl⟩ F.entry_dict_eq (F.args_dict_eq_2 _ _) (dict_eq_declines_list l b es ep items n none dd2 #[] sl2) ⟨ho, ho2, hq⟩)
    (fun _ hq => call_meets F.slot_list_eq_refl ⟨_, ho2, rfl⟩ F.entry_list_eq (F.args_list_eq_2 _ _) (list_eq_declines_dict l b es ep items n none dd2 #[] sl2) ⟨ho, ho2, hq⟩)
    (fun _ hq => wpAny_isSame_ref_other hne ho ho2 (by simp) hq) (.inr hu) h)
theorem EqAt.dict_list {b : Addr} {items : Array Value} (hl : s.heap.DictRaw l es ep) (hb : s.heap.IsList b items) (hu : A.units < cLine) : EqAt A s (.ref l) (.ref b) false := .of_refs (ne_of_dict_list hl hb) (.dict_list hl hb hu)
theorem RcAt.list_dict {b : Addr} {items : Array Value} (hl : s.heap.DictRaw l es ep) (hb : s.heap.IsList b items) (hu : A.units < cLine) : RcAt A s (.ref b) (.ref l) false := fun prog w E Q h => by
  have hne := ne_of_dict_list hl hb
  obtain ⟨⟨cls, dd, data, sl⟩, ho, ⟨hc, hdd, hsl⟩, hd⟩ := id hl
  obtain ⟨⟨cls2, dd2, data2, sl2⟩, ho2, hc2, n, hd2⟩ := id hb
  simp only at hc hd hdd hsl hc2 hd2
  subst hc hd hdd hsl hc2 hd2
  exact (rc_eq_decline_or (k := false) ⟨_, ho2, rfl⟩ ⟨_, ho, rfl⟩ (by decide) F.sub_dict_list F.slot_list_eq F.slot_dict_eq_refl
    (fun _ hq => call_meets F.slot_list_eq ⟨_, ho2, rfl⟩ F.entry_list_eq (F.args_list_eq_2 _ _) (list_eq_declines_dict l b es ep items n none dd2 #[] sl2) ⟨ho, ho2, hq⟩)
    (fun _ hq => call_meets F.slot_dict_eq_refl ⟨_, ho, rfl⟩ F.entry_dict_eq (F.args_dict_eq_2 _ _) (dict_eq_declines_list l b es ep items n none dd2 #[] sl2) ⟨ho, ho2, hq⟩)
    (fun _ hq => wpAny_isSame_ref_other (Ne.symm hne) ho2 ho (by simp) hq) (.inr hu) h)
theorem EqAt.list_dict {b : Addr} {items : Array Value} (hl : s.heap.DictRaw l es ep) (hb : s.heap.IsList b items) (hu : A.units < cLine) : EqAt A s (.ref b) (.ref l) false := .of_refs (ne_of_dict_list hl hb).symm (.list_dict hl hb hu)
theorem ne_of_dict_tuple {b : Addr} {items : Array Value} (hl : s.heap.DictRaw l es ep) (hb : s.heap.IsTuple b items) : l ≠ b := fun e => by
  subst e
  obtain ⟨o, ho, ⟨hc, _⟩, _⟩ := hl
  obtain ⟨o2, ho2, hc2, _⟩ := hb
  rw [ho] at ho2
  cases ho2
  rw [hc] at hc2
  exact absurd hc2 (by simp)
theorem RcAt.dict_tuple {b : Addr} {items : Array Value} (hl : s.heap.DictRaw l es ep) (hb : s.heap.IsTuple b items) (hu : A.units < cLine) : RcAt A s (.ref l) (.ref b) false := fun prog w E Q h => by
  have hne := ne_of_dict_tuple hl hb
  obtain ⟨⟨cls, dd, data, sl⟩, ho, ⟨hc, hdd, hsl⟩, hd⟩ := id hl
  obtain ⟨⟨cls2, dd2, data2, sl2⟩, ho2, hc2, n, hd2⟩ := id hb
  simp only at hc hd hdd hsl hc2 hd2
  subst hc hd hdd hsl hc2 hd2
  exact (rc_eq_decline_or (k := false) ⟨_, ho, rfl⟩ ⟨_, ho2, rfl⟩ (by decide) F.sub_tuple_dict F.slot_dict_eq F.slot_tuple_eq_refl
    (fun _ hq => call_meets F.slot_dict_eq ⟨_, ho, rfl⟩ F.entry_dict_eq (F.args_dict_eq_2 _ _) (dict_eq_declines_tuple l b es ep items n none dd2 #[] sl2) ⟨ho, ho2, hq⟩)
    (fun _ hq => call_meets F.slot_tuple_eq_refl ⟨_, ho2, rfl⟩ F.entry_tuple_eq (F.args_tuple_eq_2 _ _) (tuple_eq_declines_dict l b es ep items n none dd2 #[] sl2) ⟨ho, ho2, hq⟩)
    (fun _ hq => wpAny_isSame_ref_other hne ho ho2 (by simp) hq) (.inr hu) h)
theorem EqAt.dict_tuple {b : Addr} {items : Array Value} (hl : s.heap.DictRaw l es ep) (hb : s.heap.IsTuple b items) (hu : A.units < cLine) : EqAt A s (.ref l) (.ref b) false := .of_refs (ne_of_dict_tuple hl hb) (.dict_tuple hl hb hu)
theorem RcAt.tuple_dict {b : Addr} {items : Array Value} (hl : s.heap.DictRaw l es ep) (hb : s.heap.IsTuple b items) (hu : A.units < cLine) : RcAt A s (.ref b) (.ref l) false := fun prog w E Q h => by
  have hne := ne_of_dict_tuple hl hb
  obtain ⟨⟨cls, dd, data, sl⟩, ho, ⟨hc, hdd, hsl⟩, hd⟩ := id hl
  obtain ⟨⟨cls2, dd2, data2, sl2⟩, ho2, hc2, n, hd2⟩ := id hb
  simp only at hc hd hdd hsl hc2 hd2
  subst hc hd hdd hsl hc2 hd2
  exact (rc_eq_decline_or (k := false) ⟨_, ho2, rfl⟩ ⟨_, ho, rfl⟩ (by decide) F.sub_dict_tuple F.slot_tuple_eq F.slot_dict_eq_refl
    (fun _ hq => call_meets F.slot_tuple_eq ⟨_, ho2, rfl⟩ F.entry_tuple_eq (F.args_tuple_eq_2 _ _) (tuple_eq_declines_dict l b es ep items n none dd2 #[] sl2) ⟨ho, ho2, hq⟩)
    (fun _ hq => call_meets F.slot_dict_eq_refl ⟨_, ho, rfl⟩ F.entry_dict_eq (F.args_dict_eq_2 _ _) (dict_eq_declines_tuple l b es ep items n none dd2 #[] sl2) ⟨ho, ho2, hq⟩)
    (fun _ hq => wpAny_isSame_ref_other' (Ne.symm hne) ho2 ho (by simp) hq) (.inr hu) h)
theorem EqAt.tuple_dict {b : Addr} {items : Array Value} (hl : s.heap.DictRaw l es ep) (hb : s.heap.IsTuple b items) (hu : A.units < cLine) : EqAt A s (.ref b) (.ref l) false := .of_refs (ne_of_dict_tuple hl hb).symm (.tuple_dict hl hb hu)
end
end PySem.SeqAt
/-! == and in with dicts among the data -/
namespace J
open PySem L2 PySem.Spec PyProof.Rows
inductive KdS (s : Shared) : Value → Nat → Prop
  | non : KdS s .none 0
  | bl (b : Bool) : KdS s (.bool b) 1
  | int (i : Int) (t : Tok) : KdS s (.int i t) 1
  | str (y : Str) (t : Tok) : KdS s (.str y t) 2
  | lst {a : Addr} {items : Array Value} (h : s.heap.IsList a items) : KdS s (.ref a) 3
  | tup {a : Addr} {items : Array Value} (h : s.heap.IsTuple a items) : KdS s (.ref a) 4
  | dk {a : Addr} {es : Array DictEntry} {ep : Nat} (h : s.heap.DictRaw a es ep) : KdS s (.ref a) 5
def misB (i j : Nat) : Bool := (decide (i < 3) && decide (3 ≤ j)) || (decide (3 ≤ i) && decide (j < 3)) || (i == 5 && (j == 3 || j == 4)) || (j == 5 && (i == 3 || i == 4))
theorem eq_mis {A : Around} {s : Shared} {u z : Value} {i j : Nat} (h1 : KdS s u i) (h2 : KdS s z j) (hm : misB i j = true) (hu : A.units < cLine) : SeqAt.EqAt A s u z false := by
  cases h1 with
  | non => cases h2 with
    | non => cases hm
    | bl => cases hm
    | int => cases hm
    | str => cases hm
    | lst h => exact SeqAt.EqAt.none_list h hu
    | tup h => exact SeqAt.EqAt.none_tuple h hu
    | dk h => exact SeqAt.EqAt.none_dict h hu
  | bl b => cases h2 with
    | non => cases hm
    | bl => cases hm
    | int => cases hm
    | str => cases hm
    | lst h => exact SeqAt.EqAt.bool_list b h hu
    | tup h => exact SeqAt.EqAt.bool_tuple b h hu
    | dk h => exact SeqAt.EqAt.bool_dict b h hu
  | int a t => cases h2 with
    | non => cases hm
    | bl => cases hm
    | int => cases hm
    | str => cases hm
    | lst h => exact SeqAt.EqAt.int_list a t h hu
    | tup h => exact SeqAt.EqAt.int_tuple a t h hu
    | dk h => exact SeqAt.EqAt.int_dict a t h hu
  | str a t => cases h2 with
    | non => cases hm
    | bl => cases hm
    | int => cases hm
    | str => cases hm
    | lst h => exact SeqAt.EqAt.str_list a t h hu
    | tup h => exact SeqAt.EqAt.str_tuple a t h hu
    | dk h => exact SeqAt.EqAt.str_dict a t h hu
  | lst h => cases h2 with
    | non => exact SeqAt.EqAt.list_none h hu
    | bl b2 => exact SeqAt.EqAt.list_bool b2 h hu
    | int a2 t2 => exact SeqAt.EqAt.list_int a2 t2 h hu
    | str a2 t2 => exact SeqAt.EqAt.list_str a2 t2 h hu
    | lst => cases hm
    | tup => cases hm
    | dk h2 => exact SeqAt.EqAt.list_dict h2 h hu
  | tup h => cases h2 with
    | non => exact SeqAt.EqAt.tuple_none h hu
    | bl b2 => exact SeqAt.EqAt.tuple_bool b2 h hu
    | int a2 t2 => exact SeqAt.EqAt.tuple_int a2 t2 h hu
    | str a2 t2 => exact SeqAt.EqAt.tuple_str a2 t2 h hu
    | lst => cases hm
    | tup => cases hm
    | dk h2 => exact SeqAt.EqAt.tuple_dict h2 h hu
  | dk h => cases h2 with
    | non => exact SeqAt.EqAt.dict_none h hu
    | bl b2 => exact SeqAt.EqAt.dict_bool b2 h hu
    | int a2 t2 => exact SeqAt.EqAt.dict_int a2 t2 h hu
    | str a2 t2 => exact SeqAt.EqAt.dict_str a2 t2 h hu
    | lst h2 => exact SeqAt.EqAt.dict_list h h2 hu
    | tup h2 => exact SeqAt.EqAt.dict_tuple h h2 hu
    | dk => cases hm
theorem rc_mis {A : Around} {s : Shared} {u z : Value} {i j : Nat} (h1 : KdS s u i) (h2 : KdS s z j) (hm : misB i j = true) (hu : A.units < cLine) : SeqAt.RcAt A s u z false := by
  cases h1 with
  | non => cases h2 with
    | non => cases hm
    | bl => cases hm
    | int => cases hm
    | str => cases hm
    | lst h => exact SeqAt.RcAt.none_list h hu
    | tup h => exact SeqAt.RcAt.none_tuple h hu
    | dk h => exact SeqAt.RcAt.none_dict h hu
  | bl b => cases h2 with
    | non => cases hm
    | bl => cases hm
    | int => cases hm
    | str => cases hm
    | lst h => exact SeqAt.RcAt.bool_list b h hu
    | tup h => exact SeqAt.RcAt.bool_tuple b h hu
    | dk h => exact SeqAt.RcAt.bool_dict b h hu
  | int a t => cases h2 with
    | non => cases hm
    | bl => cases hm
    | int => cases hm
    | str => cases hm
    | lst h => exact SeqAt.RcAt.int_list a t h hu
    | tup h => exact SeqAt.RcAt.int_tuple a t h hu
    | dk h => exact SeqAt.RcAt.int_dict a t h hu
  | str a t => cases h2 with
    | non => cases hm
    | bl => cases hm
    | int => cases hm
    | str => cases hm
    | lst h => exact SeqAt.RcAt.str_list a t h hu
    | tup h => exact SeqAt.RcAt.str_tuple a t h hu
    | dk h => exact SeqAt.RcAt.str_dict a t h hu
  | lst h => cases h2 with
    | non => exact SeqAt.RcAt.list_none h hu
    | bl b2 => exact SeqAt.RcAt.list_bool b2 h hu
    | int a2 t2 => exact SeqAt.RcAt.list_int a2 t2 h hu
    | str a2 t2 => exact SeqAt.RcAt.list_str a2 t2 h hu
    | lst => cases hm
    | tup => cases hm
    | dk h2 => exact SeqAt.RcAt.list_dict h2 h hu
  | tup h => cases h2 with
    | non => exact SeqAt.RcAt.tuple_none h hu
    | bl b2 => exact SeqAt.RcAt.tuple_bool b2 h hu
    | int a2 t2 => exact SeqAt.RcAt.tuple_int a2 t2 h hu
    | str a2 t2 => exact SeqAt.RcAt.tuple_str a2 t2 h hu
    | lst => cases hm
    | tup => cases hm
    | dk h2 => exact SeqAt.RcAt.tuple_dict h2 h hu
  | dk h => cases h2 with
    | non => exact SeqAt.RcAt.dict_none h hu
    | bl b2 => exact SeqAt.RcAt.dict_bool b2 h hu
    | int a2 t2 => exact SeqAt.RcAt.dict_int a2 t2 h hu
    | str a2 t2 => exact SeqAt.RcAt.dict_str a2 t2 h hu
    | lst h2 => exact SeqAt.RcAt.dict_list h h2 hu
    | tup h2 => exact SeqAt.RcAt.dict_tuple h h2 hu
    | dk => cases hm
/-- what kind of thing a value is, in an abstract heap -/
inductive Kd (K : PySem.W.Frag) (H : Hp) : V → Nat → Prop
  | non : Kd K H .non 0
  | bl (b : Bool) : Kd K H (.bl b) 1
  | int (i : Int) : Kd K H (.int i) 1
  | str (y : Str) : Kd K H (.str y) 2
  | lst {a : Addr} {xs : List V} (h : SqL K H a xs) : Kd K H (.ref a) 3
  | tup {a : Addr} {xs : List V} (h : SqT K H a xs) : Kd K H (.ref a) 4
  | dk {a : Addr} {ks : List (Key × V)} (h : H a = some (.dK ks)) : Kd K H (.ref a) 5
def kindD : D → Option Nat
  | .non => some 0 | .bl _ => some 1 | .int _ => some 1 | .str _ => some 2 | .lst _ _ => some 3 | .scr _ => some 3 | .tup _ => some 4 | .dK _ _ _ => some 5 | _ => none
section
variable {X : Cx} {pins : List (Addr × Obj)} {σ : L2.St} {H : Hp} {s : Shared}
theorem Kd.at (I : Inv X pins σ H s) {v : V} {k : Nat} {u : Value} (h : Kd X.K H v k) (r : RelV v u) : KdS s u k := by
  cases h with
  | non => cases r; exact .non
  | bl b => cases r; exact .bl b
  | int i => obtain ⟨t, rfl⟩ := r; exact .int i t
  | str y => obtain ⟨t, rfl⟩ := r; exact .str y t
  | lst h =>
    cases r
    obtain ⟨its, rv, pl, -⟩ := I.list h
    exact .lst pl.isList
  | tup h =>
    cases r
    obtain ⟨its, rv, pl, -⟩ := I.tuple h
    exact .tup pl
  | dk h =>
    cases r
    obtain ⟨_, _, vs, _, d⟩ := dk_of I.hok h
    obtain ⟨es, ep, hr, _⟩ := d.raw
    exact .dk hr
end
section
variable {K : PySem.W.Frag} {C : Nat → Addr} {M : Addr → Prop} {H : Hp}
theorem rep_kd {v : V} {d : D} {F : List Addr} {k : Nat} (h : Rep K C M H v d F) (e : kindD d = some k) : Kd K H v k := by
  cases h <;> simp only [kindD, reduceCtorEq, Option.some.injEq] at e <;> subst e
  · exact .non
  · exact .bl _
  · exact .int _
  · exact .str _
  · rename_i h _ _; exact .lst (.of (hide_le _ _ h))
  · rename_i h; exact .lst (sqL_le h)
  · rename_i h _; exact .lst (.of h)
  · rename_i h _; exact .tup (.inl (.inl (hide_le _ _ h)))
  · rename_i h _ _ _; exact .dk (hide_le _ _ h)
  · rename_i h _ _; exact .dk h
end
/-! the words -/
def misD (d e : D) : Bool := match kindD d, kindD e with
  | some i, some j => misB i j
  | _, _ => false
def leafX (d e : D) : Option Bool := if shp d && shp e then some (PyData.eqv d.toP e.toP) else if misD d e then some false else none
def eqXL : List D → List D → Option Bool
  | [], [] => some true
  | [], _ :: _ => some false
  | _ :: _, [] => some false
  | d :: ds, e :: es => match leafX d e, eqXL ds es with
    | some a, some b => some (a && b)
    | _, _ => none
def eqX (d e : D) : Option Bool := match d, e with
  | .tup xs, .tup ys => eqXL xs ys
  | _, _ => if misD d e then some false else none
def orW (g1 g2 : D → D → Option D) : D → D → Option D := fun d e => match g1 d e with
  | some x => some x
  | none => g2 d e
def eqXD (d e : D) : Option D := (eqX d e).map .bl
abbrev eqW : D → D → Option D := orW eqD eqXD
def inX (neg : Bool) (d e : D) : Option D := match seqD e with
  | some xs => if (kindD d).isSome && xs.all fun y => misD y d then some (.bl neg) else none
  | none => none
abbrev inFW (neg : Bool) : D → D → Option D := orW (inFD neg) (inX neg)
/-! what the heap says -/
def LeafV (K : PySem.W.Frag) (H : Hp) (v w : V) (b : Bool) : Prop := (∃ d e, Dp K H v d ∧ Dp K H w e ∧ SeqAt.shaped d = true ∧ SeqAt.shaped e = true ∧ b = PyData.eqv d e) ∨ ∃ i j, Kd K H v i ∧ Kd K H w j ∧ misB i j = true ∧ b = false
inductive LeavesV (K : PySem.W.Frag) (H : Hp) : List V → List V → Bool → Prop
  | nil : LeavesV K H [] [] true
  | short {v : V} {vs : List V} : LeavesV K H [] (v :: vs) false
  | long {v : V} {vs : List V} : LeavesV K H (v :: vs) [] false
  | cons {v w : V} {vs ws : List V} {a b : Bool} (h : LeafV K H v w a) (t : LeavesV K H vs ws b) : LeavesV K H (v :: vs) (w :: ws) (a && b)
def rEqX (K : PySem.W.Frag) : R2 := fun x y H Q => (∃ i j, Kd K H x i ∧ Kd K H y j ∧ misB i j = true ∧ Q (.bl false) H) ∨ ∃ a b xs ys k, x = .ref a ∧ y = .ref b ∧ SqT K H a xs ∧ SqT K H b ys ∧ LeavesV K H xs ys k ∧ Q (.bl k) H
def rInX (K : PySem.W.Frag) (neg : Bool) : R2 := fun x y H Q => ∃ a xs i, y = .ref a ∧ (SqL K H a xs ∨ SqT K H a xs) ∧ Kd K H x i ∧ (∀ v ∈ xs, ∃ j, Kd K H v j ∧ misB j i = true) ∧ Q (.bl neg) H
section
variable {X : Cx} {pins : List (Addr × Obj)} {σ : L2.St} {H : Hp} {s : Shared}
theorem leaf_at (I : Inv X pins σ H s) {v w : V} {b : Bool} {u z : Value} (h : LeafV X.K H v w b) (r1 : RelV v u) (r2 : RelV w z) {A : Around} (hu : A.units + 64 < cLine) : SeqAt.EqAt A s u z b := by
  rcases h with ⟨d, e, h1, h2, s1, s2, rfl⟩ | ⟨i, j, h1, h2, hm, rfl⟩
  · obtain ⟨as, q1⟩ := Dp.reads I d v u h1 r1
    obtain ⟨bs, q2⟩ := Dp.reads I e w z h2 r2
    exact SeqAt.eqAt_reads d e A s u z as bs q1 q2 (SeqAt.canLay_of_shaped s1) (SeqAt.canLay_of_shaped s2) (SeqAt.room_of_shaped s1 hu)
  · exact eq_mis (h1.at I r1) (h2.at I r2) hm (by omega)
theorem leaves_at (I : Inv X pins σ H s) : ∀ {vs ws : List V} {us zs : List Value} {b : Bool}, LeavesV X.K H vs ws b → Vals vs us → Vals ws zs →
    ∃ e : Nat → Bool, (∀ j (h1 : j < us.length) (h2 : j < zs.length), PySem.W.EqTree X.prog X.w s 64 us[j] zs[j] (e j)) ∧ ((List.range (min us.length zs.length)).all e && us.length == zs.length) = b
  | _, _, _, _, _, .nil, .nil, .nil => ⟨fun _ => true, fun j h1 => absurd h1 (Nat.not_lt_zero j), rfl⟩
  | _, _, _, _, _, .short, .nil, .cons _ _ => ⟨fun _ => true, fun j h1 => absurd h1 (Nat.not_lt_zero j), by simp⟩
  | _, _, _, _, _, .long, .cons _ _, .nil => ⟨fun _ => true, fun j _ h2 => absurd h2 (Nat.not_lt_zero j), by simp⟩
  | _, _, u :: us, z :: zs, _, .cons (a := a) (b := b) h t, .cons r1 t1, .cons r2 t2 => by
    obtain ⟨e, q1, q2⟩ := leaves_at I t t1 t2
    refine ⟨fun j => match j with | 0 => a | j + 1 => e j, fun j h1 h2 => ?_, ?_⟩
    · cases j with
      | zero => exact .leaf fun A hu => leaf_at I h r1 r2 hu
      | succ j => exact q1 j (by simpa using h1) (by simpa using h2)
    · rw [List.length_cons, List.length_cons, Nat.succ_min_succ, List.range_succ_eq_map, List.all_cons, List.all_map]
      rw [← q2]
      have : (us.length + 1 == zs.length + 1) = (us.length == zs.length) := by
        rw [Bool.eq_iff_iff]; simp
      rw [this, Bool.and_assoc]
      rfl
theorem vals_mem {xs : List V} {its : List Value} (r : Vals xs its) : ∀ {y : Value}, y ∈ its → ∃ w ∈ xs, RelV w y := by
  induction r with
  | nil => exact fun h => absurd h List.not_mem_nil
  | cons h t ih =>
    intro y hy
    rcases List.mem_cons.mp hy with rfl | hy
    · exact ⟨_, List.mem_cons_self .., h⟩
    · obtain ⟨w, hw, r⟩ := ih hy
      exact ⟨w, List.mem_cons_of_mem _ hw, r⟩
theorem op_eqX (hu : X.A.units + 65 < cLine) : OpR X (compareOp .Eq) (rEqX X.K) := by
  intro pins s σ H x y v u Q I rx ry h
  rcases h with ⟨i, j, h1, h2, hm, q⟩ | ⟨a, b, xs, ys, k, rfl, rfl, h1, h2, hl, q⟩
  · exact rc_mis (h1.at I rx) (h2.at I ry) hm (by omega) X.prog X.w _ _ ⟨.bl false, H, I, rfl, q⟩
  · cases rx
    cases ry
    obtain ⟨us, r1, p1, -⟩ := I.tuple h1
    obtain ⟨zs, r2, p2, -⟩ := I.tuple h2
    obtain ⟨e, t, hb⟩ := leaves_at I hl r1 r2
    refine PySem.W.eq_tuplesT (n := 64) (e := e) p1 p2 (fun j h1 h2 => by
      have := t j (by simpa using h1) (by simpa using h2)
      simpa using this) (by omega) ⟨.bl k, H, I, ?_, q⟩
    show Value.bool _ = Value.bool k
    simpa using hb
theorem op_notInX (hu : X.A.units + 65 < cLine) : OpR X (compareOp .NotIn) (rInX X.K true) := by
  intro pins s σ H x y v u Q I rx ry h
  obtain ⟨a, xs, i, rfl, hs, hk, hm, q⟩ := h
  cases ry
  have key : ∀ {its : List Value}, Vals xs its → ∀ y, y ∈ its.toArray → SeqAt.EqAt X.A.in1 s y v ((fun _ => false) y) := fun {its} r y hy => by
    obtain ⟨w, hw, rw_⟩ := vals_mem r (by simpa using hy)
    obtain ⟨j, h1, h2⟩ := hm w hw
    exact eq_mis (h1.at I rw_) (hk.at I rx) h2 (by show X.A.units + 1 < cLine; omega)
  rcases hs with hs | hs
  · obtain ⟨its, r, pl, -⟩ := I.list hs
    exact SeqAt.notIn_listAt _ pl.isList (key r) ⟨.bl true, H, I, by show Value.bool _ = Value.bool true; simp, q⟩
  · obtain ⟨its, r, pl, -⟩ := I.tuple hs
    exact SeqAt.notIn_tupleAt _ pl (key r) ⟨.bl true, H, I, by show Value.bool _ = Value.bool true; simp, q⟩
def orR (r1 r2 : R2) : R2 := fun x y H Q => r1 x y H Q ∨ r2 x y H Q
theorem op_or {f : Value → Value → Sem Value} {r1 r2 : R2} (h1 : OpR X f r1) (h2 : OpR X f r2) : OpR X f (orR r1 r2) := fun pins s σ H x y v u Q I rx ry h => h.elim (h1 pins s σ H x y v u Q I rx ry) (h2 pins s σ H x y v u Q I rx ry)
end
section
variable {K : PySem.W.Frag} {C : CT}
theorem p_or {r1 r2 : R2} {g1 g2 : D → D → Option D} (h1 : Op2 K C r1 g1) (h2 : Op2 K C r2 g2) : Op2 K C (orR r1 r2) (orW g1 g2) := by
  intro M0 σ env F H v w d e x Q r eg q
  unfold orW at eg
  split at eg
  · rename_i y hy
    cases eg
    exact .inl (h1 M0 σ env F H v w d e _ Q r hy q)
  · exact .inr (h2 M0 σ env F H v w d e x Q r eg q)
theorem mis_kd {M : Addr → Prop} {H : Hp} {v w : V} {d e : D} {F G : List Addr} (h1 : Rep K C M H v d F) (h2 : Rep K C M H w e G) (hm : misD d e = true) : ∃ i j, Kd K H v i ∧ Kd K H w j ∧ misB i j = true := by
  unfold misD at hm
  split at hm
  · rename_i i j e1 e2
    exact ⟨i, j, rep_kd h1 e1, rep_kd h2 e2, hm⟩
  · cases hm
theorem leaf_v {M : Addr → Prop} {H : Hp} {v w : V} {d e : D} {F G : List Addr} {b : Bool} (h1 : Rep K C M H v d F) (h2 : Rep K C M H w e G) (h : leafX d e = some b) : LeafV K H v w b := by
  unfold leafX at h
  split at h
  · rename_i hs
    simp only [shp, Bool.and_eq_true] at hs
    cases h
    exact .inl ⟨_, _, rep_dp h1 hs.1.1, rep_dp h2 hs.2.1, hs.1.2, hs.2.2, rfl⟩
  · split at h
    · rename_i hm
      cases h
      obtain ⟨i, j, k1, k2, k3⟩ := mis_kd h1 h2 hm
      exact .inr ⟨i, j, k1, k2, k3, rfl⟩
    · cases h
theorem leaves_v {M : Addr → Prop} {H : Hp} : ∀ {vs ws : List V} {ds es : List D} {F G : List Addr} {b : Bool}, RepL K C M H vs ds F → RepL K C M H ws es G → eqXL ds es = some b → LeavesV K H vs ws b
  | _, _, _, _, _, _, _, .nil, .nil, h => by cases h; exact .nil
  | _, _, _, _, _, _, _, .nil, .cons _ _, h => by cases h; exact .short
  | _, _, _, _, _, _, _, .cons _ _, .nil, h => by cases h; exact .long
  | _, _, _, _, _, _, _, .cons a t, .cons a2 t2, h => by
    simp only [eqXL] at h
    split at h
    · rename_i x y e1 e2
      cases h
      exact .cons (leaf_v a a2 e1) (leaves_v t t2 e2)
    · cases h
theorem p_eqX : Op2 K C (rEqX K) eqXD := by
  intro M0 σ env F H v w d e x Q r eg q
  obtain ⟨F1, F2, F3, eF, hv, hw, _⟩ := r.two
  unfold eqXD at eg
  obtain ⟨b, hb, rfl⟩ := Option.map_eq_some_iff.mp eg
  have q' := Rel.sc2 r (.bl b) q
  unfold eqX at hb
  split at hb
  · obtain ⟨a1, vs, rfl, h1, t1⟩ := hv.tupR
    obtain ⟨a2, ws, rfl, h2, t2⟩ := hw.tupR
    exact .inr ⟨a1, a2, vs, ws, b, rfl, rfl, .inl (.inl h1), .inl (.inl h2), leaves_v t1 t2 hb, q'⟩
  · split at hb
    · rename_i hm
      cases hb
      obtain ⟨i, j, k1, k2, k3⟩ := mis_kd hv hw hm
      exact .inl ⟨i, j, k1, k2, k3, q'⟩
    · cases hb
theorem items_mis {M : Addr → Prop} {H : Hp} {v : V} {d : D} {G : List Addr} (hv : Rep K C M H v d G) : ∀ {vs : List V} {ds : List D} {F : List Addr}, RepL K C M H vs ds F → (ds.all fun y => misD y d) = true → ∀ i, kindD d = some i → ∀ w ∈ vs, ∃ j, Kd K H w j ∧ misB j i = true
  | _, _, _, .nil, _, _, _ => fun _ h => absurd h List.not_mem_nil
  | _, _, _, .cons (d := d0) a t, h, i, hi => by
    simp only [List.all_cons, Bool.and_eq_true] at h
    intro w hw
    rcases List.mem_cons.mp hw with rfl | hw
    · have hm := h.1
      unfold misD at hm
      rw [hi] at hm
      split at hm
      · rename_i j i2 e1 e2
        cases e2
        exact ⟨j, rep_kd a e1, hm⟩
      · cases hm
    · exact items_mis hv t h.2 i hi w hw
theorem p_inX {neg : Bool} : Op2 K C (rInX K neg) (inX neg) := by
  intro M0 σ env F H v w d e x Q r eg q
  obtain ⟨F1, F2, F3, eF, hv, hw, _⟩ := r.two
  unfold inX at eg
  split at eg
  case h_2 => cases eg
  rename_i xs es
  split at eg
  case isFalse => cases eg
  rename_i hkm
  obtain ⟨hk, hm⟩ := Bool.and_eq_true_iff.mp hkm
  obtain ⟨i, hi⟩ := Option.isSome_iff_exists.mp hk
  obtain rfl := Option.some.inj eg
  have q' := Rel.sc2 r (.bl neg) q
  cases e <;> simp only [seqD, reduceCtorEq, Option.some.injEq] at es
  · subst es
    obtain ⟨a, vs, G, rfl, h1, t, _⟩ := hw.lstR
    exact ⟨a, vs, i, rfl, .inl (.of h1), rep_kd hv hi, items_mis hv t hm i hi, q'⟩
  · subst es
    obtain ⟨a, vs, rfl, h1, t⟩ := hw.tupR
    exact ⟨a, vs, i, rfl, .inr (.inl (.inl h1)), rep_kd hv hi, items_mis hv t hm i hi, q'⟩
end
end J
/-! repr with dicts among the data; != of texts -/
namespace J
open PySem L2 PySem.Spec PyProof.Rows
def keyP : Key → PyData
  | .inl i => .int i
  | .inr x => .str x
mutual
inductive DpX (K : PySem.W.Frag) (H : Hp) : V → PyData → Prop
  | non : DpX K H .non .none
  | bl (b : Bool) : DpX K H (.bl b) (.bool b)
  | int (i : Int) : DpX K H (.int i) (.int i)
  | str (x : Str) : DpX K H (.str x) (.str x)
  | tup {a : Addr} {xs : List V} {ds : List PyData} (h : SqT K H a xs) (t : DpXA K H xs ds) : DpX K H (.ref a) (.tuple ds)
  | dk {a : Addr} {ks : List Key} {vs : List V} {ds : List PyData} (h : H a = some (.dK (ks.zip vs))) (l : ks.length = vs.length) (t : DpXA K H vs ds) : DpX K H (.ref a) (.dict ((ks.map keyP).zip ds))
inductive DpXA (K : PySem.W.Frag) (H : Hp) : List V → List PyData → Prop
  | nil : DpXA K H [] []
  | cons {v : V} {vs : List V} {d : PyData} {ds : List PyData} (h : DpX K H v d) (t : DpXA K H vs ds) : DpXA K H (v :: vs) (d :: ds)
end
theorem DpXA.length {K : PySem.W.Frag} {H : Hp} : ∀ {vs : List V} {ds : List PyData}, DpXA K H vs ds → vs.length = ds.length
  | _, _, .nil => rfl
  | _, _, .cons _ t => by rw [List.length_cons, List.length_cons, t.length]
section
variable {X : Cx} {pins : List (Addr × Obj)} {σ : L2.St} {H : Hp} {s : Shared}
theorem keys_read {s : Shared} : ∀ {ks : List Key} {us : List Value}, Paired (fun (k : Key) (u : Value) => keyIs k u = true) ks us → ReadsAll s.heap us (ks.map keyP) []
  | _, _, .nil => .nil
  | k :: _, u :: _, .cons h t => by
    rcases keyIs_shape h with ⟨i, t2, rfl, rfl⟩ | ⟨x, t2, rfl, rfl⟩
    · exact .cons (as := []) (bs := []) (.int i t2) (keys_read t)
    · exact .cons (as := []) (bs := []) (.str x t2) (keys_read t)
theorem kv_keys {P : Program} {w : World} {es : List DictEntry} {kvs : List (Key × Value)} (h : PySem.Pairs (mixKind P w) es kvs) : Paired (fun (k : Key) (u : Value) => keyIs k u = true) (kvs.map (·.1)) (es.map (·.key)) ∧ es.map (·.val) = kvs.map (·.2) := by
  induction h with
  | nil => exact ⟨.nil, rfl⟩
  | cons h1 h2 t ih => exact ⟨.cons h1 ih.1, by rw [List.map_cons, List.map_cons, h2, ih.2]⟩
theorem kv_zip : ∀ {ks : List Key} {vs : List V} {kvs : List (Key × Value)}, ks.length = vs.length → KV (ks.zip vs) kvs → ks = kvs.map (·.1) ∧ Vals vs (kvs.map (·.2))
  | [], [], _, _, .nil => ⟨rfl, .nil⟩
  | [], _ :: _, _, h, _ => by simp at h
  | _ :: _, [], _, h, _ => by simp at h
  | k :: ks, v :: vs, _, h, .cons h1 t => by
    obtain ⟨e1, e2⟩ := kv_zip (by simpa using h) t
    exact ⟨by rw [List.map_cons, ← e1, ← h1.1], .cons h1.2 e2⟩
mutual
theorem DpX.reads (I : Inv X pins σ H s) : ∀ {v : V} {d : PyData} {u : Value}, DpX X.K H v d → RelV v u → ∃ as, Reads s.heap u d as ∧ sysModules ∉ as
  | _, _, _, .non, r => by cases r; exact ⟨_, .none, List.not_mem_nil⟩
  | _, _, _, .bl b, r => by cases r; exact ⟨_, .bool b, List.not_mem_nil⟩
  | _, _, _, .int i, r => by obtain ⟨t, rfl⟩ := r; exact ⟨_, .int i t, List.not_mem_nil⟩
  | _, _, _, .str y, r => by obtain ⟨t, rfl⟩ := r; exact ⟨_, .str y t, List.not_mem_nil⟩
  | _, _, _, .tup h t, r => by
    cases r
    obtain ⟨its, rv, pl, -⟩ := I.tuple h
    obtain ⟨as, ra, ns⟩ := DpXA.reads I t rv
    obtain ⟨o, ho, hc, n, hd⟩ := pl
    exact ⟨as, .tuple ho hc hd ra, ns⟩
  | _, _, _, .dk (a := a) h l t, r => by
    cases r
    obtain ⟨-, hsm, vs, kv, d⟩ := dk_of I.hok h
    obtain ⟨o, es, ep, ho, hc, hd, -, hp, -⟩ := d
    obtain ⟨e1, e2⟩ := kv_zip l kv
    obtain ⟨q1, q2⟩ := kv_keys hp
    obtain ⟨as, ra, ns⟩ := DpXA.reads I t e2
    have hl := t.length
    refine ⟨_, .dict ho hc.1 hd (kvs := _) (as := []) (bs := as) ?_ ?_, ?_⟩
    · rw [List.map_fst_zip (by rw [List.length_map]; omega), e1]
      exact keys_read q1
    · rw [List.map_snd_zip (by rw [List.length_map]; omega), q2]
      exact ra
    · intro z
      rcases List.mem_cons.mp z with z | z
      · rw [z] at hsm; simp at hsm
      · exact ns z
theorem DpXA.reads (I : Inv X pins σ H s) : ∀ {vs : List V} {ds : List PyData} {us : List Value}, DpXA X.K H vs ds → Vals vs us → ∃ as, ReadsAll s.heap us ds as ∧ sysModules ∉ as
  | _, _, _, .nil, .nil => ⟨_, .nil, List.not_mem_nil⟩
  | _, _, _, .cons h t, .cons r q => by
    obtain ⟨as, r1, n1⟩ := DpX.reads I h r
    obtain ⟨bs, r2, n2⟩ := DpXA.reads I t q
    exact ⟨_, .cons r1 r2, fun z => (List.mem_append.mp z).elim n1 n2⟩
end
end
/-! the word -/
mutual
def D.okR : D → Bool
  | .non => true | .bl _ => true | .int _ => true | .str _ => true
  | .tup xs => D.okRL xs
  | .dK _ _ vs => D.okRL vs
  | _ => false
def D.okRL : List D → Bool
  | [] => true
  | d :: ds => d.okR && D.okRL ds
end
mutual
def D.toR : D → PyData
  | .bl b => .bool b | .int i => .int i | .str x => .str x
  | .tup xs => .tuple (D.toRL xs)
  | .dK _ ks vs => .dict ((ks.map keyP).zip (D.toRL vs))
  | _ => .none
def D.toRL : List D → List PyData
  | [] => []
  | d :: ds => d.toR :: D.toRL ds
end
def reprXD (d : D) : Option D := if d.okR && (d.toR.showable && (decide (d.toR.depth ≤ 60) && decide (d.toR.shown.length ≤ 1000000))) then some (.str d.toR.shown) else none
def reprW (d : D) : Option D := match reprD d with
  | some x => some x
  | none => reprXD d
section
variable {K : PySem.W.Frag} {C : CT}
/-- != of texts, whatever they hold -/
def rNeS : R2 := fun x y H Q => ∃ a b : Str, x = .str a ∧ y = .str b ∧ Q (.bl (!(a == b))) H
def neSD (d e : D) : Option D := match d, e with
  | .str a, .str b => some (.bl (!(a == b)))
  | _, _ => none
theorem op_neS {X : Cx} : OpR X (compareOp .NotEq) rNeS := by
  intro pins s σ H x y v u Q I rx ry h
  obtain ⟨a, b, rfl, rfl, q⟩ := h
  obtain ⟨t, rfl⟩ := rx
  obtain ⟨t2, rfl⟩ := ry
  exact SeqAt.RcNeAt.str_str a t b t2 X.prog X.w _ _ ⟨.bl _, H, I, rfl, q⟩
theorem p_neS : Op2 K C rNeS neSD := by
  intro M0 σ env F H v w d e x Q r eg q
  obtain ⟨F1, F2, F3, eF, hv, hw, _⟩ := r.two
  unfold neSD at eg
  split at eg
  · cases hv
    cases hw
    obtain rfl := Option.some.inj eg
    exact ⟨_, _, rfl, rfl, Rel.sc2 r (.bl _) q⟩
  · cases eg
abbrev neW : D → D → Option D := orW neD neSD
end
end J
/-! symbolic steps for dicts as values -/
namespace J
open PySem L2 PySem.Spec PyProof.Rows
section
variable {f g : J.Env → R D} {env e : J.Env} {QD : D → J.Env → Prop} {X : XQ} {d x y : D} {k : Key} {o : Bool} {ks : List Key} {vs xs : List D} {a : Int} {s : Str}
def dsR (k : Key) (QD : D → J.Env → Prop) : D → J.Env → Prop := fun x e => x.noOwn = true ∧ QD (.dK true [k] [x]) e
def dsP (g : J.Env → R D) (QD : D → J.Env → Prop) (e : J.Env) : Option Key → Prop := fun o => match o with
  | some k => Wr (g e) (dsR k QD) noX
  | none => False
def dsQ (g : J.Env → R D) (QD : D → J.Env → Prop) : D → J.Env → Prop := fun d e => dsP g QD e (keyD d)
theorem wz_dnew : Wr (dnewF env) QD X ↔ QD (.dK true [] []) env := Iff.rfl
theorem wz_disp : Wr (dispF f g env) QD X ↔ Wr (f env) (dsQ g QD) noX := by
  unfold dispF
  generalize f env = z
  cases z with
  | ok d e =>
    have e1 : Wr (R.ok d e) (dsQ g QD) noX ↔ dsP g QD e (keyD d) := Iff.rfl
    rw [e1]
    unfold dsP
    dsimp only
    cases keyD d with
    | none => exact Iff.rfl
    | some k =>
      dsimp only
      generalize g e = z
      cases z with
      | ok x e2 =>
        have e1 : Wr (R.ok x e2) (dsR k QD) noX ↔ (x.noOwn = true ∧ QD (.dK true [k] [x]) e2) := Iff.rfl
        rw [e1]
        dsimp only
        by_cases h : x.noOwn = true
        · rw [if_pos h]; exact ⟨fun z => ⟨h, z⟩, fun z => z.2⟩
        · rw [if_neg h]; exact ⟨fun z => False.elim z, fun z => absurd z.1 h⟩
      | ex => exact Iff.rfl
      | no => exact Iff.rfl
  | ex => exact Iff.rfl
  | no => exact Iff.rfl
theorem wz_dsQ : dsQ g QD d e ↔ dsP g QD e (keyD d) := Iff.rfl
theorem wz_dsP : dsP g QD e (some k) ↔ Wr (g e) (dsR k QD) noX := Iff.rfl
theorem wz_dsR : dsR k QD x e ↔ (x.noOwn = true ∧ QD (.dK true [k] [x]) e) := Iff.rfl
theorem wa_keyI : keyD (.int a) = some (.inl a) := id rfl
theorem wa_keyS : keyD (.str s) = some (.inr s) := id rfl
theorem wa_isiKI : isiD "int" (.dK o ks vs) = some (.bl false) := id rfl
theorem wa_isiKB : isiD "bool" (.dK o ks vs) = some (.bl false) := id rfl
theorem wa_isiKS : isiD "str" (.dK o ks vs) = some (.bl false) := id rfl
theorem wa_isiKL : isiD "list" (.dK o ks vs) = some (.bl false) := id rfl
theorem wa_isiKT : isiD "tuple" (.dK o ks vs) = some (.bl false) := id rfl
theorem wa_nonK : isNonD (.dK o ks vs) .non = some (.bl false) := id rfl
theorem wa_nnonK : isNotNonD (.dK o ks vs) .non = some (.bl true) := id rfl
def orK (a b : Option D) : Option D := match a with
  | some x => some x
  | none => b
theorem wa_orW {g1 g2 : D → D → Option D} : orW g1 g2 d x = orK (g1 d x) (g2 d x) := id rfl
theorem wa_orKs {b : Option D} : orK (some x) b = some x := id rfl
theorem wa_orKn {b : Option D} : orK none b = b := id rfl
theorem wa_neS {t : Str} : neSD (.str s) (.str t) = some (.bl (!(s == t))) := id rfl
theorem wa_reprW : reprW d = orK (reprD d) (reprXD d) := id rfl
end
end J
/-! small data: their repr -/
namespace J
open PySem L2 PySem.Spec PyProof.Rows
/-- a text of ASCII, at most 100 long -/
def smS (x : Str) : Bool := x.cps.toList.all (fun c => decide (c < 16 ^ 8)) && decide (x.cps.size ≤ 100)
def smI (i : Int) : Bool := decide (i.natAbs < 10 ^ 16)
mutual
def smP : PyData → Bool
  | .none | .bool _ => true
  | .int i => smI i
  | .str x => smS x
  | .list xs | .tuple xs => smPL xs
  | .dict kvs => smPK kvs
def smPL : List PyData → Bool
  | [] => true
  | d :: ds => smP d && smPL ds
def smPK : List (PyData × PyData) → Bool
  | [] => true
  | (a, b) :: r => smP a && smP b && smPK r
end
mutual
def nodP : PyData → Nat
  | .none | .bool _ | .int _ | .str _ => 1
  | .list xs | .tuple xs => nodPL xs
  | .dict kvs => nodPK kvs
def nodPL : List PyData → Nat
  | [] => 0
  | d :: ds => nodP d + 1 + nodPL ds
def nodPK : List (PyData × PyData) → Nat
  | [] => 0
  | (a, b) :: r => nodP a + nodP b + 2 + nodPK r
end
theorem smI_log {i : Int} (h : smI i = true) : i.natAbs.log2 < 54 := by
  have h : i.natAbs < 10 ^ 16 := by simpa [smI] using h
  by_cases e : i.natAbs = 0
  · rw [e]; decide
  · exact (Nat.log2_lt e).mpr (Nat.lt_trans h (by decide))
mutual
theorem smP_ok : ∀ d : PyData, smP d = true → d.showable = true ∧ d.leavesShort 17 = true ∧ d.weight ≤ 100 * nodP d
  | .none, _ => ⟨rfl, rfl, by simp only [PyData.weight]; omega⟩
  | .bool _, _ => ⟨rfl, rfl, by simp only [PyData.weight]; omega⟩
  | .int i, h => by
    simp only [smP] at h
    have hl := smI_log h
    refine ⟨?_, ?_, ?_⟩
    · simp only [PyData.showable, decide_eq_true_eq]; omega
    · simp only [PyData.leavesShort, decide_eq_true_eq]
      have e := int_text_length_le10 (a := i) (k := 16) (by decide) (by simpa [smI] using h)
      show (Str.ofString (toString i)).length ≤ 17
      rw [PySem.ofString_length]; exact e
    · simp only [PyData.weight, nodP]; split <;> omega
  | .str x, h => by
    simp only [smP, smS, Bool.and_eq_true, decide_eq_true_eq] at h
    refine ⟨rfl, ?_, ?_⟩
    · simp only [PyData.leavesShort]; exact h.1
    · simp only [PyData.weight, nodP]; omega
  | .list xs, h => by
    simp only [smP] at h
    obtain ⟨h1, h2, h3⟩ := smPL_ok xs h
    exact ⟨by simpa only [PyData.showable] using h1, by simpa only [PyData.leavesShort] using h2, by simpa only [PyData.weight, nodP] using h3⟩
  | .tuple xs, h => by
    simp only [smP] at h
    obtain ⟨h1, h2, h3⟩ := smPL_ok xs h
    exact ⟨by simpa only [PyData.showable] using h1, by simpa only [PyData.leavesShort] using h2, by simpa only [PyData.weight, nodP] using h3⟩
  | .dict xs, h => by
    simp only [smP] at h
    obtain ⟨h1, h2, h3⟩ := smPK_ok xs h
    exact ⟨by simpa only [PyData.showable] using h1, by simpa only [PyData.leavesShort] using h2, by simpa only [PyData.weight, nodP] using h3⟩
theorem smPL_ok : ∀ ds : List PyData, smPL ds = true → PyData.showableAll ds = true ∧ PyData.leavesShortAll 17 ds = true ∧ PyData.weightAll ds ≤ 100 * nodPL ds
  | [], _ => ⟨rfl, rfl, by simp only [PyData.weightAll]; omega⟩
  | d :: ds, h => by
    simp only [smPL, Bool.and_eq_true] at h
    obtain ⟨a1, a2, a3⟩ := smP_ok d h.1
    obtain ⟨b1, b2, b3⟩ := smPL_ok ds h.2
    exact ⟨by simp only [PyData.showableAll, a1, b1, Bool.and_self], by simp only [PyData.leavesShortAll, a2, b2, Bool.and_self], by simp only [PyData.weightAll, nodPL]; omega⟩
theorem smPK_ok : ∀ ds : List (PyData × PyData), smPK ds = true → PyData.showableKv ds = true ∧ PyData.leavesShortKv 17 ds = true ∧ PyData.weightKv ds ≤ 100 * nodPK ds
  | [], _ => ⟨rfl, rfl, by simp only [PyData.weightKv]; omega⟩
  | (x, y) :: ds, h => by
    simp only [smPK, Bool.and_eq_true] at h
    obtain ⟨a1, a2, a3⟩ := smP_ok x h.1.1
    obtain ⟨c1, c2, c3⟩ := smP_ok y h.1.2
    obtain ⟨b1, b2, b3⟩ := smPK_ok ds h.2
    exact ⟨by simp only [PyData.showableKv, a1, b1, c1, Bool.and_self], by simp only [PyData.leavesShortKv, a2, b2, c2, Bool.and_self], by simp only [PyData.weightKv, nodPK]; omega⟩
end
theorem sm_len {d : PyData} (h : smP d = true) (hn : nodP d ≤ 400) : d.shown.length ≤ 1000000 := by
  obtain ⟨-, h2, h3⟩ := smP_ok d h
  have := PyData.shown_le 17 (by decide) d h2
  omega
end J
/-! an argument lent after the ones behind it are evaluated: f(xs, g(xs)) -/
namespace J
open PySem L2 PySem.Spec PyProof.Rows
def argL (i : Nat) (g : J.Env → R (List D)) : J.Env → R (List D) := fun env => match env[i]? with
  | some (some _) => (match g env with
    | .ok ds e => (match e[i]? with
      | some (some d) => .ok (d :: ds) (e.set i none)
      | _ => .no)
    | .ex c ns xs e => .ex c ns xs e
    | .no => .no)
  | _ => .no
section
variable {K : PySem.W.Frag} {C : CT} {W : Wish} {H : Hp} {σ : L2.St}
theorem i_argL {i : Nat} {g : J.Env → R (List D)} {lk : List (Nat × Nat)} {Q : List V → Hp → Prop} (h : aOf K C W (argL i g) ((0, i) :: lkV lk) σ H Q) : tCons (tVar i) (aOf K C W g lk) σ H Q := by
  obtain ⟨M0, env, F, r, h⟩ := h
  rcases ed : env[i]? with _ | _ | d0
  · simp only [argL, ed] at h; exact h.elim
  · simp only [argL, ed] at h; exact h.elim
  obtain ⟨v, F1, hσ, r1, s1⟩ := r.take ed
  refine ⟨v, hσ, M0, env, F, r, ?_⟩
  cases eg : g env with
  | no => simp only [argL, ed, eg] at h; exact h
  | ex c ns ds e2 => simp only [argL, ed, eg] at h; exact h
  | ok ds e2 =>
    simp only [argL, ed, eg] at h
    rcases ee : e2[i]? with _ | _ | d
    · simp only [ee] at h; exact h.elim
    · simp only [ee] at h; exact h.elim
    simp only [ee] at h
    intro vs H2 F2 r3 s3 l3 k3
    have he : (ds.map some ++ e2)[(ds.map some).length + i]? = some (some d) := by
      rw [List.getElem?_append_right (by omega)]
      simpa using ee
    obtain ⟨v2, F3, hv2, r4, s4⟩ := r3.take he
    have hv : (vs.map some ++ σ)[(ds.map some).length + i]? = some (some v) := by
      rw [List.getElem?_append_right (by simp [l3])]
      simpa [l3] using hσ
    obtain rfl : v = v2 := by
      rw [hv] at hv2
      exact Option.some.inj (Option.some.inj hv2)
    rw [show (ds.map some ++ e2).set ((ds.map some).length + i) none = ds.map some ++ e2.set i none by
      rw [List.set_append_right _ _ (by omega)]; simp] at r4
    refine h (v :: vs) H2 F3 r4 (s3.trans (.sub s4)) (by simp [l3]) fun q hq => ?_
    rcases List.mem_cons.mp hq with rfl | hq
    · exact ⟨v, rfl, hσ⟩
    · obtain ⟨q', hq', rfl⟩ := List.mem_map.mp hq
      obtain ⟨u, h1, h2⟩ := k3 q' hq'
      exact ⟨u, by simpa using h1, h2⟩
end
section
variable {X : Cx} {C : CT} {W : WX} {af : J.Env → R (List D)} {lk : List (Nat × Nat)} {es : List Expr}
theorem z_al {i : Nat} (h : PA X es (tCons (tVar i) (A_ X C W af lk))) : PA X es (A_ X C W (argL i af) ((0, i) :: lkV lk)) := h.imp fun _ _ _ q => i_argL q
theorem AL.late {n i : Nat} (h : AL af n) : AL (argL i af) (n + 1) := fun env ds e q => by
  unfold argL at q
  split at q
  · split at q
    · rename_i es e2 eg
      split at q
      · simp only [R.ok.injEq] at q
        rw [← q.1, List.length_cons, h _ _ _ eg]
      · cases q
    · cases q
    · cases q
  · cases q
end
section
variable {af : J.Env → R (List D)} {env e : J.Env} {QL : List D → J.Env → Prop} {X : XQ} {d : D} {ds : List D}
def alR (i : Nat) (QL : List D → J.Env → Prop) (ds : List D) (e : J.Env) : Option (Option D) → Prop := fun o => match o with
  | some (some d) => QL (d :: ds) (e.set i none)
  | _ => False
def alQ (i : Nat) (QL : List D → J.Env → Prop) : List D → J.Env → Prop := fun ds e => alR i QL ds e e[i]?
def alP (af : J.Env → R (List D)) (i : Nat) (env : J.Env) (QL : List D → J.Env → Prop) (X : XQ) : Option (Option D) → Prop := fun o => match o with
  | some (some _) => Wr (af env) (alQ i QL) X
  | _ => False
theorem wz_al {i : Nat} : Wr (argL i af env) QL X ↔ alP af i env QL X env[i]? := by
  unfold argL alP
  cases env[i]? with
  | none => exact Iff.rfl
  | some z => cases z with
    | none => exact Iff.rfl
    | some d =>
      dsimp only
      cases af env with
      | ok ds e =>
        have e1 : Wr (R.ok ds e) (alQ i QL) X ↔ alR i QL ds e e[i]? := Iff.rfl
        rw [e1]
        unfold alR
        dsimp only
        cases e[i]? with
        | none => exact Iff.rfl
        | some z => cases z <;> exact Iff.rfl
      | ex => exact Iff.rfl
      | no => exact Iff.rfl
theorem wz_alP {i : Nat} : alP af i env QL X (some (some d)) ↔ Wr (af env) (alQ i QL) X := Iff.rfl
theorem wz_alQ {i : Nat} : alQ i QL ds e ↔ alR i QL ds e e[i]? := Iff.rfl
theorem wz_alR {i : Nat} : alR i QL ds e (some (some d)) ↔ QL (d :: ds) (e.set i none) := Iff.rfl
end
end J
/-! repr of lists, tuples and dicts in one another: only a dict's own address matters -/
namespace J
open PySem L2 PySem.Spec PyProof.Rows
mutual
inductive Rn (h : Heap) : Value → PyData → List Addr → Prop
  | plain {v : Value} {d : PyData} {as : List Addr} (r : Reads h v d as) (n : d.hasDict = false) : Rn h v d as
  | lst {a : Addr} {o : Obj} {vs : Array Value} {n : Nat} {xs : List PyData} {as : List Addr} (e : h.get? a = some o) (c : o.cls = .type "list") (y : o.data = .seq vs n) (t : RnA h vs.toList xs as) : Rn h (.ref a) (.list xs) (a :: as)
  | tup {a : Addr} {o : Obj} {vs : Array Value} {n : Nat} {xs : List PyData} {as : List Addr} (e : h.get? a = some o) (c : o.cls = .type "tuple") (y : o.data = .seq vs n) (t : RnA h vs.toList xs as) : Rn h (.ref a) (.tuple xs) as
  | dct {a : Addr} {o : Obj} {es : Array DictEntry} {n : Nat} {kvs : List (PyData × PyData)} {as bs : List Addr} (e : h.get? a = some o) (c : o.cls = .type "dict") (y : o.data = .dict es n) (g : (a == sysModules) = false) (t1 : RnA h (es.toList.map (·.key)) (kvs.map (·.1)) as) (t2 : RnA h (es.toList.map (·.val)) (kvs.map (·.2)) bs) : Rn h (.ref a) (.dict kvs) (a :: as ++ bs)
inductive RnA (h : Heap) : List Value → List PyData → List Addr → Prop
  | nil : RnA h [] [] []
  | cons {v : Value} {vs : List Value} {d : PyData} {ds : List PyData} {as bs : List Addr} (r : Rn h v d as) (t : RnA h vs ds bs) : RnA h (v :: vs) (d :: ds) (as ++ bs)
end
section
variable {h : Heap}
mutual
theorem Rn.rd : ∀ {v : Value} {d : PyData} {as : List Addr}, Rn h v d as → Reads h v d as
  | _, _, _, .plain r _ => r
  | _, _, _, .lst e c y t => .list e c y t.rd
  | _, _, _, .tup e c y t => .tuple e c y t.rd
  | _, _, _, .dct e c y _ t1 t2 => .dict e c y t1.rd t2.rd
theorem RnA.rd : ∀ {vs : List Value} {ds : List PyData} {as : List Addr}, RnA h vs ds as → ReadsAll h vs ds as
  | _, _, _, .nil => .nil
  | _, _, _, .cons r t => .cons r.rd t.rd
end
theorem atMost_app {n m k : Nat} {bs cs : List Addr} (x : ReadAtMost h n bs) (z : ReadAtMost h m cs) (l1 : n ≤ k) (l2 : m ≤ k) : ReadAtMost h k (bs ++ cs) := (x.mono l1).append (z.mono l2)
variable {P : Program} {w : World}
/-- what a container's items give -/
def Itm (P : Program) (w : World) (h : Heap) (vs : List Value) (ds : List PyData) : Prop := ∃ bs, ReadAtMost h (PyData.depthAll ds) bs ∧ ReprAllK P w bs h (PyData.depthAll ds) vs (PyData.shownAll ds)
mutual
theorem Rn.k : ∀ {v : Value} {d : PyData} {as : List Addr}, Rn h v d as → d.showable = true → d.shown.length ≤ sizeLine → ∃ bs, ReadAtMost h d.depth bs ∧ ReprK P w bs h d.depth v d.shown
  | _, _, _, .plain r n, q, z => ReprK.of_reads r q (PyData.noDict_hsm n) z
  | _, _, _, .lst (a := a) (o := o) (vs := vs) (xs := xs) e c y t, q, z => by
    simp only [PyData.showable] at q
    simp only [PyData.shown] at z
    obtain ⟨bs, m, k⟩ : Itm P w h vs.toList xs := t.k q fun u hu => Nat.le_trans (listText_mem_le hu) z
    have me := (Rn.lst e c y t).rd
    have na : a ∉ bs := not_mem_of_deeper me (by simp only [PyData.depth]; omega) m
    refine ⟨a :: bs, ReadAtMost.cons me (by simp only [PyData.depth]; omega) m, ?_⟩
    simp only [PyData.shown, PyData.depth]
    rcases vs with ⟨_ | ⟨x, l⟩⟩
    · generalize hv : (#[] : Array Value).toList = L at t
      cases t with
      | nil =>
        simp only [PyData.shownAll, listText_nil]
        exact .listEmpty e c y
      | cons r t => cases hv
    · exact .list e c y na (by simpa using k.length_eq) fun i u hu => k.item i u (by simpa using hu)
  | _, _, _, .tup (a := a) (vs := vs) (xs := xs) e c y t, q, z => by
    simp only [PyData.showable] at q
    simp only [PyData.shown] at z
    obtain ⟨bs, m, k⟩ : Itm P w h vs.toList xs := t.k q fun u hu => Nat.le_trans (tupleText_mem_le hu) z
    have me := (Rn.tup e c y t).rd
    have na : a ∉ bs := not_mem_of_deeper me (by simp only [PyData.depth]; omega) m
    refine ⟨a :: bs, ReadAtMost.cons me (by simp only [PyData.depth]; omega) m, ?_⟩
    simp only [PyData.shown, PyData.depth]
    exact .tuple e c y na k
  | _, _, _, .dct (a := a) (es := es) (kvs := kvs) e c y g t1 t2, q, z => by
    simp only [PyData.showable] at q
    simp only [PyData.shown] at z
    obtain ⟨q1, q2⟩ := PyData.showableKv_split kvs q
    obtain ⟨b1, m1, k1⟩ : Itm P w h (es.toList.map (·.key)) (kvs.map (·.1)) := t1.k q1 fun u hu => by
      obtain ⟨p, hp, l⟩ := PyData.shownKv_key_le kvs u hu
      exact Nat.le_trans l (Nat.le_trans (dictText_mem_le hp) z)
    obtain ⟨b2, m2, k2⟩ : Itm P w h (es.toList.map (·.val)) (kvs.map (·.2)) := t2.k q2 fun u hu => by
      obtain ⟨p, hp, l⟩ := PyData.shownKv_val_le kvs u hu
      exact Nat.le_trans l (Nat.le_trans (dictText_mem_le hp) z)
    have me := (Rn.dct e c y g t1 t2).rd
    have m : ReadAtMost h (PyData.depthKv kvs) (b1 ++ b2) := atMost_app m1 m2 (PyData.depthAll_keys_le kvs) (PyData.depthAll_vals_le kvs)
    have na : a ∉ b1 ++ b2 := not_mem_of_deeper me (by simp only [PyData.depth]; omega) m
    refine ⟨a :: (b1 ++ b2), ReadAtMost.cons me (by simp only [PyData.depth]; omega) m, ?_⟩
    simp only [PyData.shown, PyData.depth, PyData.shownKv_eq]
    refine .dict e c y g na (.of_two es.toList _ _ (k1.more_le (fun u hu => ?_) (PyData.depthAll_keys_le kvs)) (k2.more_le (fun u hu => ?_) (PyData.depthAll_vals_le kvs)))
    · exact List.mem_append.mpr (.inl hu)
    · exact List.mem_append.mpr (.inr hu)
theorem RnA.k : ∀ {vs : List Value} {ds : List PyData} {as : List Addr}, RnA h vs ds as → PyData.showableAll ds = true → (∀ u ∈ PyData.shownAll ds, u.length ≤ sizeLine) → Itm P w h vs ds
  | _, _, _, .nil, _, _ => ⟨[], fun _ y => (List.not_mem_nil y).elim, by simp only [PyData.shownAll]; exact .nil⟩
  | _, _, _, .cons (d := d) (ds := ds) r t, q, z => by
    simp only [PyData.showableAll, Bool.and_eq_true] at q
    simp only [PyData.shownAll, List.mem_cons, forall_eq_or_imp] at z
    obtain ⟨b1, m1, k1⟩ := r.k q.1 z.1
    obtain ⟨b2, m2, k2⟩ := t.k q.2 z.2
    have l1 : d.depth ≤ PyData.depthAll (d :: ds) := by simp only [PyData.depthAll]; exact Nat.le_max_left _ _
    have l2 : PyData.depthAll ds ≤ PyData.depthAll (d :: ds) := by simp only [PyData.depthAll]; exact Nat.le_max_right _ _
    refine ⟨b1 ++ b2, atMost_app m1 m2 l1 l2, ?_⟩
    rw [PyData.shownAll]
    exact .cons ((k1.more fun u hu => List.mem_append.mpr (.inl hu)).level_le l1) (k2.more_le (fun u hu => List.mem_append.mpr (.inr hu)) l2)
end
end
/-- repr(v), v held at an address -/
theorem rn_repr {P : Program} {w : World} {A : Around} {E : Value → Shared → Prop} {s : Shared} {Q : Value → Shared → Prop} {a : Addr} {d : PyData} {as : List Addr} (r : Rn s.heap (.ref a) d as) (q : d.showable = true) (z : d.shown.length ≤ sizeLine) (hg : A.guards = some []) (hu : A.units + (d.depth + 1) < cLine)
    (hQ : ∀ h' u tk, (∀ b o, s.heap.get? b = some o → h'.get? b = some o) → Q (.str d.shown u) { s with heap := h', toks := tk }) : wpAny (model P w) A (call (.builtin "repr") [.ref a]) Q E s := by
  have me := r.rd
  cases r with
  | plain r n => exact repr_of_reads' r q (PyData.noDict_hsm n) hg hu (fun _ _ e => e) hQ z
  | @lst _ o vs _ xs _ e c y t =>
    simp only [PyData.showable] at q
    simp only [PyData.shown] at z hQ
    simp only [PyData.depth] at hu
    obtain ⟨bs, m, k⟩ : Itm P w s.heap vs.toList xs := t.k q fun u hu => Nat.le_trans (listText_mem_le hu) z
    have na : a ∉ bs := not_mem_of_deeper me (by simp only [PyData.depth]; omega) m
    refine call_repr_slot (by omega) ⟨o, e, c⟩ F.slot_list_repr.toG ?_
    rcases vs with ⟨_ | ⟨x, l⟩⟩
    · generalize hv : (#[] : Array Value).toList = L at t
      cases t with
      | nil =>
        simp only [PyData.shownAll, listText_nil] at hQ
        exact call_list_repr_empty ⟨o, e, c⟩ e y ⟨_, _, rfl, hQ s.heap _ _ fun _ _ e => e⟩
      | cons r t => cases hv
    · exact call_list_reprK e c y na (by simpa using k.length_eq) (fun i u hu => k.item i u (by simpa using hu)) hg (fun b _ => Clear.nil b) (by show A.units + 1 + _ < _; omega) (fun _ _ e => e) (fun h' u tk hk => ⟨_, _, rfl, hQ h' u tk hk⟩) z
  | @tup _ o vs _ xs _ e c y t =>
    simp only [PyData.showable] at q
    simp only [PyData.shown] at z hQ
    simp only [PyData.depth] at hu
    obtain ⟨bs, m, k⟩ : Itm P w s.heap vs.toList xs := t.k q fun u hu => Nat.le_trans (tupleText_mem_le hu) z
    have na : a ∉ bs := not_mem_of_deeper me (by simp only [PyData.depth]; omega) m
    refine call_repr_slot (by omega) ⟨o, e, c⟩ F.slot_tuple_repr ?_
    exact call_tuple_reprK e c y na k hg (fun b _ => Clear.nil b) (by show A.units + 1 + _ < _; omega) (fun _ _ e => e) (fun h' u tk hk => ⟨_, _, rfl, hQ h' u tk hk⟩) z
  | @dct _ o es _ kvs as1 bs1 e c y g t1 t2 =>
    simp only [PyData.showable] at q
    simp only [PyData.shown] at z hQ
    simp only [PyData.depth] at hu
    obtain ⟨q1, q2⟩ := PyData.showableKv_split kvs q
    obtain ⟨b1, m1, k1⟩ : Itm P w s.heap (es.toList.map (·.key)) (kvs.map (·.1)) := t1.k q1 fun u hu => by
      obtain ⟨p, hp, l⟩ := PyData.shownKv_key_le kvs u hu
      exact Nat.le_trans l (Nat.le_trans (dictText_mem_le hp) z)
    obtain ⟨b2, m2, k2⟩ : Itm P w s.heap (es.toList.map (·.val)) (kvs.map (·.2)) := t2.k q2 fun u hu => by
      obtain ⟨p, hp, l⟩ := PyData.shownKv_val_le kvs u hu
      exact Nat.le_trans l (Nat.le_trans (dictText_mem_le hp) z)
    have m : ReadAtMost s.heap (PyData.depthKv kvs) (b1 ++ b2) := atMost_app m1 m2 (PyData.depthAll_keys_le kvs) (PyData.depthAll_vals_le kvs)
    have na : a ∉ b1 ++ b2 := not_mem_of_deeper me (by simp only [PyData.depth]; omega) m
    refine call_repr_slot (by omega) ⟨o, e, c⟩ F.slot_dict_repr ?_
    rw [PyData.shownKv_eq] at z
    simp only [PyData.shownKv_eq] at hQ
    exact call_dict_reprK e c y g na (.of_two es.toList _ _ (k1.more_le (fun u hu => List.mem_append.mpr (.inl hu)) (PyData.depthAll_keys_le kvs)) (k2.more_le (fun u hu => List.mem_append.mpr (.inr hu)) (PyData.depthAll_vals_le kvs))) hg (fun b _ => Clear.nil b) (by show A.units + 1 + _ < _; omega) (fun _ _ e => e) (fun h' u tk hk => ⟨_, _, rfl, hQ h' u tk hk⟩) z
end J
/-! repr of any data: lists, tuples, dicts in one another -/
namespace J
open PySem L2 PySem.Spec PyProof.Rows
mutual
inductive DpZ (K : PySem.W.Frag) (H : Hp) : V → PyData → Prop
  | non : DpZ K H .non .none
  | bl (b : Bool) : DpZ K H (.bl b) (.bool b)
  | int (i : Int) : DpZ K H (.int i) (.int i)
  | str (x : Str) : DpZ K H (.str x) (.str x)
  | lst {a : Addr} {xs : List V} {ds : List PyData} (h : SqL K H a xs) (t : DpZA K H xs ds) : DpZ K H (.ref a) (.list ds)
  | tup {a : Addr} {xs : List V} {ds : List PyData} (h : SqT K H a xs) (t : DpZA K H xs ds) : DpZ K H (.ref a) (.tuple ds)
  | dk {a : Addr} {ks : List Key} {vs : List V} {ds : List PyData} (h : H a = some (.dK (ks.zip vs))) (l : ks.length = vs.length) (t : DpZA K H vs ds) : DpZ K H (.ref a) (.dict ((ks.map keyP).zip ds))
inductive DpZA (K : PySem.W.Frag) (H : Hp) : List V → List PyData → Prop
  | nil : DpZA K H [] []
  | cons {v : V} {vs : List V} {d : PyData} {ds : List PyData} (h : DpZ K H v d) (t : DpZA K H vs ds) : DpZA K H (v :: vs) (d :: ds)
end
theorem DpZA.length {K : PySem.W.Frag} {H : Hp} : ∀ {vs : List V} {ds : List PyData}, DpZA K H vs ds → vs.length = ds.length
  | _, _, .nil => rfl
  | _, _, .cons _ t => by rw [List.length_cons, List.length_cons, t.length]
section
variable {X : Cx} {pins : List (Addr × Obj)} {σ : L2.St} {H : Hp} {s : Shared}
theorem keys_rn {s : Shared} : ∀ {ks : List Key} {us : List Value}, Paired (fun (k : Key) (u : Value) => keyIs k u = true) ks us → RnA s.heap us (ks.map keyP) []
  | _, _, .nil => .nil
  | k :: _, u :: _, .cons h t => by
    rcases keyIs_shape h with ⟨i, t2, rfl, rfl⟩ | ⟨x, t2, rfl, rfl⟩
    · exact .cons (as := []) (bs := []) (.plain (.int i t2) rfl) (keys_rn t)
    · exact .cons (as := []) (bs := []) (.plain (.str x t2) rfl) (keys_rn t)
mutual
theorem DpZ.rn (I : Inv X pins σ H s) : ∀ {v : V} {d : PyData} {u : Value}, DpZ X.K H v d → RelV v u → ∃ as, Rn s.heap u d as
  | _, _, _, .non, r => by cases r; exact ⟨_, .plain .none rfl⟩
  | _, _, _, .bl b, r => by cases r; exact ⟨_, .plain (.bool b) rfl⟩
  | _, _, _, .int i, r => by obtain ⟨t, rfl⟩ := r; exact ⟨_, .plain (.int i t) rfl⟩
  | _, _, _, .str y, r => by obtain ⟨t, rfl⟩ := r; exact ⟨_, .plain (.str y t) rfl⟩
  | _, _, _, .lst h t, r => by
    cases r
    obtain ⟨its, rv, pl, -⟩ := I.list h
    obtain ⟨as, ra⟩ := DpZA.rn I t rv
    obtain ⟨o, ho, hc, n, hd⟩ := pl.isList
    exact ⟨_, .lst ho hc hd ra⟩
  | _, _, _, .tup h t, r => by
    cases r
    obtain ⟨its, rv, pl, -⟩ := I.tuple h
    obtain ⟨as, ra⟩ := DpZA.rn I t rv
    obtain ⟨o, ho, hc, n, hd⟩ := pl
    exact ⟨_, .tup ho hc hd ra⟩
  | _, _, _, .dk (a := a) h l t, r => by
    cases r
    obtain ⟨-, hsm, vs, kv, d⟩ := dk_of I.hok h
    obtain ⟨o, es, ep, ho, hc, hd, -, hp, -⟩ := d
    obtain ⟨e1, e2⟩ := kv_zip l kv
    obtain ⟨q1, q2⟩ := kv_keys hp
    obtain ⟨as, ra⟩ := DpZA.rn I t e2
    have hl := t.length
    refine ⟨_, .dct ho hc.1 hd hsm (kvs := _) (as := []) (bs := as) ?_ ?_⟩
    · rw [List.map_fst_zip (by rw [List.length_map]; omega), e1]
      exact keys_rn q1
    · rw [List.map_snd_zip (by rw [List.length_map]; omega), q2]
      exact ra
theorem DpZA.rn (I : Inv X pins σ H s) : ∀ {vs : List V} {ds : List PyData} {us : List Value}, DpZA X.K H vs ds → Vals vs us → ∃ as, RnA s.heap us ds as
  | _, _, _, .nil, .nil => ⟨_, .nil⟩
  | _, _, _, .cons h t, .cons r q => by
    obtain ⟨as, r1⟩ := DpZ.rn I h r
    obtain ⟨bs, r2⟩ := DpZA.rn I t q
    exact ⟨_, .cons r1 r2⟩
end
def rReprZ (K : PySem.W.Frag) : List V → Hp → VK → Prop := fun xs H Q => ∃ x d, xs = [x] ∧ DpZ K H x d ∧ d.showable = true ∧ d.depth ≤ 60 ∧ d.shown.length ≤ sizeLine ∧ Q (.str d.shown) H
theorem call_reprZ (hG : X.A.guards = some []) (hun : X.A.units + 64 < cLine) : CallR X (.builtin "repr") (rReprZ X.K) := by
  intro pins s σ H xs us Q I r h
  obtain ⟨x, d, rfl, hd, sh, hdp, hz, q⟩ := h
  obtain ⟨u, rfl, ru⟩ := vals1 r
  have hu : X.A.units + (d.depth + 1) < cLine := by omega
  obtain ⟨as, rd⟩ := DpZ.rn I hd ru
  have byref : ∀ a : Addr, u = .ref a → wpAny (model X.prog X.w) X.A (call (.builtin "repr") [u]) (EP X pins σ Q) X.xe s := fun a e => by
    subst e
    exact rn_repr rd sh hz hG hu fun h' t tk keep => ⟨.str d.shown, H, I.kept keep, ⟨t, rfl⟩, q⟩
  cases hd with
  | non => obtain rfl : u = Value.none := ru; exact PySem.P.repr_of_none ⟨.str _, H, I.tok _, ⟨_, rfl⟩, by simpa [PyData.shown] using q⟩
  | bl b => obtain rfl : u = Value.bool b := ru; exact PySem.P.repr_of_bool ⟨.str _, H, I.tok _, ⟨_, rfl⟩, by simpa [PyData.shown] using q⟩
  | int i => obtain ⟨t, rfl⟩ := ru; exact PySem.P.repr_of_int (by simpa [PyData.showable] using sh) ⟨.str _, H, I.tok _, ⟨_, rfl⟩, by simpa [PyData.shown] using q⟩
  | str y => obtain ⟨t, rfl⟩ := ru; exact PySem.P.repr_of_str ⟨.str _, H, I.tok _, ⟨_, rfl⟩, by simpa [PyData.shown] using q⟩ (by simpa [PyData.shown] using hz)
  | lst _ _ => exact byref _ ru
  | tup _ _ => exact byref _ ru
  | dk _ _ _ => exact byref _ ru
end
mutual
def D.okZ : D → Bool
  | .non => true | .bl _ => true | .int _ => true | .str _ => true
  | .lst _ xs => D.okZL xs
  | .tup xs => D.okZL xs
  | .dK _ _ vs => D.okZL vs
  | _ => false
def D.okZL : List D → Bool
  | [] => true
  | d :: ds => d.okZ && D.okZL ds
end
mutual
def D.toZ : D → PyData
  | .bl b => .bool b | .int i => .int i | .str x => .str x
  | .lst _ xs => .list (D.toZL xs)
  | .tup xs => .tuple (D.toZL xs)
  | .dK _ ks vs => .dict ((ks.map keyP).zip (D.toZL vs))
  | _ => .none
def D.toZL : List D → List PyData
  | [] => []
  | d :: ds => d.toZ :: D.toZL ds
end
section
variable {K : PySem.W.Frag} {C : Nat → Addr} {M : Addr → Prop} {H : Hp}
mutual
theorem rep_dpz : ∀ {v : V} {d : D} {F : List Addr}, Rep K C M H v d F → d.okZ = true → DpZ K H v d.toZ
  | _, _, _, .non, _ => .non
  | _, _, _, .bl b, _ => .bl b
  | _, _, _, .int i, _ => .int i
  | _, _, _, .str x, _ => .str x
  | _, _, _, .hole v, k => nomatch k
  | _, _, _, .exc, k => nomatch k
  | _, _, _, .lst h _ t, k => .lst (.of (hide_le _ _ h)) (repL_dpz t k)
  | _, _, _, .own h t, k => .lst (.of h) (repL_dpz t k)
  | _, _, _, .scr _, k => nomatch k
  | _, _, _, .tup h t, k => .tup (.inl (.inl (hide_le _ _ h))) (repL_dpz t k)
  | _, _, _, .dKf h l _ t, k => .dk (hide_le _ _ h) l (repL_dpz t k)
  | _, _, _, .dKo h l t, k => .dk h l (repL_dpz t k)
  | _, _, _, .tK _ _ _ _, k => nomatch k
  | _, _, _, .dTf _ _ _ _, k => nomatch k
  | _, _, _, .dTo _ _ _, k => nomatch k
  | _, _, _, .insF _ _ _ _, k => nomatch k
  | _, _, _, .insO _ _ _, k => nomatch k
theorem repL_dpz : ∀ {vs : List V} {ds : List D} {F : List Addr}, RepL K C M H vs ds F → D.okZL ds = true → DpZA K H vs (D.toZL ds)
  | _, _, _, .nil, _ => .nil
  | _, _, _, .cons h t, k => by
    simp only [D.okZL, Bool.and_eq_true] at k
    exact .cons (rep_dpz h k.1) (repL_dpz t k.2)
end
end
def reprZ (d : D) : Option D := if d.okZ && (d.toZ.showable && (decide (d.toZ.depth ≤ 60) && decide (d.toZ.shown.length ≤ 1000000))) then some (.str d.toZ.shown) else none
theorem p_reprZ {K : PySem.W.Frag} {C : CT} : Op1 K C (fun v H Q => rReprZ K [v] H Q) reprZ := by
  intro M0 σ env F H v d x Q rl eg q
  have rr := rl.rep
  cases rr with
  | have_ hv _ =>
    unfold reprZ at eg
    split at eg
    · rename_i hs
      simp only [Bool.and_eq_true, decide_eq_true_eq] at hs
      obtain rfl := Option.some.inj eg
      exact ⟨v, _, rfl, rep_dpz hv hs.1, hs.2.1, hs.2.2.1, Nat.le_trans hs.2.2.2 (by rw [sizeLine_eq]; decide), Rel.sc1 rl (.str _) q⟩
    · cases eg
theorem reprZ_ok {d : D} (hk : d.okZ = true) (h : smP d.toZ = true) (hn : nodP d.toZ ≤ 400) (hd : d.toZ.depth ≤ 60) : reprZ d = some (.str d.toZ.shown) := by
  have h1 := (smP_ok _ h).1
  have h2 := sm_len h hn
  unfold reprZ
  rw [hk, h1, decide_eq_true hd, decide_eq_true h2]
  rfl
end J
/-! isinstance of the exception that a suite holds, when it has a dict of its own -/
namespace J
open PySem L2 PySem.Spec PyProof.Rows
section
variable {P : Program} {w : World} {A : Around} {E : Value → Shared → Prop} {s : Shared} {K : PySem.W.Frag} {x D : Addr} {ox : Obj} {od : Option Obj}
theorem find_desc {nm : Str} {g a : Value} (c1 : (PySem.W.clsIn K D).isSome = true) (c2 : PySem.W.findIn K (.ref D) nm = some (some a)) (c3 : PySem.W.specialIn K a "__get__" = some (some g)) (c4 : PySem.W.takesIn K a = some true) : PySem.W.findObj K D od nm = some (.bind g a) := by
  obtain ⟨cd, c1⟩ := Option.isSome_iff_exists.mp c1
  simp [PySem.W.findObj, c1, c2, c3, c4]
theorem cls_attr (X : ExcC K D) (hK : K.In s.heap) (I : PySem.W.InstAt s.heap x ox D od) {Q : Option Value → Shared → Prop} (q : Q (some (.ref D)) { s with toks := s.toks + 1 }) : wpAny (model P w) A (getAttr? (.ref x) "__class__") Q E s := by
  obtain ⟨cdD, hcD, -⟩ := PySem.W.any_some X.hd
  have ff : PySem.W.findObj K D od "__class__" = some (.bind (.builtin "getset_descriptor.__get__") (.builtin "object.__class__")) := find_desc (by rw [hcD]; rfl) X.ha X.hn X.ht
  obtain ⟨hp, g, d, t, os⟩ := s
  have k0 := I.type (M := model P w)
  have k1 := PySem.W.looks_findIn (M := model P w) hK X.hg
  have k2 := PySem.W.looks_findIn (M := model P w) hK X.hk
  have k3 := PySem.W.looks_find (M := model P w) hK I ff
  have kb : PySem.W.Looks (model P w) hp (isInstance (.ref x) (.type "BaseException")) true := k0.andThen (PySem.W.looks_subIn hK X.hs)
  have y0 : (false && onTheHeap (Value.builtin "BaseException.__getattribute__")) = false := rfl
  have y1 : (onTheHeap (Value.ref D) && Value.builtin "BaseException.__getattribute__" == Value.builtin "object.__getattribute__") = false := by
    rw [show (Value.builtin "BaseException.__getattribute__" == Value.builtin "object.__getattribute__") = false by decide +kernel]; rfl
  unfold getAttr?
  unfold getAttrBy? getAttrBy
  refine wpAny_bind (wpAny_mkText (wpAny_bind (wpAny_attempt (wpAny_holding (wpAny_bind (k0.at (wpAny_bind (k1.at ?_))))))))
  change wpAny _ _ (if (onTheHeap (Value.ref D) && Value.builtin "BaseException.__getattribute__" == Value.builtin "object.__getattribute__") = true then _ else _) _ _ _
  rw [y1, if_neg (by decide)]
  unfold getAttrByItsOwn
  unfold hookBefore
  refine wpAny_bind ?_
  rw [if_pos (by rfl : onTheHeap (Value.ref D) = true)]
  refine k2.at ?_
  refine (wpAny_bind (wpAny_attempt (wpAny_holding ?_)))
  unfold callGetattribute
  rw [y0, if_neg (by decide)]
  unfold boundAndCalled
  rw [F.excAttr_ValueError.ga.bind (.ref x)]
  refine wpAny_bind (wpAny_pure ?_)
  change wpAny _ _ (call (.builtin "BaseException.__getattribute__") [.ref x, .str "__class__" t]) _ _ _
  refine wpAny_call (codeAny_call_builtin F.excAttr_ValueError.ga.plain F.entry_bexc_ga ?_)
  refine @PySem.W.check_slot (model P w) _ _ ⟨hp, g, d, t + 1, os⟩ "BaseException.__getattribute__" "BaseException" "__getattribute__" (.ref x) [.str "__class__" t] [] _ (by decide +kernel) (by decide +kernel) kb (PySem.F.args_bexc_ga (.ref x) (.str "__class__" t)) ?_
  unfold PySem.Builtin.«object.__getattribute__»
  refine wpAny_bind (wpAny_of_eq (a := ((Value.ref x : Value), [Value.str "__class__" t])) (by first | rfl | (unfold slotArgs; rfl)) ?_)
  refine wpAny_bind (wpAny_pure (wpAny_bind (k0.at (wpAny_bind (k3.at ?_)))))
  change wpAny _ _ (holding [Value.builtin "object.__class__"] (call (.builtin "getset_descriptor.__get__") [.builtin "object.__class__", .ref x, .ref D]) >>= ret) _ _ _
  refine wpAny_bind (wpAny_holding (wpAny_call (PySem.W.class_get (s := ⟨hp, g, d, t + 1, os⟩) (ox := ox) (od := od) hK I X.hm ?_)))
  refine wpAny_pure ?_
  change wpAny _ _ (handedOut (.ref D)) _ _ _
  rw [PySem.W.handedOut_of (v := .ref D) rfl]
  first
    | exact wpAny_pure (wpAny_pure q)
    | exact wpAny_pure q
    | exact wpAny_pure (wpAny_bind (wpAny_pure (wpAny_pure q)))
theorem kit_exc (X : ExcC K D) : PySem.W.KitX K (.ref x) (.ref D) (fun h => PySem.W.InstAt h x ox D od) := by
  obtain ⟨cdD, hcD, -⟩ := PySem.W.any_some X.hd
  refine ⟨fun _ _ _ I => I.type, fun _ _ hK _ => ?_, fun h tp dd its n sl hK htp => ?_, fun hK I q => cls_attr X hK I q⟩
  · unfold PySem.W.clsIn at hcD
    split at hcD
    case h_2 => cases hcD
    rename_i c1 d1 cd1 sl1 ho
    intro A' Q' E' s' k q
    unfold isType loadHead
    exact (wpAny_bind (wpAny_loadPart (k _ _ (hK _ _ ho)) (wpAny_pure q)))
  · refine Bool.eq_false_iff.mpr fun q => ?_
    obtain rfl : D = tp := Value.ref.inj (beq_iff_eq.mp q)
    unfold PySem.W.clsIn at hcD
    split at hcD
    case h_2 => cases hcD
    rename_i c1 d1 cd1 sl1 ho
    have y := (hK _ _ ho).symm.trans htp
    cases y
end
/-- isinstance(e, c), e held, its dict at dd -/
def rIsX (K : PySem.W.Frag) (D a dd : Addr) : List V → Hp → VK → Prop := fun xs H Q => ∃ (fs : List (Str × V)) (c : V) (cv : Value) (b : Bool), H dd = some (.xd fs) ∧ xs = [.ref a, c] ∧ (∀ u, RelV c u → u = cv) ∧ PySem.W.kitOne K (.ref D) cv = some b ∧ Q (.bl b) H
theorem call_isX {X : Cx} {a D dd : Addr} {oe : Obj} {pn : List (Addr × Obj)} (C : ExcC X.K D) (hz : Zc (.ref D) (some dd) oe) (hf : ∃ vs, oe.data = .fields vs) : CallR (X.suite a ((a, oe) :: pn)) (.builtin "isinstance") (rIsX X.K D a dd) := by
  intro pins s σ H xs us Q I r h
  obtain ⟨fs, c, cv, b, hd, rfl, hcv, e, q⟩ := h
  cases r with
  | cons rx rr =>
    cases rr with
    | cons rt rr =>
      cases rr
      cases rx
      obtain rfl := hcv _ rt
      have hget := (I.pin (a, oe) (List.mem_append.mpr (.inl List.mem_cons_self))).1
      obtain ⟨vs, hv⟩ := hf
      obtain ⟨mA, ⟨o, es, ep, ho, -⟩, -⟩ := I.hok dd _ hd
      have J : PySem.W.InstAt s.heap a oe D (some o) := by
        rcases oe with ⟨oc, od, oda, osl⟩
        obtain ⟨h1, h2⟩ := hz
        dsimp only at h1 h2 hv
        subst h1 h2 hv
        exact ⟨hget, rfl, rfl, ho⟩
      exact PySem.W.kia_one (kit_exc C) I.kIn J e (fun z => nomatch z) fun tk => ⟨.bl b, H, I.kept (t' := tk) fun _ _ z => z, rfl, q⟩
end J
/-! isinstance(e, X) in a suite: the pure word; repr by reprZ -/
namespace J
open PySem L2 PySem.Spec PyProof.Rows
def isxF (i : Nat) (t : List (Nat × Bool)) (c : Nat) : J.Env → R D := fun env => match env[i]? with
  | some (some .exc) => (match t.lookup c with
    | some b => .ok (.bl b) env
    | none => .no)
  | _ => .no
section
variable {K : PySem.W.Frag} {C : CT} {W : Wish} {H : Hp} {σ : L2.St} {z : ZT}
theorem i_isx {i : Nat} {t : List (Nat × Bool)} {cv : V} {cu : Value} {Q : VK} (hcv : ∀ u, RelV cv u → u = cu) (kt : ∀ k b, t.lookup k = some b → PySem.W.kitOne K (.ref (C k)) cu = some b) (h : tOf K (C.hold z) W (isxF i t z.c) σ H Q) : tCB (rIsX K (C z.c) z.a z.dd) (tCons (tVar i) (tCons (tC cv) tNil)) σ H Q := by
  obtain ⟨M0, env, F, r, h⟩ := h
  unfold isxF at h
  cases he : env[i]? with
  | none => rw [he] at h; exact False.elim h
  | some y => cases y with
    | none => rw [he] at h; exact False.elim h
    | some d => cases d with
      | exc =>
        rw [he] at h
        dsimp only at h
        obtain ⟨v, G, F1, F2, hσ, hv, _⟩ := r.rep.at he
        obtain ⟨h1, h2, h3⟩ := r.zd.1 z rfl
        have hva : v = .ref z.a := by
          cases hv
          rw [CT.hold_999]
        subst hva
        cases hl : t.lookup z.c with
        | none => rw [hl] at h; exact False.elim h
        | some b =>
          rw [hl] at h
          exact ⟨.ref z.a, hσ, _, cv, cu, b, (hide_some h1).1, rfl, hcv, kt _ _ hl, h (.bl b) H F (r.data (.bl b)) .refl⟩
      | _ => rw [he] at h; exact False.elim h
end
/-- isinstance(e, x), x a class of the module -/
theorem q_isx {X : Cx} {C : CT} {W : WX} {a : Addr} {oe : Obj} {cls : Value} {d : Option Addr} {pn : List (Addr × Obj)} {z : ZT} {i j : Nat} {nm x : Str} {p p2 p3 pos : Pos} {t : List (Nat × Bool)} (ha : z.a = a) (hc : cls = Value.ref (C z.c)) (hd : d = some z.dd) (T : ExcC X.K (C z.c))
    (hz : Zc cls d oe) (hf : ∃ vs, oe.data = .fields vs) (he : PE (X.suite a ((a, oe) :: pn)) (.Name nm p3) (tVar i)) (hg : Gl (X.suite a ((a, oe) :: pn)) "isinstance") (hm : X.mg "isinstance" = none) (hx : Gl (X.suite a ((a, oe) :: pn)) x) (hmx : X.mg x = some (.ref (C j))) (kt : ∀ k b, t.lookup k = some b → PySem.W.kitOne X.K (.ref (C k)) (.ref (C j)) = some b)
    (hdb : (x == ("__debug__" : Str)) = false := by decide) :
    PE (X.suite a ((a, oe) :: pn)) (.Call (.Name "isinstance" p) [.Name nm p3, .Name x p2] [] pos) (T_ (X.suite a ((a, oe) :: pn)) (C.hold z) W (isxF i t z.c)) := by
  subst ha hc hd
  exact (pe_callB (id := "isinstance") (call_isX T hz hf) hg hm (by decide +kernel) (pa_cons he (pa_cons (pe_glob hx hmx (v := .ref (C j)) rfl hdb) pa_nil))).imp fun σ H Q h => i_isx (fun u r => r) kt h
theorem kit_mk {K : PySem.W.Frag} {S D : Addr} {b : Bool} (h2 : PySem.W.isClsIn K S = true) (h3 : PySem.W.typeIn K (.ref S) = some (.type "type")) (h4 : PySem.W.subIn K (.ref D) (.ref S) = some b) (h5 : PySem.W.subIn K (.ref S) (.ref S) = some true) : PySem.W.kitOne K (.ref D) (.ref S) = some b := by
  by_cases e : D = S
  · subst e
    rw [h5] at h4
    obtain rfl := Option.some.inj h4
    show (if (Value.ref D == Value.ref D) = true then some true else _) = some true
    rw [if_pos (beq_self_eq_true _)]
  · have e1 : (Value.ref D == Value.ref S) = false := Bool.eq_false_iff.mpr fun q => e (Value.ref.inj (beq_iff_eq.mp q))
    have e2 : ((PySem.W.clsIn K S).isSome && PySem.W.typeIn K (.ref S) == some (.type "type")) = true := by
      have h2' : (PySem.W.clsIn K S).isSome = true := h2
      rw [h2', h3]; rfl
    show (if (Value.ref D == Value.ref S) = true then some true else if ((PySem.W.clsIn K S).isSome && PySem.W.typeIn K (.ref S) == some (.type "type")) = true then PySem.W.subIn K (.ref D) (.ref S) else none) = some b
    rw [e1, if_neg (by decide), if_pos e2]
    exact h4
section
variable {env : J.Env} {QD : D → J.Env → Prop} {X : XQ} {i c : Nat} {t : List (Nat × Bool)} {d : D} {b : Bool}
def isQ (t : List (Nat × Bool)) (c : Nat) (env : J.Env) (QD : D → J.Env → Prop) : Option (Option D) → Prop := fun o => match o with
  | some (some .exc) => isR env QD (t.lookup c)
  | _ => False
where isR (env : J.Env) (QD : D → J.Env → Prop) : Option Bool → Prop := fun o => match o with
  | some b => QD (.bl b) env
  | none => False
theorem wz_isx : Wr (isxF i t c env) QD X ↔ isQ t c env QD env[i]? := by
  unfold isxF isQ Wr
  cases env[i]? with
  | none => exact Iff.rfl
  | some z => cases z with
    | none => exact Iff.rfl
    | some d =>
      cases d <;> try exact Iff.rfl
      dsimp only
      unfold isQ.isR
      cases t.lookup c <;> exact Iff.rfl
theorem wz_isQ : isQ t c env QD (some (some .exc)) ↔ isQ.isR env QD (t.lookup c) := Iff.rfl
theorem wz_isR : isQ.isR env QD (some b) ↔ QD (.bl b) env := Iff.rfl
end
end J
/-! xs[a].append(k), k a number that stands there -/
namespace J
open PySem L2 PySem.Spec PyProof.Rows
def apAtO (i : Nat) (fa : J.Env → Option D) (k : Int) : J.Env → Out := fun env => match fa env, env[i]? with
  | some (.int a), some (some (.lst true rows)) => (match ixN rows.length a with
    | some ja => (match rows[ja]? with
      | some (.lst true xs) => if xs.length < 1000000 then .nx (env.set i (some (.lst true (rows.set ja (.lst true (xs ++ [.int k])))))) else .no
      | _ => .no)
    | none => .no)
  | _, _ => .no
section
variable {fa : J.Env → Option D} {env : J.Env} {Q : Out → Prop} {k a : Int} {i j : Nat} {rows xs : List D}
def aaR (i : Nat) (k : Int) (rows : List D) (env : J.Env) (Q : Out → Prop) (j : Nat) : Option D → Prop := fun o => match o with
  | some (.lst true xs) => xs.length < 1000000 ∧ Q (.nx (env.set i (some (.lst true (rows.set j (.lst true (xs ++ [.int k])))))))
  | _ => False
def aaQ (i : Nat) (k : Int) (rows : List D) (env : J.Env) (Q : Out → Prop) : Option Nat → Prop := fun o => match o with
  | some j => aaR i k rows env Q j rows[j]?
  | none => False
def aaP (i : Nat) (k : Int) (env : J.Env) (Q : Out → Prop) : Option D → Option (Option D) → Prop := fun o o2 => match o, o2 with
  | some (.int a), some (some (.lst true rows)) => aaQ i k rows env Q (ixN rows.length a)
  | _, _ => False
theorem wz_apAt : Wo (apAtO i fa k env) Q ↔ aaP i k env Q (fa env) env[i]? := by
  unfold apAtO aaP
  split
  · rename_i ka rows ea ei
    unfold aaQ
    cases ixN rows.length ka with
    | none => exact Iff.rfl
    | some j =>
      dsimp only
      unfold aaR
      split
      · rename_i xs e
        by_cases h : xs.length < 1000000
        · rw [if_pos h]; exact ⟨fun z => ⟨h, z⟩, fun z => z.2⟩
        · rw [if_neg h]; exact ⟨fun z => False.elim z, fun z => absurd z.1 h⟩
      · exact Iff.rfl
  · exact Iff.rfl
theorem wz_aaP : aaP i k env Q (some (.int a)) (some (some (.lst true rows))) ↔ aaQ i k rows env Q (ixN rows.length a) := Iff.rfl
theorem wz_aaQ : aaQ i k rows env Q (some j) ↔ aaR i k rows env Q j rows[j]? := Iff.rfl
theorem wz_aaR (h : xs.length < 1000000) : aaR i k rows env Q j (some (.lst true xs)) ↔ Q (.nx (env.set i (some (.lst true (rows.set j (.lst true (xs ++ [.int k]))))))) := ⟨fun z => z.2, fun z => ⟨h, z⟩⟩
end
end J
/-! x != y, two instances of a class with an == of its own -/
namespace J
open PySem L2 PySem.Spec PyProof.Rows
def isIns (c : Nat) : D → Bool
  | .ins _ c' _ _ => c' == c
  | _ => false
end J
namespace J
open PySem L2 PySem.Spec PyProof.Rows
/-! isinstance(x, C), x an instance of C -/
def isiI (c : Nat) (d : D) : Option D := if isIns c d then some (.bl true) else none
end J
namespace J
open PySem L2 PySem.Spec PyProof.Rows
theorem wa_isiIt {c : Nat} {o : Bool} {ns : List Str} {ds : List D} : isiI c (.ins o c ns ds) = some (.bl true) := by
  have h : isIns c (.ins o c ns ds) = true := beq_self_eq_true c
  unfold isiI
  rw [if_pos h]
end J
/-! goals that no tactic unfolds (refine, obtain look at a goal's head: a run would be walked) -/
namespace J
open PySem L2 PySem.Spec PyProof.Rows
structure Hid (p : Prop) : Prop where
  h : p
theorem hid_true : Hid True ↔ True := ⟨fun _ => trivial, fun _ => ⟨trivial⟩⟩
theorem eq_of_WrH {α : Type} {r : R α} {a : α} {e : J.Env} (h : ∀ Q : α → J.Env → Prop, Q a e → Hid (Wr r Q noX)) : r = .ok a e := eq_of_Wr fun Q hQ => (h Q hQ).h
section
variable {g : D → J.Env → Option J.Env} {e : J.Env} {Q : Out → Prop} {X : XQ} {ds xs : List D} {s : J.Env → Out} {cb : J.Env → R Bool} {fx : J.Env → R D} {vs : List Nat} {QD : D → J.Env → Prop} {QL : List D → J.Env → Prop} {α : Type} {f : α → D} {l : List α}
theorem W_forH (I : Nat → J.Env → Prop) (h0 : I 0 e) (hs : ∀ i d e, ds[i]? = some d → I i e → Hid (Wg (g d e) (bodQ s (I (i + 1)) Q))) (hq : ∀ e, I ds.length e → Hid (Q (.nx e))) : Hid (Wo (forL g s ds e) Q) := ⟨W_for I h0 (fun i d e a b => (hs i d e a b).h) fun e h => (hq e h).h⟩
theorem W_forPH (I : List α → J.Env → Prop) (h0 : I [] e) (hs : ∀ done a rest e, l = done ++ a :: rest → I done e → Hid (Wg (g (f a) e) (bodQ s (I (done ++ [a])) Q))) (hq : ∀ e, I l e → Hid (Q (.nx e))) : Hid (Wo (forL g s (l.map f) e) Q) := ⟨W_forP I h0 (fun d a r e x y => (hs d a r e x y).h) fun e h => (hq e h).h⟩
end
end J
/-! xs.count(b), b a truth value that stands there -/
/-! d[k] = b, sorted(d): dicts with keys that are ints or texts -/
/-! an expression that reads alone, its value without lists: what is owned stays owned -/
namespace J
open PySem L2 PySem.Spec PyProof.Rows
def fzE (e : J.Env) : J.Env := e.map (Option.map D.fz)
section
variable {K : PySem.W.Frag} {C : Nat → Addr} {M M' : Addr → Prop} {H : Hp}
theorem repO_fz (m : ∀ b, M' b → M b) : ∀ {σ : List (Option V)} {e : J.Env} {F : List Addr}, RepO K C M H σ e F → (∀ b ∈ F, ¬ M' b) → RepO K C M' H σ (fzE e) []
  | _, _, _, .nil, _ => .nil
  | _, _, _, .gone t, k => .gone (repO_fz m t k)
  | _, _, _, .have_ h t, k => .have_ (F := []) (G := []) (rep_fz m h fun b hb => k b (List.mem_append_left _ hb)) (repO_fz m t fun b hb => k b (List.mem_append_right _ hb))
end
section
variable {K : PySem.W.Frag} {C : CT} {W : Wish} {f : J.Env → R D} {σ : L2.St} {H H1 : Hp} {Q : VK} {M0 : Addr → Prop} {env e : J.Env} {F F1 : List Addr} {v : V} {d : D}
theorem Rel.frzAll (r : Rel K C M0 H σ env F) : Rel K C M0 H σ (fzE env) [] := by
  have sub : ∀ b, orF M0 [] b → orF M0 F b := fun b z => z.elim .inl fun z => nomatch z
  exact ⟨repO_fz sub r.rep fun b hb z => z.elim (r.dj b hb) fun z => absurd z List.not_mem_nil, List.nodup_nil, fun b hb => absurd hb List.not_mem_nil, r.al, r.zd.mono (hide_mono (.refl _) fun b z => .inl (sub b z))⟩
end
theorem kit_ty {K : PySem.W.Frag} {T : String} {D : Addr} {b : Bool} (hm : PySem.W.kitMeta T = true) (h : PySem.W.subIn K (.ref D) (.type T) = some b) : PySem.W.kitOne K (.ref D) (.type T) = some b := by
  show (if (Value.ref D == Value.type T) = true then some true else if PySem.W.kitMeta T = true then PySem.W.subIn K (.ref D) (.type T) else none) = some b
  have e1 : (Value.ref D == Value.type T) = false := rfl
  rw [e1, if_neg (by decide), if_pos hm]
  exact h
end J
/-! str(i); == of texts, whatever they hold -/
/-! dicts with tuple keys: rules of the heap -/
/-! dicts of any keys, pure words: d[k], k in d, d[k] = x, displays, comprehensions -/
namespace J
open PySem L2 PySem.Spec PyProof.Rows
section
variable {κ : Type} [DecidableEq κ] {α β : Type}
def hasG (ks : List κ) (k : κ) : Bool := ks.any fun z => decide (z = k)
def putH : List κ → List α → κ → α → List α
  | k' :: ks, x' :: xs, k, x => (if k' = k then x else x') :: putH ks xs k x
  | _, _, _, _ => []
def gV (ks : List κ) (xs : List α) (k : κ) (x : α) : List α := if hasG ks k then putH ks xs k x else xs ++ [x]
end
section
variable {K : PySem.W.Frag} {C : CT} {W : Wish} {kp : List Nat} {M M0 : Addr → Prop} {H : Hp} {σ : L2.St} {env : J.Env} {F : List Addr}
theorem rd_hide {a : Addr} {u : HO} (h : Rd (hide M H) a u) (n : NT u := by first | assumption | exact fun _ z => nomatch z) : Rd H a u := rd_le h n
/-- what is read is what the pure word says -/
def DgOk (K : PySem.W.Frag) (C : CT) (M : Addr → Prop) (H : Hp) (F : List Addr) : Option D → Option V → Prop
  | some x, some u => ∃ G, Rep K C M H u x G ∧ ∀ b ∈ G, b ∈ F
  | none, none => True
  | _, _ => False
theorem DgOk.mono {F F' : List Addr} {o : Option D} {r : Option V} (h : DgOk K C M H F o r) (s : ∀ b ∈ F, b ∈ F') : DgOk K C M H F' o r := by
  cases o <;> cases r <;> try exact h
  obtain ⟨G, h1, h2⟩ := h
  exact ⟨G, h1, fun b hb => s b (h2 b hb)⟩
end
section
variable {K : PySem.W.Frag} {C : CT} {W : Wish} {kp : List Nat} {M M0 : Addr → Prop} {H H' : Hp} {σ : L2.St} {env : J.Env} {F F' : List Addr}
theorem lt_size {n : Nat} (h : n < 1000000) : n < sizeLine := Nat.lt_of_lt_of_le h (by rw [sizeLine_eq]; decide)
end
end J
/-! sorted(list of pairs), sorted(dict of pairs), list(dict of tuples) -/
/-! loops over dicts: a dict is locked while it is walked -/
namespace J
open PySem L2 PySem.Spec PyProof.Rows
mutual
/-- no dict with keys that are ints or texts, but tables -/
def D.noDK : D → Bool
  | .non => true | .bl _ => true | .int _ => true | .str _ => true | .hole => true | .exc => true | .scr _ => true
  | .lst _ xs => D.noDKL xs
  | .tup xs => D.noDKL xs
  | .dK o _ vs => o && D.noDKL vs
  | .tK _ vs => D.noDKL vs
  | .dT _ _ vs => D.noDKL vs
  | .ins _ _ _ vs => D.noDKL vs
def D.noDKL : List D → Bool
  | [] => true
  | d :: ds => d.noDK && D.noDKL ds
end
def noDKE : J.Env → Bool
  | [] => true
  | none :: e => noDKE e
  | some d :: e => d.noDK && noDKE e
/-- u is a dict's content -/
def Tab (u : HO) : Prop := (∃ kvs, u = .dT kvs) ∨ ∃ kvs, u = .dK kvs
/-- H' is H but for the lock of d -/
structure Lk (d : Addr) (u : HO) (H H' : Hp) : Prop where
  tab : Tab u
  old : Rd H d u
  new : Rd H' d u
  same : ∀ b, b ≠ d → H' b = H b
/-- nothing of the kind is seen as a dict that is not locked -/
def Lf (d : Addr) (u : HO) (H : Hp) : Prop := (∀ kvs, u ≠ .dK kvs) ∨ ∃ o, H d = some (.frz o u)
section
variable {K : PySem.W.Frag} {C : CT} {W : Wish} {kp : List Nat} {M M0 : Addr → Prop} {H H' : Hp} {σ : L2.St} {env : J.Env} {F F' : List Addr} {d : Addr} {u : HO}
theorem Lk.ne (L : Lk d u H H') {a : Addr} {o : HO} (h : H a = some o) (h1 : ∀ kvs, o ≠ .dT kvs) (h2 : ∀ kvs, o ≠ .dK kvs) (h3 : ∀ ob w, Tab w → o ≠ .frz ob w) : a ≠ d := by
  rintro rfl
  rcases L.old with q | ⟨ob, q⟩
  · rw [h] at q
    obtain rfl := Option.some.inj q
    rcases L.tab with ⟨kvs, e⟩ | ⟨kvs, e⟩
    · exact h1 _ e
    · exact h2 _ e
  · rw [h] at q
    exact h3 ob u L.tab (Option.some.inj q)
theorem codeO_nf {c : Addr} {q : Str} {o : HO} (h : LamX.CodeO c q = o) (n : ∀ φ, o ≠ .ext φ) : False := n _ h.symm
theorem Lk.symm (L : Lk d u H H') : Lk d u H' H := ⟨L.tab, L.new, L.old, fun b n => (L.same b n).symm⟩
theorem Lk.tbk (L : Lk d u H H') : TbK H H' := fun P ps e => by
  have nP : P ≠ d := L.ne e (fun _ z => nomatch z) (fun _ z => nomatch z) (fun _ _ _ z => nomatch z)
  refine ⟨ps, by rw [L.same P nP]; exact e, fun t => ?_⟩
  obtain ⟨qs, h1, h2, h3⟩ := t
  refine ⟨qs, by rw [L.same P nP]; exact h1, h2, fun pos cv hc => ?_⟩
  obtain ⟨c, e1, e2⟩ := h3 pos cv hc
  have nc : c ≠ d := L.ne e2 (fun _ z => codeO_nf z fun _ y => nomatch y) (fun _ z => codeO_nf z fun _ y => nomatch y) (fun _ _ _ z => codeO_nf z fun _ y => nomatch y)
  exact ⟨c, e1, by rw [L.same c nc]; exact e2⟩
theorem Lk.hid (L : Lk d u H H') {a : Addr} (n : a ≠ d) : hide M H' a = hide M H a := by
  by_cases z : M a
  · rw [hide_in z, hide_in z]
  · unfold hide
    rw [if_neg z, if_neg z, L.same a n]
    split
    · by_cases t : LamX.TabS H a lamQ
      · rw [if_pos t, if_pos (L.tbk.at t)]
      · rw [if_neg t, if_neg fun t2 => t (L.symm.tbk.at t2)]
    · rfl
theorem Lk.hideAt (L : Lk d u H H') {a : Addr} {o : HO} (h : hide M H a = some o) (h1 : ∀ kvs, o ≠ .dT kvs) (h2 : ∀ kvs, o ≠ .dK kvs) (h3 : ∀ ob w, Tab w → o ≠ .frz ob w) : hide M H' a = some o := by
  obtain ⟨_, q⟩ := hide_cases h
  rcases q with ⟨_, q⟩ | ⟨rfl, t⟩
  · rw [L.hid (L.ne q h1 h2 h3)]; exact h
  · obtain ⟨ps, e, _⟩ := t
    rw [L.hid (L.ne e (fun _ z => nomatch z) (fun _ z => nomatch z) (fun _ _ _ z => nomatch z))]; exact h
theorem frz_inj {o o' : Obj} {u u' : HO} (h : HO.frz o u = .frz o' u') : u = u' := by injection h
/-- a dict that may be locked -/
theorem Lk.rd (L : Lk d u H H') {a : Addr} {w : HO} (hw : Tab w) (h : Rd (J.hide M H) a w) : Rd (J.hide M H') a w := by
  by_cases n : a = d
  · subst n
    have hM : ¬ M a := by
      rcases h with h | ⟨o, h⟩
      · exact hide_no h
      · exact hide_no h
    have nw : NT w := by
      rcases hw with ⟨_, rfl⟩ | ⟨_, rfl⟩ <;> exact fun _ z => nomatch z
    have h0 : Rd H a w := rd_hide h nw
    have e : u = w := by
      rcases L.old with q | ⟨o, q⟩ <;> rcases h0 with r | ⟨o', r⟩ <;> rw [q] at r <;> have r := Option.some.inj r
      · exact r
      · subst r
        rcases L.tab with ⟨_, e⟩ | ⟨_, e⟩ <;> cases e
      · subst r
        rcases hw with ⟨_, e⟩ | ⟨_, e⟩ <;> cases e
      · exact frz_inj r
    subst e
    rcases L.new with q | ⟨o, q⟩
    · exact .inl (hide_at hM q nw)
    · exact .inr ⟨o, hide_at hM q⟩
  · rcases h with h | ⟨o, h⟩
    · exact .inl (by rw [L.hid n]; exact h)
    · exact .inr ⟨o, by rw [L.hid n]; exact h⟩
theorem Lk.sq (L : Lk d u H H') {a : Addr} {xs : List V} (h : SqL K (J.hide M H) a xs) : SqL K (J.hide M H') a xs := by
  rcases h with h | h
  · refine .inl ?_
    rcases h with h | ⟨o, h⟩
    · exact .inl (L.hideAt h (fun _ z => nomatch z) (fun _ z => nomatch z) fun _ _ _ z => nomatch z)
    · refine .inr ⟨o, L.hideAt h (fun _ z => nomatch z) (fun _ z => nomatch z) fun ob w t z => ?_⟩
      injection z with _ z
      subst z
      rcases t with ⟨_, e⟩ | ⟨_, e⟩ <;> cases e
  · exact .inr h
mutual
theorem rep_lk (L : Lk d u H H') : ∀ {v : V} {x : D} {F : List Addr}, Rep K C M H v x F → d ∉ F → (Lf d u H ∨ x.noDK = true) → Rep K C M H' v x F
  | _, _, _, .non, _, _ => .non
  | _, _, _, .bl b, _, _ => .bl b
  | _, _, _, .int i, _, _ => .int i
  | _, _, _, .str x, _, _ => .str x
  | _, _, _, .hole v, _, _ => .hole v
  | _, _, _, .exc, _, _ => .exc
  | _, _, _, .lst h e t, n, k => .lst (L.hideAt h (fun _ z => nomatch z) (fun _ z => nomatch z) fun _ _ _ z => nomatch z) e (repL_lk L t n k)
  | _, _, _, .scr h, _, _ => .scr (L.sq h)
  | _, _, _, .own h t, n, k => .own (by rw [L.same _ fun e => n (e ▸ List.mem_cons_self ..)]; exact h) (repL_lk L t (fun z => n (List.mem_cons_of_mem _ z)) k)
  | _, _, _, .tup h t, n, k => .tup (L.hideAt h (fun _ z => nomatch z) (fun _ z => nomatch z) fun _ _ _ z => nomatch z) (repL_lk L t n k)
  | _, _, _, .dKf (a := a) h l e t, n, k => by
    have na : a ≠ d := by
      rintro rfl
      have h0 := (hide_some h).1
      rcases k with (q | ⟨o, q⟩) | q
      · rcases L.old with z | ⟨o, z⟩
        · rw [h0] at z; exact q _ (Option.some.inj z).symm
        · rw [h0] at z; cases z
      · rw [h0] at q; cases q
      · simp [D.noDK] at q
    refine .dKf (by rw [L.hid na]; exact h) l e (repL_lk L t n (k.imp id fun q => ?_))
    simp [D.noDK] at q
  | _, _, _, .dKo h l t, n, k => .dKo (by rw [L.same _ fun e => n (e ▸ List.mem_cons_self ..)]; exact h) l (repL_lk L t (fun z => n (List.mem_cons_of_mem _ z)) (k.imp id fun q => by simpa [D.noDK] using q))
  | _, _, _, .tK h l e t, n, k => .tK (L.rd (.inr ⟨_, rfl⟩) h) l e (repL_lk L t n k)
  | _, _, _, .dTf h l e t, n, k => .dTf (L.rd (.inl ⟨_, rfl⟩) h) l e (repL_lk L t n k)
  | _, _, _, .dTo h l t, n, k => .dTo (by rw [L.same _ fun e => n (e ▸ List.mem_cons_self ..)]; exact h) l (repL_lk L t (fun z => n (List.mem_cons_of_mem _ z)) k)
  | _, _, _, .insF h l e t, n, k => .insF (L.hideAt h (fun _ z => nomatch z) (fun _ z => nomatch z) fun _ _ _ z => nomatch z) l e (repL_lk L t n k)
  | _, _, _, .insO h l t, n, k => .insO (by rw [L.same _ fun e => n (e ▸ List.mem_cons_self ..)]; exact h) l (repL_lk L t (fun z => n (List.mem_cons_of_mem _ z)) k)
theorem repL_lk (L : Lk d u H H') : ∀ {vs : List V} {xs : List D} {F : List Addr}, RepL K C M H vs xs F → d ∉ F → (Lf d u H ∨ D.noDKL xs = true) → RepL K C M H' vs xs F
  | _, _, _, .nil, _, _ => .nil
  | _, _, _, .cons h t, n, k => .cons (rep_lk L h (fun z => n (List.mem_append_left _ z)) (k.imp id fun q => by simp only [D.noDKL, Bool.and_eq_true] at q; exact q.1)) (repL_lk L t (fun z => n (List.mem_append_right _ z)) (k.imp id fun q => by simp only [D.noDKL, Bool.and_eq_true] at q; exact q.2))
end
theorem repO_lk (L : Lk d u H H') : ∀ {σ : List (Option V)} {e : J.Env} {F : List Addr}, RepO K C M H σ e F → d ∉ F → (Lf d u H ∨ noDKE e = true) → RepO K C M H' σ e F
  | _, _, _, .nil, _, _ => .nil
  | _, _, _, .gone t, n, k => .gone (repO_lk L t n k)
  | _, _, _, .have_ h t, n, k => .have_ (rep_lk L h (fun z => n (List.mem_append_left _ z)) (k.imp id fun q => by simp only [noDKE, Bool.and_eq_true] at q; exact q.1)) (repO_lk L t (fun z => n (List.mem_append_right _ z)) (k.imp id fun q => by simp only [noDKE, Bool.and_eq_true] at q; exact q.2))
theorem Rel.lk (L : Lk d u H H') (r : Rel K C M0 H σ env F) (n : d ∉ F) (k : Lf d u H ∨ (noDKE env = true ∧ C.z = none)) : Rel K C M0 H' σ env F := by
  refine ⟨repO_lk L r.rep n (k.imp id And.left), r.nd, r.dj, fun b z => ?_, fun y hy => ?_, fun p hp => L.hideAt (r.zd.2 p hp) (fun _ z => nomatch z) (fun _ z => nomatch z) (fun _ _ _ z => nomatch z)⟩
  · by_cases e : b = d
    · subst e
      rcases L.new with q | ⟨o, q⟩
      · refine ⟨_, q, ?_⟩
        rcases L.tab with ⟨_, e2⟩ | ⟨_, e2⟩ <;> rw [e2] <;> exact ⟨(fun _ z => nomatch z), (fun _ z => nomatch z), fun _ z => nomatch z⟩
      · exact liv_of q
    · obtain ⟨o, e1, e2⟩ := r.al b z
      exact ⟨o, by rw [L.same b e]; exact e1, e2⟩
  · obtain ⟨h1, h2, h3⟩ := r.zd.1 y hy
    refine ⟨L.hideAt h1 (fun _ z => nomatch z) (fun _ z => nomatch z) (fun _ _ _ z => nomatch z), h2, repL_lk L h3 List.not_mem_nil ?_⟩
    rcases k with k | k
    · exact .inl k
    · rw [k.2] at hy; cases hy
end
end J
/-! dicts: the rules of the printed rows; symbolic runs -/
/-! max and min of one list, xs.index(k), t[j].append(e) where t is a tuple of own lists -/
/-! a comparison as a test that only reads: what is owned stays owned -/
/-! xs.clear(); x = found[a] and x[b] = e behind it -/
/-! zip(a, b, strict=True) of two lists of one length -/
/-! zip(a, b, strict=True): the pure word -/
/-! A suite's exception handed to a def; try with two and more named clauses. -/
namespace J
open PySem L2 PySem.Spec PyProof.Rows L2H
theorem roomMark {k : Nat} {A : Around} {v : Option Value} (r : Room k A) : RoomH k (A.mark v) := ⟨r.dp, r.un⟩
/-! ### try with several named clauses -/
end J
namespace J
open PySem L2 PySem.Spec PyProof.Rows L2H
theorem _root_.L2H.RoomH.units {k : Nat} {A : Around} (r : RoomH k A) : A.units + 64 < cLine := by have := r.un; omega
end J
/-! x = found[a], found.append(e) behind it: the item is read alone, it stays owned -/
namespace J
open PySem L2 PySem.Spec PyProof.Rows
mutual
/-- new lists and tuples over words and numbers: nothing that stands elsewhere -/
def D.fresh : D → Bool
  | .non => true | .bl _ => true | .int _ => true | .str _ => true
  | .tup xs => D.freshL xs
  | .lst o xs => o && D.freshL xs
  | _ => false
def D.freshL : List D → Bool
  | [] => true
  | d :: ds => d.fresh && D.freshL ds
end
end J
/-! t[::-1] of a pair -/
/-! paths: what stands in a slot, in a field of an own instance, in an own list; lent to a def that writes it -/
namespace J
open PySem L2 PySem.Spec PyProof.Rows
inductive Pth where
  | sl (i : Nat)
  | fd (i c : Nat) (f : Str)
  | el (i j : Nat)
def pthV (C : CT) (σ : L2.St) (H : Hp) (v : V) : Pth → Prop
  | .sl i => σ[i]? = some (some v)
  | .fd i c f => ∃ a dx fs, σ[i]? = some (some (.ref a)) ∧ H a = some (.ins (C c) dx fs) ∧ fs.lookup f = some v
  | .el i j => ∃ a vs, σ[i]? = some (some (.ref a)) ∧ H a = some (.lst vs) ∧ vs[j]? = some v
section
variable {K : PySem.W.Frag} {C : CT} {M M' M0 : Addr → Prop} {H H' : Hp} {σ : L2.St} {env : J.Env} {F G Fr : List Addr} {v w : V} {d : D}
theorem pthV.same {p : Pth} (s : SameW H H') (h : pthV C σ H v p) : pthV C σ H' v p := by
  cases p with
  | sl i => exact h
  | fd i c f => obtain ⟨a, dx, fs, h1, h2, h3⟩ := h; exact ⟨a, dx, fs, h1, s.keep _ _ h2, h3⟩
  | el i j => obtain ⟨a, vs, h1, h2, h3⟩ := h; exact ⟨a, vs, h1, s.keep _ _ h2, h3⟩
theorem pthV.fn {p : Pth} (h : pthV C σ H v p) (h2 : pthV C σ H w p) : v = w := by
  cases p with
  | sl i =>
    have h : σ[i]? = some (some v) := h
    have h2 : σ[i]? = some (some w) := h2
    rw [h] at h2; cases h2; rfl
  | fd i c f =>
    obtain ⟨a, dx, fs, h1, h3, h4⟩ := h
    obtain ⟨a', dx', fs', k1, k3, k4⟩ := h2
    rw [h1] at k1; cases k1
    rw [h3] at k3; cases k3
    rw [h4] at k4; cases k4; rfl
  | el i j =>
    obtain ⟨a, vs, h1, h3, h4⟩ := h
    obtain ⟨a', vs', k1, k3, k4⟩ := h2
    rw [h1] at k1; cases k1
    rw [h3] at k3; cases k3
    rw [h4] at k4; cases k4; rfl
end
/-! what is left to be done -/
end J
/-! for x in xs, where xs is an own list of a parameter and the body writes x's object alone -/
/-! xs[a], xs[b] = xs[b], xs[a] for an own list -/
/-! xs[a] op= e for an own list of ints -/
/-! o.f.append(e) and o.f = e, own values in the fields of an own instance -/
/-! an expression that reads alone and gives a flat value or a new list of flat values -/
/-! an expression that reads alone and gives a new list of flat items: what is owned stays owned -/
/-! The law's own promise out of its pure run. -/
namespace J
open PySem L2 PySem.Spec PyProof.Rows
def spLaw (K : PySem.W.Frag) (T : List Addr) : Sp := fun vs H Q _ => ∃ (a : Addr) (ns : List Int), vs = [.ref a] ∧ SqL K H a (ns.map V.int) ∧ ns.length ≤ 63 ∧ (∀ p ∈ T, H p = some (.tbl #[])) ∧ ∀ H', Q (.bl true) H'
theorem law_fng {P : Program} {w : World} {K : PySem.W.Frag} {mg : Str → Option Value} {base : Heap} {C : CT} {k : Nat} {f : Addr} {fd : FuncData} {ps : List Str} {run : List D → R D} (hz : C.z = none)
    (h : ∀ ns : List Int, ns.length ≤ 63 → ∃ outs, run [.scr (ns.map .int)] = .ok (.bl true) outs) (F : FnU P w K mg base k f fd ps (spP K C 1 run)) : FnG P w K mg base k f fd ps (spLaw K C.t) := by
  have key : ∀ (vs : List V) (H : Hp) (Q : VK) (E : XK), spLaw K C.t vs H Q E → spP K C 1 run vs H Q E0 := by
    rintro vs H Q E ⟨a, ns, rfl, hs, hl, ht, hq⟩
    obtain ⟨outs, er⟩ := h ns hl
    refine ⟨rfl, fun _ => False, [.scr (ns.map .int)], [], ⟨?_, .nil, fun b hb => absurd hb List.not_mem_nil, fun b z => z.elim, ⟨fun z e => (by rw [hz] at e; cases e), fun p hp => hide_tab (fun z => z.elim id fun q => absurd q List.not_mem_nil) (.nil (ht p hp))⟩⟩, ?_⟩
    · have nm : ∀ b, ¬ orF (fun _ => False) [] b := fun b z => z.elim id fun q => absurd q List.not_mem_nil
      exact .have_ (F := []) (G := []) (.scr (hs.imp (fun r => r.imp (fun q => hide_at (nm _) q) fun ⟨o, q⟩ => ⟨o, hide_at (nm _) q⟩) id)) .nil
    · rw [er]
      intro v H' F' r _
      have rr := r.rep
      cases rr with
      | have_ hv _ => cases hv; exact hq H'
  refine ⟨fun vs H Q E q => F.len vs H Q E0 (key vs H Q E q), fun A hg outer s H args us vs Q E hr e0 hb r q => ?_⟩
  refine codeAny_mono (F.run A hg outer s H args us vs Q E0 hr e0 hb r (key vs H Q E q)) fun rr s' z => ?_
  match rr, z with
  | .ok (.ret u), z => exact z
  | .ok .next, z => exact z.elim
  | .ok .brk, z => exact z.elim
  | .ok .cont, z => exact z.elim
  | .error e, z =>
    obtain ⟨_, _, _, _, _, _, _, _, _, _, _, _, z⟩ := z
    exact z.elim
end J
/-! A lambda without parameters that is handed to a def, while no repr is under way. -/
namespace J
open PySem L2 PySem.Spec PyProof.Rows LamX
section
variable {X : Cx} {pins : List (Addr × Obj)} {σ : L2.St} {H HZ : Hp} {s s1 : Shared}
/-- the call of the lambda in the def that got it -/
theorem pe_actG {CXg : CXT} {Eg : XK} {Ng : List Str} {qg : Str} {sg : Scope} {g f c' : Addr} {cdg pm ctv : Value} {params : Arguments} {body : Expr} {scope : Scope} {k i : Nat} {a : Str} {pn : List (Addr × Obj)} {xe : Value → Shared → Prop} {W : WX} {E : XK} {tb : TE} {p1 p2 : Pos}
    (hgd : X.A.guards = some []) (I : Inv X pins σ H s) (L : LamS X.env.scope scope) (hf : s.heap.get? f = some (PySem.W.kla_obj "<lambda>" (X.env.qual ++ "<lambda>") params body scope (cloFrom X.env.cells scope.names []) pm c' ctv)) (hfn : H f = none) (hfr : f ∉ frs X.stack)
    (hbind : bindArgs (PySem.W.kla_fn "<lambda>" (X.env.qual ++ "<lambda>") params body scope (cloFrom X.env.cells scope.names []) pm (.ref c') ctv) ⟨[], []⟩ = pure [])
    (tk : Takes ((cxOf CXg X.prog X.w X.K X.mg X.base Ng qg sg g cdg X.A X.stack s H Eg).tr pn xe) W) (hW : ∀ cls d σ' H', E cls d H' → W cls d σ' H') (hr : Room (k + 1) (X.A.deeper (envOfC qg sg s.heap.objs.size g cdg)))
    (hbody : ∀ (A : Around) (outer : List PySem.Env) (s : Shared) (H : Hp), A.guards = some [] → Room k (A.deeper (lamEnv X scope s.heap.objs.size f c')) → PE (lamCx X A outer s H E scope f c') body tb)
    (hN : Ng[i]? = some a) (hv : Vis sg a) (hd : (a == ("__debug__" : Str)) = false := by decide) (hcd : (a == ("__classdict__" : Str)) = false := by decide) :
    PE ((cxOf CXg X.prog X.w X.K X.mg X.base Ng qg sg g cdg X.A X.stack s H Eg).tr pn xe) (.Call (.Name a p1) [] [] p2) (fun σZ HZ Q => σZ[i]? = some (some (.ref f)) ∧ HZ c' = some (CodeO c' (X.env.qual ++ "<lambda>")) ∧ tb σ HZ Q) := by
  refine ⟨fun pinsZ sZ σZ HZ Q IZ h => ?_⟩
  obtain ⟨hs, hc, ht⟩ := h
  refine wpAny_Call_Name_kw (thn ((pe_var (pos := p1) (i := i) hN hv hd hcd).run pinsZ sZ σZ HZ (fun v H1 => v = .ref f ∧ H1 = HZ) IZ ⟨.ref f, hs, rfl, rfl⟩) fun u s1 ⟨v, H1, I1, r1, q1⟩ => ?_)
  obtain ⟨rfl, rfl⟩ := q1
  obtain rfl : u = Value.ref f := r1
  have un : Un (frs X.stack) [] H H1 s.heap s1.heap := I1.base
  have of1 := un.keep f _ hf hfn hfr fun z => nomatch (show f ∈ ([] : List Addr) from z)
  have rc : codeAny (model X.prog X.w) (X.A.deeper (envOfC qg sg s.heap.objs.size g cdg)) (.call (.ref f) ⟨[], []⟩) (CR (L2.CX X.prog X.w) (envOfC qg sg s.heap.objs.size g cdg :: X.stack) X.prog X.w H1 s1 Q E) s1 := by
    obtain ⟨⟨oc, vs, t, hoc, hdc, hvc⟩, -⟩ := I1.hok c' _ hc
    refine PySem.W.kla_callFunE hr.depth of1 rfl L.co L.gen rfl ⟨c', oc, vs, t, rfl, hoc, hdc, hvc⟩ ?_
    rw [hbind]
    refine wpAny_pure (wpAny_newFunctionEnv (fun y hy => (L.own y hy).2) (fun y hy => absurd hy (by simp)) (fun h₁ hns hsb => ⟨I1.nolimit.fresh _ hsb, PySem.W.kla_codeExpr ?_⟩) L.kind)
    have J := lam_start2 (E := E) (tk := s1.toks + ([] : List (Str × Value)).length) (c' := c') (f := f) I L I1.env0 hr.hd un hns fun b o e => hsb.extBut b o (Nat.ne_of_lt (Heap.lt_size e)) (Heap.get?_push_of_some _ e)
    exact wpAny_mono ((hbody (X.A.deeper (envOfC qg sg s.heap.objs.size g cdg)) _ s1 H1 hgd (hr.deeper _)).run [] _ _ H1 Q J ht) (fun v s' ⟨w', H', J', rv, q⟩ => ⟨w', H', J'.os, J'.bare, J'.base, J'.hok, rv, q⟩) fun e s' hq => hq
  refine PySem.W.callWith_F0 ⟨_, _, _, _, of1⟩ (wpAny_call (codeAny_mono rc fun r s' hq => ?_))
  match r, hq with
    | .error e, hq => exact passes_call tk hW pinsZ σZ H1 s1 e s' I1 hq
    | .ok (.ret u), hq => exact I1.after hq
    | .ok .next, hq => exact hq.elim
    | .ok .brk, hq => exact hq.elim
    | .ok .cont, hq => exact hq.elim
end
section
variable {X : Cx} {pins : List (Addr × Obj)} {σ : L2.St} {H : Hp} {s : Shared}
/-- the lambda is made; all stays, the table of code objects may grow -/
theorem lam_makeW {c P : Addr} {params : Arguments} {body : Expr} {scope : Scope} {pos : Pos} {E : Value → Shared → Prop} {Q : Value → Shared → Prop} (I : Inv X pins σ H s) (TB : TabB X.base X.mg c P) (hcode : X.env.code = .ref c)
    (hq : X.env.qual ++ "<lambda>" = lamQ) (hT : TabS H P lamQ) (hdef : defaultsOf params X.env = ([], [])) (hfree : ∀ y ∈ scope.names, y.2 = .free → ∃ c, X.env.cells.lookup y.1 = some c)
    (h : ∀ (f c' : Addr) (pm ctv : Value) (H1 : Hp) (s' : Shared), Inv X pins σ H1 s' → SameW H H1 →
      s'.heap.get? f = some (PySem.W.kla_obj "<lambda>" (X.env.qual ++ "<lambda>") params body scope (cloFrom X.env.cells scope.names []) pm c' ctv) → H1 f = none → f ∉ frs X.stack → H1 c' = some (CodeO c' (X.env.qual ++ "<lambda>")) → Q (.ref f) s') :
    wpAny (model X.prog X.w) X.A (eval (.Lambda params body scope pos) X.env) Q E s := by
  rw [hq] at h
  obtain ⟨ps, hP, ht, ha⟩ := id hT
  have bP : s.heap.BuiltinsAt X.mg P := TB.bm.keeps I.bk
  have hP' := I.hok P _ hP
  have nofr : ∀ f, s.heap.objs.size ≤ f → f ∉ frs X.stack := fun f hf z => by
    rcases List.mem_cons.mp (I.stkSub _ z) with e | e
    · rw [e] at hf
      exact Nat.lt_irrefl _ (Nat.lt_of_lt_of_le I.lt hf)
    · exact I.nofs hf e
  refine PySem.W.kla_eval hdef ?_
  rw [hq]
  cases hc : codeAmong pos ps.toList with
  | some cv =>
    obtain ⟨c', rfl, hco⟩ := ha pos cv hc
    refine PySem.W.kla_makeFunctionHit (mg := X.mg) (c := c) (P := P) (ps := ps) (closure_ok hfree) I.ok.glob (I.mod.glob.keeps I.bk) hcode (TB.code.keeps I.bk) hP' ht hc bP fun ctv h' tk hx hsz => ?_
    exact h h'.objs.size c' ((X.mg "__name__").getD .none) ctv H _ (I.kept fun b o e => Heap.get?_push_of_some _ (hx b o e)) (.refl H) (Heap.get?_push_size _ rfl) (I.hok.fresh hsz) (nofr _ hsz) hco
  | none =>
    refine PySem.W.kla_makeFunction (mg := X.mg) (c := c) (P := P) (ps := ps) (closure_ok hfree) I.ok.glob (I.mod.glob.keeps I.bk) hcode (TB.code.keeps I.bk) hP' ht hc TB.gP bP fun c' ctv h' tk hx hge hlt hrec htb => ?_
    obtain ⟨c2, oc, vs, t, e2, hoc, hd, hv⟩ := hrec
    cases e2
    have hsz : s.heap.objs.size ≤ h'.objs.size := Nat.le_trans hge (Nat.le_of_lt hlt)
    have nC : H c' = none := I.hok.fresh hge
    have nPc : P ≠ c' := ne_of_none hP nC
    have I1 := inv_table (t' := tk) (more := #[rawInt pos.line, rawInt pos.col, .ref c']) (h' := h'.push (PySem.W.kla_obj "<lambda>" lamQ params body scope (cloFrom X.env.cells scope.names []) ((X.mg "__name__").getD .none) c' ctv)) I hP
      (fun b o hb e => Heap.get?_push_of_some _ (hx b o hb e)) (Heap.get?_push_of_some _ htb) hge ⟨oc, vs, t, Heap.get?_push_of_some _ hoc, hd, hv⟩
    have eP : upd (upd H P (.tbl (ps ++ #[rawInt pos.line, rawInt pos.col, .ref c']))) c' (CodeO c' lamQ) P = some (.tbl (ps ++ #[rawInt pos.line, rawInt pos.col, .ref c'])) := by rw [upd_ne nPc, upd_same]
    have kp : ∀ b o, H b = some o → b ≠ P → upd (upd H P (.tbl (ps ++ #[rawInt pos.line, rawInt pos.col, .ref c']))) c' (CodeO c' lamQ) b = some o := fun b o e n => by
      rw [upd_ne (ne_of_none e nC), upd_ne n]; exact e
    have nP : ∀ b o, H b = some o → NT o → b ≠ P := fun b o e n z => n ps (Option.some.inj (e.symm.trans (by rw [z]; exact hP)))
    have eL : (ps ++ #[rawInt pos.line, rawInt pos.col, .ref c']).toList = ps.toList ++ [rawInt pos.line, rawInt pos.col, .ref c'] := by simp
    have SW : SameW H (upd (upd H P (.tbl (ps ++ #[rawInt pos.line, rawInt pos.col, .ref c']))) c' (CodeO c' lamQ)) := by
      refine ⟨fun b o e n => kp b o e (nP b o e n), fun P2 qs e => ?_⟩
      by_cases h2 : P2 = P
      · subst h2
        refine ⟨_, eP, fun _ => ⟨_, eP, by rw [eL]; exact PySem.TriplesOk_snoc _ _ _ _ ht, fun p' cv hcv => ?_⟩⟩
        rw [eL] at hcv
        rcases among_app _ ht hcv with z | z
        · obtain ⟨c0, e1, e2⟩ := ha p' cv z
          exact ⟨c0, e1, kp _ _ e2 (nP _ _ e2 fun _ => codeO_ne _)⟩
        · exact ⟨c', z, upd_same⟩
      · refine ⟨qs, kp _ _ e h2, fun t => ?_⟩
        obtain ⟨rs, a1, a2, a3⟩ := t
        refine ⟨rs, kp _ _ a1 h2, a2, fun p' cv hcv => ?_⟩
        obtain ⟨c0, e1, e2⟩ := a3 p' cv hcv
        exact ⟨c0, e1, kp _ _ e2 (nP _ _ e2 fun _ => codeO_ne _)⟩
    refine h h'.objs.size c' ((X.mg "__name__").getD .none) ctv _ _ I1 SW (Heap.get?_push_size _ rfl) ?_ (nofr _ hsz) upd_same
    have n2 : h'.objs.size ≠ P := Nat.ne_of_gt (Nat.lt_of_lt_of_le (Heap.lt_size hP') hsz)
    rw [upd_ne (Nat.ne_of_gt hlt), upd_ne n2]
    exact I.hok.fresh hsz
end
theorem Takes.len {X : Cx} {W : WX} (t : Takes X W) : Takes X (fun c d σ H => σ.length = X.N.length → W c d σ H) := fun u s' ⟨a, B, sI, pins, σ, H, cls, d, e, I, nb, up, sky, na, os, ag, w⟩ =>
  t u s' ⟨a, B, sI, pins, σ, H, cls, d, e, I, nb, up, sky, na, os, ag, w I.len⟩
section
variable {X : Cx}
/-- x(lambda: body) -/
theorem pe_lamG {TT : (XK → Hp → VK → Prop) → Hp → VK → Prop} {x a : Str} {g c P : Addr} {k : Nat} {pg : Arguments} {bg : List Stmt} {sg : Scope} {dV kV doc pm cdv ct oc : Value} {an od : Option Addr} {osl : Array (Option Value)} {Ng : List Str}
    {params : Arguments} {body : Expr} {scope : Scope} {t : XK → TE} {p lpos pos : Pos} (hgd : X.A.guards = some []) (hg : Gl X x) (hm : X.mg x = some (.ref g)) (hk : PySem.W.keepIn X.K (.ref g) = true)
    (lk : X.K.lookup g = some ⟨oc, od, .func (PySem.W.fnOf x x pg bg sg dV kV doc pm an cdv ct), osl⟩) (hcg : PySem.W.codeIn X.K cdv x = true) (hb : L2.Binds X.K (PySem.W.fnOf x x pg bg sg dV kV doc pm an cdv ct) [a] []) (Sg : FnScope Ng [a] sg) (hNg : Ng[0]? = some a) (hva : Vis sg a)
    (hG : GivesTo X Ng x sg g cdv bg a (X.env.qual ++ "<lambda>") TT)
    (TB : TabB X.base X.mg c P) (hcode : X.env.code = .ref c) (hq : X.env.qual ++ "<lambda>" = lamQ) (hr : Room (k + 2) X.A) (L : LamS X.env.scope scope) (hdef : defaultsOf params X.env = ([], []))
    (hbind : ∀ (q : Str) (cl : List (Str × Addr)) (pm cv ctv : Value), bindArgs (PySem.W.kla_fn "<lambda>" q params body scope cl pm cv ctv) ⟨[], []⟩ = pure [])
    (hbody : ∀ (A : Around) (outer : List PySem.Env) (s : Shared) (H : Hp) (E : XK) (f c' : Addr), A.guards = some [] → Room k (A.deeper (lamEnv X scope s.heap.objs.size f c')) → PE (lamCx X A outer s H E scope f c') body (t E))
    (hdb : (x == ("__debug__" : Str)) = false := by decide) (hd : (a == ("__debug__" : Str)) = false := by decide) (hcd : (a == ("__classdict__" : Str)) = false := by decide) :
    PE X (.Call (.Name x p) [.Lambda params body scope lpos] [] pos) (fun σ H Q => TabS H P lamQ ∧ ∀ H1, SameW H H1 → TT (fun E H' Q' => t E σ H' Q') H1 Q) := by
  refine ⟨fun pins s σ H Q I h => ?_⟩
  obtain ⟨hT, h⟩ := h
  refine wpAny_Call_Name_kw (ld_glob I hg hm ?_ hdb)
  refine PySem.W.callWith_K (h₀ := X.base) I.ok.mod.kin hk ?_ (by rfl) (by rfl)
  show wpAny _ _ (spliced ((false, eval (.Lambda params body scope lpos) X.env) :: backTo pos (starEach [] X.env))) _ _ s
  refine Calls.spliced_cons (lam_makeW I TB hcode hq hT hdef (L.has I.ok) fun f c' pm' ctv H1 s' I1 sw hf hfn hfr hco => Calls.spliced_nil ⟨I1.kIn, ?_⟩)
  have rc : codeAny (model X.prog X.w) X.A (.call (.ref g) ⟨[.ref f], []⟩) (CR C8.CX0 X.stack X.prog X.w H1 s' Q C8.E0) s' := by
    refine run_ofS (N := Ng) (ps := [a]) (us := [.ref f]) (vs := [.ref f]) lk hcg Sg hr I1.env0 (hb s' [.ref f] I1.kIn rfl) (.cons rfl .nil) rfl fun hr' => ?_
    obtain ⟨t', ht', hq'⟩ := hG f c' s' H1 Q (fun E H' Q' => t E σ H' Q') (fun W pn xe E p1 p2 tk hW => pe_actG (i := 0) hgd I1 L hf hfn hfr (hbind _ _ _ _ _) tk hW hr' (fun A outer s H hg2 hr2 => hbody A outer s H E f c' hg2 hr2) hNg hva hd hcd) hco (h H1 sw)
    exact ⟨t', ht'.nox, hq'⟩
  refine wpAny_call (codeAny_mono rc fun r s2 hq => ?_)
  match r, hq with
  | .ok (.ret u), hq => exact I1.after hq
  | .ok .next, hq => exact hq.elim
  | .ok .brk, hq => exact hq.elim
  | .ok .cont, hq => exact hq.elim
  | .error e, hq => exact (show False from hq).elim
end
/-- what the def makes of the lambda's end: "none", or what the clause returns -/
def TTm (K : PySem.W.Frag) (C : CT) (m : List (Nat × Bool)) (cc : Value) (ph : Nat → List Str → List D → J.Env → Out) : (XK → Hp → VK → Prop) → Hp → VK → Prop := fun tl H Q =>
  tl (fun cls d H' => ∀ σ : L2.St, σ.length = 2 → wAs K cc 1 (fun a cls d D σ H => ∃ z : ZT, (z.a = a ∧ cls = Value.ref (C z.c) ∧ d = some z.dd ∧ m.lookup z.c = some true) ∧ tS K (C.hold z) W0 [] (ph z.c z.ns z.ds) D σ H) W00 { nx := fun _ H' => Q (.str "none") H', rt := Q } cls d σ H') H fun _ H' => Q (.str "none") H'
/-- the pure word -/
def lamF (m : List (Nat × Bool)) (ph : Nat → List Str → List D → J.Env → Out) (bf : J.Env → R D) : J.Env → R D := fun env => match bf (fzE env) with
  | .ok _ _ => .ok (.str "none") env
  | .ex c ns vs _ => if m.lookup c = some true ∧ D.noXL vs = true then (match ph c ns vs [none, some .exc] with
    | .rt (.str s) _ => .ok (.str s) env
    | _ => .no) else .no
  | .no => .no
section
variable {K : PySem.W.Frag} {C : CT} {W : Wish} {σ : L2.St} {H : Hp} {Q : VK} {P : Addr} {m : List (Nat × Bool)} {cc : Value} {ph : Nat → List Str → List D → J.Env → Out} {bf : J.Env → R D}
theorem i_lam (hP : P ∈ C.t) (hm : ∀ c b, m.lookup c = some b → PySem.W.exmOne K (.ref (C c)) cc = some b) (h : tOf K C W (lamF m ph bf) σ H Q) :
    TabS H P lamQ ∧ ∀ H1, SameW H H1 → TTm K C m cc ph (fun E H' Q' => tOf K C (fun _ cls d H => E cls d H) bf σ H' Q') H1 Q := by
  obtain ⟨M0, env, F, r, h⟩ := h
  refine ⟨(hide_tabS (r.zd.2 P hP)).2, fun H1 sw => ⟨M0, fzE env, [], (r.growW sw).frzAll, ?_⟩⟩
  have fin : ∀ {s : Str}, okT K C W M0 σ F H Q (.ok (.str s) env) → ∀ H2, SameW H H2 → Q (.str s) H2 := fun {s} h H2 s2 => h (.str s) H2 F ((r.growW s2).data (.str s)) (.same s2 fun b hb => .inl hb)
  unfold lamF at h
  cases eb : bf (fzE env) with
  | no => rw [eb] at h; exact False.elim h
  | ok d e =>
    rw [eb] at h
    exact fun v H2 F2 r2 s2 => fin h H2 (sw.trans s2.w)
  | ex c ns vs e =>
    rw [eb] at h
    dsimp only at h
    intro od us H2 F2 r2 s2 ho hl tl σ2 l2
    by_cases hc : m.lookup c = some true ∧ D.noXL vs = true
    · rw [if_pos hc] at h
      refine ⟨true, hm c true hc.1, fun _ a na => ?_, fun z => nomatch z⟩
      obtain ⟨x0, x1, rfl⟩ : ∃ x0 x1, σ2 = [x0, x1] := by
        match σ2, l2 with
        | [x0, x1], _ => exact ⟨x0, x1, rfl⟩
      obtain ⟨z, hz⟩ : ∃ z : ZT, z = ⟨a, c, od, ns, us, vs⟩ := ⟨_, rfl⟩
      refine ⟨z, ⟨by rw [hz], by rw [hz], by rw [hz], by rw [hz]; exact hc.1⟩, orF M0 F2, [none, some .exc], [], ?_, ?_⟩
      · have hm2 : Same (hide (orF M0 F2) H2) (hide (orF (orF M0 F2) []) H2) := hide_mono (.refl _) fun b y => .inl (Or.elim y id fun q => absurd q List.not_mem_nil)
        have hx : Rep K (C.hold z) (orF (orF M0 F2) []) H2 (.ref a) .exc [] := by
          have q : (C.hold z).cl 999 = a := by rw [CT.hold_999, hz]
          have := Rep.exc (K := K) (C := (C.hold z).cl) (M := orF (orF M0 F2) []) (H := H2)
          rw [q] at this
          exact this
        refine ⟨.gone (.have_ (F := []) (G := []) hx .nil), List.nodup_nil, fun b hb => absurd hb List.not_mem_nil, fun b hb => Or.elim hb (r2.al b) (repO_alive r2.rep b), fun z' hz' => ?_, fun p hp => hm2 _ _ (r2.zd.2 p hp)⟩
        have hz2 : z = z' := Option.some.inj hz'
        subst hz2
        rw [hz]
        exact ⟨hm2 _ _ ho, hl, repL_chg (fun n hn => CT.hold_ne hn) (repL_mono hm2 tl fun _ hb => absurd hb List.not_mem_nil) hc.2⟩
      · rw [show z.c = c by rw [hz], show z.ns = ns by rw [hz], show z.ds = vs by rw [hz]]
        generalize ph c ns vs [none, some .exc] = o at h
        split at h
        case h_2 => exact False.elim h
        intro v σ3 H3 F3 r3 s3 _
        have rr := r3.rep
        cases rr with
        | have_ hv _ =>
          cases hv
          exact fin h H3 (sw.trans (s2.w.trans s3.w))
    · rw [if_neg hc] at h; exact False.elim h
end
/-- the law's call, where a table of code objects is known -/
theorem law_goT {P : Program} {w : World} {K : PySem.W.Frag} {mg mb : Str → Option Value} {k : Nat} {fa a c T : Addr} {fd : FuncData} {x : Str} {sp : Sp} {s₁ : Shared} {vs : List Value} {ns : List Int}
    (KX : K.In s₁.heap) (hns : s₁.heap.Ns mainGlobals mg) (hb : s₁.heap.Ns builtinsNs mb) (hbb : ∀ x : Str, x ≠ "__name__" → mb x = bootBuiltins x) (hlim : s₁.heap.NoLimit) (hg : s₁.gens = #[])
    (hT : s₁.heap.get? T = some { cls := .none, data := .fields #[] }) (nT : K.lookup T = none) (Cd : PySem.W.CodeHd s₁.heap c T)
    (hbm : ∃ (bm : Addr) (ob : Obj), mg "__builtins__" = some (.ref bm) ∧ bm ≠ builtinsNs ∧ s₁.heap.get? bm = some ob ∧ ob.cls = .type "module" ∧ ob.dict = some builtinsNs ∧ ob.data = .plain)
    (ha : s₁.heap.get? a = some { cls := .type "list", data := .seq vs.toArray }) (hi : IntsAre vs ns) (hl : ns.length ≤ sizeLine) (hr : Room k callerA)
    (F : ∀ base : Heap, K.In base → base.Ns mainGlobals mg → TabB base mg c T → FnG P w K mg base k fa fd [x] sp) (hbind : ∀ (s : Shared) (u : Value), BindsTo s fd ⟨[u], []⟩ [(x, u)])
    (hsp : ∀ H : Hp, H T = some (.tbl #[]) → SqL K H a (ns.map V.int) → sp [.ref a] H (fun v _ => v = .bl true) E0) :
    codeAny (model P w) callerA (.call (.ref fa) ⟨[.ref a], []⟩) (fun r s' => r = .ok (.ret (.bool true)) ∧ OldK s₁.heap s'.heap ∧ s'.os = s₁.os ∧ AllBare s'.gens) s₁ := by
  have rv : Vals (ns.map V.int) vs := vals_ints hi
  have hv : vs.length = ns.length := by have := rv.length; rw [List.length_map] at this; exact this.symm
  have naT : a ≠ T := fun z => by rw [z, hT] at ha; cases ha
  let ob : Obj := { cls := .type "list", data := .seq vs.toArray }
  have build : ∀ H : Hp, (∀ b, H b = none ∨ (b = a ∧ H b = some (.frz ob (.lst (ns.map V.int)))) ∨ (b = T ∧ H b = some (.tbl #[]))) → H T = some (.tbl #[]) → (H a ≠ none → K.lookup a = none) → SqL K H a (ns.map V.int) →
      codeAny (model P w) callerA (.call (.ref fa) ⟨[.ref a], []⟩) (fun r s' => r = .ok (.ret (.bool true)) ∧ OldK s₁.heap s'.heap ∧ s'.os = s₁.os ∧ AllBare s'.gens) s₁ := by
    intro H hH hHT hK hS
    have hok : HOk P w H s₁.heap := fun b o e => by
      rcases hH b with z | ⟨rfl, z⟩ | ⟨rfl, z⟩
      · rw [z] at e; cases e
      · rw [z] at e; cases e
        exact ⟨ha, by rw [List.length_map]; exact hl, vs, _, rv, ha⟩
      · rw [z] at e; cases e
        exact hT
    have free : ∀ {b : Addr} {o : Obj}, s₁.heap.get? b = some o → (∀ vs n, o.data ≠ .seq vs n) → o.data ≠ .fields #[] → H b = none := fun {b o} e h1 h2 => by
      rcases hH b with z | ⟨rfl, z⟩ | ⟨rfl, z⟩
      · exact z
      · rw [ha] at e; cases e; exact absurd rfl (h1 _ _)
      · rw [hT] at e; cases e; exact absurd rfl h2
    have ns' : ∀ {b : Addr} {m : Str → Option Value}, s₁.heap.Ns b m → (hidT s₁.heap H).Ns b m := fun {b m} ⟨o, es, ep, e, d, r⟩ => ⟨o, es, ep, hidT_get e (free e (fun _ _ z => by rw [d] at z; cases z) fun z => by rw [d] at z; cases z), d, r⟩
    have kin : K.In (hidT s₁.heap H) := fun b o e => hidT_get (KX b o e) (by
      rcases hH b with z | ⟨rfl, z⟩ | ⟨rfl, z⟩
      · exact z
      · rw [hK (by rw [z]; exact fun q => nomatch q)] at e; cases e
      · rw [nT] at e; cases e)
    have lim : (hidT s₁.heap H).NoLimit := let ⟨mc, h1, h2⟩ := hlim; ⟨mc, ns' h1, h2⟩
    have TB : TabB (hidT s₁.heap H) mg c T := by
      refine ⟨?_, ?_, fun z => ?_⟩
      · obtain ⟨o, us, file, tf, flags, tg, inF, text, tt, e1, r1, r2, r3, r⟩ := Cd
        refine ⟨o, us, file, tf, flags, tg, inF, text, tt, hidT_get e1 (free e1 (fun _ _ z => ?_) fun z => ?_), r1, r2, r3, r⟩
        · rw [r2] at z; cases z
        · rw [r2] at z; cases z; simp at r3
      · obtain ⟨bm, ob, b1, b2, b3, b4, b5, b6⟩ := hbm
        refine ⟨bm, ob, b1, b2, fun q => ?_, fun q => ?_, hidT_get b3 (free b3 (fun _ _ z => ?_) fun z => ?_), b4, b5, b6⟩
        · obtain ⟨o, es, ep, e, hd, _⟩ := hns
          rw [q, e] at b3; cases b3; rw [hd] at b6; cases b6
        · rw [q, hT] at b3; cases b3; cases b6
        · rw [b6] at z; cases z
        · rw [b6] at z; cases z
      · obtain ⟨o, es, ep, e, hd, _⟩ := hns
        rw [z, hT] at e; cases e; cases hd
    have e0 : Env0 P w K mg (hidT s₁.heap H) callerA [] s₁ H := ⟨rfl, ⟨kin, ns' hns, ⟨mb, ns' hb, hbb⟩, lim⟩, fun b o e => of_hidT e, Nat.le_of_eq (hidT_size _ _), trivial, fun b hb => absurd (show b ∈ ([] : List Addr) from hb) (by simp), hok, .of_eq hg⟩
    refine codeAny_mono ((F _ kin (ns' hns) TB).run callerA rfl [] s₁ H ⟨[.ref a], []⟩ [.ref a] [.ref a] _ E0 hr e0 (hbind s₁ (.ref a)) (.cons rfl .nil) (hsp H hHT hS)) fun r s' z => ?_
    match r, z with
    | .error _, z => exact z.elim
    | .ok .next, z => exact z.elim
    | .ok .brk, z => exact z.elim
    | .ok .cont, z => exact z.elim
    | .ok (.ret u), ⟨v, H', os, bare, un, hok', r', q⟩ =>
      obtain rfl : v = .bl true := q
      obtain rfl : u = Value.bool true := r'
      have key : ∀ b o, b ≠ T → s₁.heap.get? b = some o → s'.heap.get? b = some o := fun b o n e => by
        rcases hH b with z | ⟨rfl, z⟩ | ⟨z, _⟩
        · exact un.keep b o e z (fun q => absurd (show b ∈ ([] : List Addr) from q) (by simp)) (by simp)
        · have z2 := un.frzs b ob _ z
          have e1 : s₁.heap.get? b = some ob := ha
          rw [e] at e1; cases e1
          exact (hok' b _ z2).1
        · exact absurd z n
      obtain ⟨more, z⟩ := un.tbls T #[] hHT
      have hm := hok' T _ z
      refine ⟨rfl, ⟨fun b o e => ?_, fun b o e => ?_⟩, os, bare⟩
      · by_cases n : b = T
        · subst n
          rw [hT] at e; cases e
          exact .inr (.inl ⟨(Cd.tab hT).isCodeTable, rfl, #[], more, rfl, by rw [Array.empty_append]; rw [Array.empty_append] at hm; exact hm⟩)
        · exact .inl (key b o n e)
      · by_cases n : b = T
        · subst n; exact ⟨_, hm⟩
        · exact ⟨o, key b o n e⟩
  cases hk : K.lookup a with
  | some o =>
    have e := KX a o hk
    rw [ha] at e; cases e
    refine build (fun b => if b = T then some (.tbl #[]) else none) (fun b => ?_) (if_pos rfl) (fun z => absurd (if_neg naT) z) (.inr ⟨_, vs.toArray, _, hk, rfl, rfl, rfl, by rw [List.size_toArray, hv]; exact hl, by simpa using rv⟩)
    by_cases hb : b = T
    · exact .inr (.inr ⟨hb, if_pos hb⟩)
    · exact .inl (if_neg hb)
  | none =>
    refine build (fun b => if b = a then some (.frz ob (.lst (ns.map V.int))) else if b = T then some (.tbl #[]) else none) (fun b => ?_) ((if_neg (Ne.symm naT)).trans (if_pos rfl)) (fun _ => hk) (.inl (.inr ⟨ob, if_pos rfl⟩))
    by_cases hb : b = a
    · exact .inr (.inl ⟨hb, if_pos hb⟩)
    · by_cases h2 : b = T
      · exact .inr (.inr ⟨h2, (if_neg hb).trans (if_pos h2)⟩)
      · exact .inl ((if_neg hb).trans (if_neg h2))
theorem walk_goT {l : PySem.W.OpenLaw} {n k : Nat} {q : Program} {loose : List Str} {XP : (Str → Option Value) → Heap → Prop} {YP : World → Heap → Prop} {d : DefRec} {K : Params → PySem.W.Frag} {sp : World → Sp} {x : Str} {c T : Addr}
    (hn : l.most = some n) (hn2 : n ≤ sizeLine) (hdf : d.params.defaults = []) (hr : Room k callerA) (hY : ∀ (w : World) (h : Heap), YP w h → (K w.params).In h)
    (hTab : ∀ (w : World) (h : Heap), YP w h → h.get? T = some (PySem.W.tabObj #[])) (hC : ∀ w : World, PySem.W.codeHdIn (K w.params) c T = true) (nT : ∀ w : World, (K w.params).lookup T = none)
    (F : ∀ (w : World) (mg : Str → Option Value) (fa : Addr) (h : Heap), (K w.params).In h → h.Ns mainGlobals mg → mg d.name = some (.ref fa) →
      ∃ fd : FuncData, (∀ (s : Shared) (u : Value), BindsTo s fd ⟨[u], []⟩ [(x, u)]) ∧ ∀ base : Heap, (K w.params).In base → base.Ns mainGlobals mg → TabB base mg c T → FnG l.prog w (K w.params) mg base k fa fd [x] (sp w))
    (hsp : ∀ (w : World) (H : Hp) (a : Addr) (ns : List Int), ns.length ≤ n → H T = some (.tbl #[]) → SqL (K w.params) H a (ns.map V.int) → sp w [.ref a] H (fun v _ => v = .bl true) E0) : PySem.W.WalkO q loose XP YP l.row.toRowW d [] (fun f vs => PySem.call f vs) := by
  refine Att.attach_callB hn hdf fun w s₀ s₁ mg mb fa o pm cd doc a vs ns G Y ho hd hcd hmg hobj hints hlen hbits hg => ?_
  have KX := hY w _ Y
  obtain ⟨fd, hb, hF⟩ := F w mg fa _ KX G.T.g hmg
  exact law_goT KX G.T.g G.T.b G.T.builtins G.T.nolimit hg (hTab w _ Y) (nT w) (PySem.W.codeHd_of_K KX (hC w)) G.T.bmain hobj hints (Nat.le_trans hlen hn2) hr hF hb fun H hO hS => hsp w H a ns hlen hO hS
/-- a def whose code object is told -/
theorem okPc {P : Program} {w : World} {K : PySem.W.Frag} {mg : Str → Option Value} {base : Heap} {C : CT} {x qual : Str} {st : Stmt} {f c : Addr} {fd : FuncData} {N ps : List Str} {k n l : Nat} {kp : List Nat} {body : J.Env → Out}
    (F : Fun K x qual st f fd) (hc : fd.code = .ref c) (S : FnScope N ps (defScope st)) (hN : N.length = n + l) (hp : ps.length = n) (hkp : ∀ i ∈ kp, i < n)
    (hb : ∀ (A : Around) (outer : List PySem.Env) (s : Shared) (H : Hp) (E : XK), A.guards = some [] → Room k (A.deeper (envOfC qual (defScope st) s.heap.objs.size f (.ref c))) →
      PSs (cxOf (L2.CX P w) P w K mg base N qual (defScope st) f (.ref c) A outer s H E) (defBody st) (tS K C (fun _ => E) kp body)) : FnU P w K mg base (k + 1) f fd ps (spP K C n (defF n kp l body)) := by
  obtain ⟨oc, od, kV, doc, pm, an, cdv, ct, osl, rfl, lk, hcd⟩ := F.ex
  have hc : cdv = .ref c := hc
  subst hc
  exact okU lk hcd S (fun vs H Q E h => h.1.trans hp.symm) fun A outer s H vs Q E hg hr h => ⟨_, hb A outer s H E hg hr, def_core hN hkp h⟩
/-- a def of the module that gets a lambda and calls it -/
structure CalL (P : Program) (w : World) (K : PySem.W.Frag) (mg : Str → Option Value) (base : Heap) (C : CT) (x : Str) (k : Nat) (m : List (Nat × Bool)) (cc : Value) (ph : Nat → List Str → List D → J.Env → Out) : Prop where
  ex : ∃ (st : Stmt) (g : Addr) (fd : FuncData) (Ng : List Str) (a : Str), Fun K x x st g fd ∧ mg x = some (.ref g) ∧ L2.Binds K fd [a] [] ∧ FnScope Ng [a] (defScope st) ∧ Ng[0]? = some a ∧ Vis (defScope st) a ∧ (a == ("__debug__" : Str)) = false ∧ (a == ("__classdict__" : Str)) = false ∧
    ∀ (X : Cx) (cdv : Value) (q : Str), X.prog = P → X.w = w → X.K = K → X.mg = mg → X.base = base → X.A.guards = some [] → Room (k + 1) X.A → GivesTo X Ng x (defScope st) g cdv (defBody st) a q (TTm K C m cc ph)
  em : ∀ c b, m.lookup c = some b → PySem.W.exmOne K (.ref (C c)) cc = some b
theorem z_lam {X : Cx} {C : CT} {W : WX} {x : Str} {k j c T : Nat} {m : List (Nat × Bool)} {cc : Value} {ph : Nat → List Str → List D → J.Env → Out} {bf : J.Env → R D} {params : Arguments} {body : Expr} {scope : Scope} {p lpos pos : Pos}
    (Lm : CalL X.prog X.w X.K X.mg X.base C x k m cc ph) (TB : TabB X.base X.mg c T) (hT : T ∈ C.t) (hgd : X.A.guards = some []) (hr : Room (j + 2) X.A) (hr2 : Room (k + 1) X.A) (hg : Gl X x) (hcode : X.env.code = .ref c) (hq : X.env.qual ++ "<lambda>" = lamQ) (L : LamS X.env.scope scope) (hdef : defaultsOf params X.env = ([], []))
    (hbind : ∀ (q : Str) (cl : List (Str × Addr)) (pm cv ctv : Value), bindArgs (PySem.W.kla_fn "<lambda>" q params body scope cl pm cv ctv) ⟨[], []⟩ = pure [])
    (hbody : ∀ (A : Around) (outer : List PySem.Env) (s : Shared) (H : Hp) (E : XK) (f c' : Addr), A.guards = some [] → Room j (A.deeper (lamEnv X scope s.heap.objs.size f c')) → PE (lamCx X A outer s H E scope f c') body (T_ (lamCx X A outer s H E scope f c') C (fun cls d _ H => E cls d H) bf))
    (hdb : (x == ("__debug__" : Str)) = false := by decide) : PE X (.Call (.Name x p) [.Lambda params body scope lpos] [] pos) (T_ X C W (lamF m ph bf)) := by
  obtain ⟨st, g, fd, Ng, a, F, hm, hb, Sg, hNg, hva, hd, hcd, hG⟩ := Lm.ex
  obtain ⟨oc, od, kV, doc, pm, an, cdv, ct, osl, rfl, lk, hcg⟩ := F.ex
  exact (pe_lamG (TT := TTm X.K C m cc ph) (t := fun E => tOf X.K C (fun _ cls d H => E cls d H) bf) hgd hg hm F.kp lk hcg hb Sg hNg hva (hG X cdv _ rfl rfl rfl rfl rfl hgd hr2) TB hcode hq hr L hdef hbind hbody hdb hd hcd).imp fun σ H Q h => i_lam hT Lm.em h
/-- a lambda's body, what it raises goes on -/
theorem lamb {X : Cx} {A : Around} {outer : List PySem.Env} {s : Shared} {H : Hp} {E : XK} {scope : Scope} {f c' : Addr} {body : Expr} {t : TE} (h : Takes (lamCx X A outer s H E scope f c') (fun cls d _ H => E cls d H) → PE (lamCx X A outer s H E scope f c') body t) : PE (lamCx X A outer s H E scope f c') body t := h (takes_of rfl rfl rfl rfl)
end J
namespace J
open PySem L2 PySem.Spec PyProof.Rows
/-! x is not True, x a truth value -/
def isNotTD (d e : D) : Option D := match d, e with | .bl a, .bl b => some (.bl (a != b)) | _, _ => none
def rNotT : R2 := fun x y H Q => ∃ a b : Bool, x = .bl a ∧ y = .bl b ∧ Q (.bl (a != b)) H
theorem op_notT {X : Cx} : OpR X (compareOp .IsNot) rNotT := by
  intro pins s σ H x y v u Q I rx ry h
  obtain ⟨a, b, rfl, rfl, q⟩ := h
  cases rx
  cases ry
  exact PyProof.Rows.isnot_bool ⟨.bl _, H, I, rfl, q⟩
theorem p_notT {K : PySem.W.Frag} {C : CT} : Op2 K C rNotT isNotTD := by
  intro M0 σ env F H v w d e x Q r eg q
  obtain ⟨F1, F2, F3, eF, hv, hw, _⟩ := r.two
  unfold isNotTD at eg
  split at eg
  · cases hv
    cases hw
    obtain rfl := Option.some.inj eg
    exact ⟨_, _, rfl, rfl, Rel.sc2 r (.bl _) q⟩
  · cases eg
theorem wa_notT {a b : Bool} : isNotTD (.bl a) (.bl b) = some (.bl (a != b)) := id rfl
end J
namespace J
open PySem L2 PySem.Spec PyProof.Rows
def topS (i : Nat) : Stmt := PySem.Challenge.pw_jointoll_k40_firm_modulo.main.body.getD i (.Pass ⟨0, 0, 0, 0⟩)
/-- what the module leaves alone, and its constants -/
structure Bi (mg : Str → Option Value) : Prop where
  n_all : mg "all" = none
  n_bool : mg "bool" = none
  n_enumerate : mg "enumerate" = none
  n_int : mg "int" = none
  n_isinstance : mg "isinstance" = none
  n_len : mg "len" = none
  n_list : mg "list" = none
  n_max : mg "max" = none
  n_range : mg "range" = none
  n_repr : mg "repr" = none
  n_tuple : mg "tuple" = none
  n_ValueError : mg "ValueError" = none
  k_MOST_KINDS : ∃ t, mg "MOST_KINDS" = some (.int 5 t)
  k_TOLL_BOUND : ∃ t, mg "TOLL_BOUND" = some (.int 1000000000000 t)
  k_LEAST_MODULUS : ∃ t, mg "LEAST_MODULUS" = some (.int 2 t)
  k_MOST_MODULUS : ∃ t, mg "MOST_MODULUS" = some (.int 1000000 t)
section
variable {P : Program} {w : World} {K : PySem.W.Frag} {mg : Str → Option Value} {base : Heap}
abbrev s_TollError___init__ : Stmt := inClass (topS 1) 0
abbrev N_TollError___init__ : List Str := ["self", "why"]
abbrev P_TollError___init__ : List Str := ["self", "why"]
theorem sc_TollError___init__ : FnScope N_TollError___init__ P_TollError___init__ (defScope s_TollError___init__) := ⟨rfl, rfl, rfl, by decide +kernel, rfl, by decide +kernel, by decide +kernel⟩
theorem ok_TollError___init__ {f : Addr} {fd : FuncData} (F : FunD K "__init__" "TollError.__init__" (defArgs s_TollError___init__) (defBody s_TollError___init__) (defScope s_TollError___init__) [.str "invalid"] [] f fd) (B : Bi mg) (V_VE : VeI K) : FnOk P w K mg base CX0 1 f fd P_TollError___init__ (spTE K) := by
  refine F.ok sc_TollError___init__ (fun vs H Q E h => ?_) (fun cdv A outer s H vs Q E hr h => ?_)
  · obtain ⟨a, D, y, rfl, ox, nw, ha, q⟩ := h; rfl
  obtain ⟨a, D, y, rfl, ox, nw, ha, q⟩ := h
  refine ⟨_, (pss_cons (ps_expr (pe_veinit (by rfl) B.n_ValueError V_VE (pa_cons (pv 0) (pa_cons (pv 1) pa_nil))))
      (pss_one (ps_ost (pv 0) (pv 1)))), ?_⟩
  refine ⟨_, rfl, _, rfl, a, D, [.str y], rfl, by show 1 ≤ 1000; decide, ox, ha, ?_⟩
  exact ⟨_, rfl, _, rfl, a, D, rfl, ox, nw, .inl ⟨ha, fun dx n ne => q dx n ne⟩⟩
theorem binds_TollError___init__ {f : Addr} {fd : FuncData} (F : FunD K "__init__" "TollError.__init__" (defArgs s_TollError___init__) (defBody s_TollError___init__) (defScope s_TollError___init__) [.str "invalid"] [] f fd) : Binds K fd P_TollError___init__ [] := by
  obtain ⟨ds, r, b⟩ := F.binds1 (ps := P_TollError___init__) 2 1 (by simp) rfl (fun T kV doc pm an cdv ct us its hl hi => by
    match us, its, hl, hi with
    | [a, c], [d], _, _ => exact ⟨_, rfl, rfl⟩)
  cases r
  exact b
abbrev s_BadModulus___init__ : Stmt := inClass (topS 4) 0
abbrev N_BadModulus___init__ : List Str := ["self", "modulus"]
abbrev P_BadModulus___init__ : List Str := ["self", "modulus"]
theorem sc_BadModulus___init__ : FnScope N_BadModulus___init__ P_BadModulus___init__ (defScope s_BadModulus___init__) := ⟨rfl, rfl, rfl, by decide +kernel, rfl, by decide +kernel, by decide +kernel⟩
theorem ok_BadModulus___init__ {Cte D : Addr} {f : Addr} {fd : FuncData} (F : Fun K "__init__" "BadModulus.__init__" s_BadModulus___init__ f fd) (B : Bi mg) (X_TollError : ExT K mg "TollError" Cte) (c_TollError___init__ : XCal P w K mg base Cte 1 P_TollError___init__ (spTE K)) (ox : OexC K D) (nw : PySem.W.findIn K (.ref D) "why" = some none) (nf : PySem.W.findIn K (.ref D) "modulus" = some none) : FnOk P w K mg base CX0 3 f fd P_BadModulus___init__ (spX D okv1 ["modulus", "why"] (fl1 "modulus")) := by
  refine F.ok sc_BadModulus___init__ (fun vs H Q E h => ?_) (fun cdv A outer s H vs Q E hr h => ?_)
  · obtain ⟨a, us, rfl, ⟨v, rfl⟩, ha, q⟩ := h; rfl
  obtain ⟨a, us, rfl, ⟨v, rfl⟩, ha, q⟩ := h
  refine ⟨_, (pss_cons (ps_expr (pe_clsF (pe_glob (by rfl) X_TollError.g (v := .ref Cte) rfl) X_TollError.rd c_TollError___init__.cv c_TollError___init__.ok (hr.mono (by decide)) c_TollError___init__.kp c_TollError___init__.b .nil pass0 (pa_cons (pv 0) (pa_cons pe_str pa_nil))))
      (pss_one (ps_ost (pv 0) (pv 1)))), ?_⟩
  refine ⟨rfl, _, rfl, a, D, "modulus", rfl, ox, nw, ha, fun d nd ne => ?_⟩
  exact ⟨_, rfl, _, rfl, a, D, rfl, ox, nf, .inr ⟨d, _, upd_same, by rw [upd_ne ne, upd_same], by first | decide | simp, by rw [updXX ne]; exact q d nd ne⟩⟩
end
section
variable {P : Program} {w : World} {K : PySem.W.Frag} {mg : Str → Option Value} {base : Heap} {C : CT}
abbrev s_is_integer : Stmt := topS 8
abbrev N_is_integer : List Str := ["value"]
abbrev P_is_integer : List Str := ["value"]
theorem sc_is_integer : FnScope N_is_integer P_is_integer (defScope s_is_integer) := ⟨rfl, rfl, rfl, by decide +kernel, rfl, by decide +kernel, by decide +kernel⟩
def run_is_integer : List D → R D := defF 1 [0] 0
    (retO (ofB (andB (asB (lift1 (isiD "int") (rdF 0))) (notB (asB (lift1 (isiD "bool") (rdF 0)))))))
theorem ok_is_integer {f : Addr} {fd : FuncData} (F : Fun K "is_integer" "is_integer" s_is_integer f fd) (B : Bi mg) (T_Table : ClsT K mg "Table" (C 0)) (A_Table : ∀ f ∈ (["results", "prices"] : List Str), NoAttr K (C 0) f) : FnU P w K mg base 1 f fd P_is_integer (spP K C 1 run_is_integer) := by
  refine okP F sc_is_integer rfl rfl (by decide) fun cdv A outer s H E hG hr => ?_
  have tk : Takes (cxOf (L2.CX P w) P w K mg base N_is_integer "is_integer" (defScope s_is_integer) f cdv A outer s H E) (fun cls d _ H => E cls d H) := takes_of rfl rfl rfl rfl
  exact (st_one (s_ret (v_and (v_ofB (z_isi (by decide) (pe_callB (id := "isinstance") call_isi (by rfl) B.n_isinstance (by decide +kernel) (pa_cons (q_name (pv 0)) (pa_cons (pe_bltn (by rfl) B.n_int (by decide +kernel) (v := .ty "int") rfl) pa_nil))))) (v_one (v_not (v_ofB (z_isi (by decide) (pe_callB (id := "isinstance") call_isi (by rfl) B.n_isinstance (by decide +kernel) (pa_cons (q_name (pv 0)) (pa_cons (pe_bltn (by rfl) B.n_bool (by decide +kernel) (v := .ty "bool") rfl) pa_nil))))))))))
end
section
variable {P : Program} {w : World} {K : PySem.W.Frag} {mg : Str → Option Value} {base : Heap} {C : CT}
abbrev s_is_between : Stmt := topS 9
abbrev N_is_between : List Str := ["value", "low", "high"]
abbrev P_is_between : List Str := ["value", "low", "high"]
theorem sc_is_between : FnScope N_is_between P_is_between (defScope s_is_between) := ⟨rfl, rfl, rfl, by decide +kernel, rfl, by decide +kernel, by decide +kernel⟩
def run_is_between : List D → R D := defF 3 [0, 1, 2] 0
    (retO (ofB (andB (asB (callF run_is_integer [] (argV (rdF 0) args0))) (asB (chainF leI leI (rdF 1) (rdF 0) (rdF 2))))))
theorem ok_is_between {f : Addr} {fd : FuncData} (F : Fun K "is_between" "is_between" s_is_between f fd) (B : Bi mg) (T_Table : ClsT K mg "Table" (C 0)) (A_Table : ∀ f ∈ (["results", "prices"] : List Str), NoAttr K (C 0) f) (c_is_integer : CalU P w K mg base C "is_integer" 1 P_is_integer 1 run_is_integer) : FnU P w K mg base 2 f fd P_is_between (spP K C 3 run_is_between) := by
  refine okP F sc_is_between rfl rfl (by decide) fun cdv A outer s H E hG hr => ?_
  have tk : Takes (cxOf (L2.CX P w) P w K mg base N_is_between "is_between" (defScope s_is_between) f cdv A outer s H E) (fun cls d _ H => E cls d H) := takes_of rfl rfl rfl rfl
  exact (st_one (s_ret (v_and (v_ofB (z_call c_is_integer.pu (AL.val AL.nil) (pe_callU c_is_integer.ok hG (hr.mono (by decide)) (by rfl) c_is_integer.g c_is_integer.kp c_is_integer.b .nil tk (z_av (pa_cons (q_name (pv 0)) a_nil))))) (v_one (v_ofB (q_chain op_le op_le (q_name (pv 1)) (q_name (pv 0)) (q_name (pv 2))))))))
theorem ws_is_between : ∀ (ds : List D) (Q : D → J.Env → Prop) (X : XQ), Wr (run_is_between ds) Q X ↔ Wo ((retO (ofB (andB (asB (callF run_is_integer [] (argV (rdF 0) args0))) (asB (chainF leI leI (rdF 1) (rdF 0) (rdF 2)))))) (ds.map some ++ List.replicate 0 none)) (defQ 3 [0, 1, 2] Q X) := fun _ _ _ => wz_def
theorem wb_is_between : (∀ e : J.Env, outsOf 3 [0, 1, 2] e = [(e[0]?).join, (e[1]?).join, (e[2]?).join]) := fun _ => rfl
end
section
variable {P : Program} {w : World} {K : PySem.W.Frag} {mg : Str → Option Value} {base : Heap} {C : CT}
abbrev s_check_grid : Stmt := topS 10
abbrev N_check_grid : List Str := ["grid", "why", "cell_why", "size", "low", "high", "x", "row", "y", "value"]
abbrev P_check_grid : List Str := ["grid", "why", "cell_why", "size", "low", "high"]
theorem sc_check_grid : FnScope N_check_grid P_check_grid (defScope s_check_grid) := ⟨rfl, rfl, rfl, by decide +kernel, rfl, by decide +kernel, by decide +kernel⟩
abbrev lb_check_grid_0 : J.Env → Out := (ifO (notB (asB (callF run_is_between [] (argApp (argV (rdF 9) args0) (argV (rdF 4) (argV (rdF 5) args0)))))) noO nilO)
abbrev lb_check_grid_1 : J.Env → Out := (seqO (ifO (orB (notB (asB (lift1 (isiD "list") (rdF 7)))) (asB (lift2 neD (lift1 lenD (rdF 7)) (rdF 3)))) noO nilO) (forO (enumSI (argV (rdF 7) args0) (argV (okC (.int 1)) args0)) (tupG 2 (consG (setG 8) (consG (setG 9) nilG))) lb_check_grid_0))
def run_check_grid : List D → R D := defF 6 [0, 1, 2, 3, 4, 5] 4
    (seqO (ifO (orB (notB (asB (lift1 (isiD "list") (rdF 0)))) (asB (lift2 neD (lift1 lenD (rdF 0)) (rdF 3)))) noO nilO) (forO (enumSI (argV (rdF 0) args0) (argV (okC (.int 1)) args0)) (tupG 2 (consG (setG 6) (consG (setG 7) nilG))) lb_check_grid_1))
theorem ok_check_grid {f : Addr} {fd : FuncData} (F : Fun K "check_grid" "check_grid" s_check_grid f fd) (B : Bi mg) (T_Table : ClsT K mg "Table" (C 0)) (A_Table : ∀ f ∈ (["results", "prices"] : List Str), NoAttr K (C 0) f) (c_is_between : CalKU P w K mg base C "is_between" 2 P_is_between ["low", "high"] 3 run_is_between (gapp 1) (gapp 1)) : FnU P w K mg base 3 f fd P_check_grid (spP K C 6 run_check_grid) := by
  refine okP F sc_check_grid rfl rfl (by decide) fun cdv A outer s H E hG hr => ?_
  have tk : Takes (cxOf (L2.CX P w) P w K mg base N_check_grid "check_grid" (defScope s_check_grid) f cdv A outer s H E) (fun cls d _ H => E cls d H) := takes_of rfl rfl rfl rfl
  exact (st_seq (s_if (PW.pt (w_or (t_not (t_val (z_isi (by decide) (pe_callB (id := "isinstance") call_isi (by rfl) B.n_isinstance (by decide +kernel) (pa_cons (q_name (pv 0)) (pa_cons (pe_bltn (by rfl) B.n_list (by decide +kernel) (v := .ty "list") rfl) pa_nil)))))) (w_or1 (t_cmp (op_neD hr.units) p_neD (z_len (pe_callB (id := "len") call_len (by rfl) B.n_len (by decide +kernel) (pa_cons (q_name (pv 0)) pa_nil))) (q_name (pv 3)) (nomark _))))) (st_one (s_never ps_never)) st_nil)
      (st_one (z_for (ps_for (passes_of rfl) rfl (z_enumS (pi_enumS (by rfl) B.n_enumerate (z_av (pa_cons (q_name (pv 0)) a_nil)) (z_kv (pk_cons (q_c (.int _) pe_int) k_nil)))) (z_gtup (pg_tup rfl (z_gcons (pgs_cons (g_name (by decide) (pg_name (i := 6) sc_check_grid.nd rfl (Or.inl rfl))) (z_gcons (pgs_cons (g_name (by decide) (pg_name (i := 7) sc_check_grid.nd rfl (Or.inl rfl))) gs_nil)))))) (st_seq (s_if (PW.pt (w_or (t_not (t_val (z_isi (by decide) (pe_callB (id := "isinstance") call_isi (by rfl) B.n_isinstance (by decide +kernel) (pa_cons (q_name (pv 7)) (pa_cons (pe_bltn (by rfl) B.n_list (by decide +kernel) (v := .ty "list") rfl) pa_nil)))))) (w_or1 (t_cmp (op_neD hr.units) p_neD (z_len (pe_callB (id := "len") call_len (by rfl) B.n_len (by decide +kernel) (pa_cons (q_name (pv 7)) pa_nil))) (q_name (pv 3)) (nomark _))))) (st_one (s_never ps_never)) st_nil)
      (st_one (z_for (ps_for (passes_of rfl) rfl (z_enumS (pi_enumS (by rfl) B.n_enumerate (z_av (pa_cons (q_name (pv 7)) a_nil)) (z_kv (pk_cons (q_c (.int _) pe_int) k_nil)))) (z_gtup (pg_tup rfl (z_gcons (pgs_cons (g_name (by decide) (pg_name (i := 8) sc_check_grid.nd rfl (Or.inl rfl))) (z_gcons (pgs_cons (g_name (by decide) (pg_name (i := 9) sc_check_grid.nd rfl (Or.inl rfl))) gs_nil)))))) (st_one (s_if (t_not (t_val (z_callK c_is_between.pu (AL.val AL.nil) (AL.val (AL.val AL.nil)) (by decide) gapp_V (pe_callKU c_is_between.ok hG (hr.mono (by decide)) (by rfl) c_is_between.g c_is_between.kp c_is_between.b tk (z_av (pa_cons (q_name (pv 9)) a_nil)) (z_kv (pk_cons (q_name (pv 4)) (z_kv (pk_cons (q_name (pv 5)) k_nil)))))))) (st_one (s_never ps_never)) st_nil))))))))))
end
section
variable {P : Program} {w : World} {K : PySem.W.Frag} {mg : Str → Option Value} {base : Heap} {C : CT}
abbrev s_check_joins : Stmt := topS 11
abbrev N_check_joins : List Str := ["joins"]
abbrev P_check_joins : List Str := ["joins"]
theorem sc_check_joins : FnScope N_check_joins P_check_joins (defScope s_check_joins) := ⟨rfl, rfl, rfl, by decide +kernel, rfl, by decide +kernel, by decide +kernel⟩
def run_check_joins : List D → R D := defF 1 [0] 0
    (seqO (ifO (orB (notB (asB (lift1 (isiD "list") (rdF 0)))) (notB (asB (chainF leI leI (okC (.int 1)) (lift1 lenD (rdF 0)) (okC (.int 5)))))) noO nilO) (dropO (callF run_check_grid [] (argApp (argV (rdF 0) (argV (okC (.str "joins")) (argV (okC (.str "join")) args0))) (argV (lift1 lenD (rdF 0)) (argV (okC (.int 1)) (argV (lift1 lenD (rdF 0)) args0)))))))
theorem ok_check_joins {f : Addr} {fd : FuncData} (F : Fun K "check_joins" "check_joins" s_check_joins f fd) (B : Bi mg) (T_Table : ClsT K mg "Table" (C 0)) (A_Table : ∀ f ∈ (["results", "prices"] : List Str), NoAttr K (C 0) f) (c_check_grid : CalKU P w K mg base C "check_grid" 3 P_check_grid ["size", "low", "high"] 6 run_check_grid (gapp 3) (gapp 3)) : FnU P w K mg base 4 f fd P_check_joins (spP K C 1 run_check_joins) := by
  refine okP F sc_check_joins rfl rfl (by decide) fun cdv A outer s H E hG hr => ?_
  have tk : Takes (cxOf (L2.CX P w) P w K mg base N_check_joins "check_joins" (defScope s_check_joins) f cdv A outer s H E) (fun cls d _ H => E cls d H) := takes_of rfl rfl rfl rfl
  exact (st_seq (s_if (PW.pt (w_or (t_not (t_val (z_isi (by decide) (pe_callB (id := "isinstance") call_isi (by rfl) B.n_isinstance (by decide +kernel) (pa_cons (q_name (pv 0)) (pa_cons (pe_bltn (by rfl) B.n_list (by decide +kernel) (v := .ty "list") rfl) pa_nil)))))) (w_or1 (t_not (t_chain op_le op_le (q_c (.int _) pe_int) (z_len (pe_callB (id := "len") call_len (by rfl) B.n_len (by decide +kernel) (pa_cons (q_name (pv 0)) pa_nil))) (q_c (.int _) (pe_gint B.k_MOST_KINDS))))))) (st_one (s_never ps_never)) st_nil)
      (st_one (z_drop (ps_expr (z_callK c_check_grid.pu (AL.val (AL.val (AL.val AL.nil))) (AL.val (AL.val (AL.val AL.nil))) (by decide) gapp_V (pe_callKU c_check_grid.ok hG (hr.mono (by decide)) (by rfl) c_check_grid.g c_check_grid.kp c_check_grid.b tk (z_av (pa_cons (q_name (pv 0)) (z_av (pa_cons (q_c (.str _) pe_str) (z_av (pa_cons (q_c (.str _) pe_str) a_nil)))))) (z_kv (pk_cons (z_len (pe_callB (id := "len") call_len (by rfl) B.n_len (by decide +kernel) (pa_cons (q_name (pv 0)) pa_nil))) (z_kv (pk_cons (q_c (.int _) pe_int) (z_kv (pk_cons (z_len (pe_callB (id := "len") call_len (by rfl) B.n_len (by decide +kernel) (pa_cons (q_name (pv 0)) pa_nil))) k_nil))))))))))))
end
section
variable {P : Program} {w : World} {K : PySem.W.Frag} {mg : Str → Option Value} {base : Heap} {C : CT}
abbrev s_Table___init__ : Stmt := inClass (topS 12) 0
abbrev N_Table___init__ : List Str := ["self", "joins", "tolls", "row"]
abbrev P_Table___init__ : List Str := ["self", "joins", "tolls"]
theorem sc_Table___init__ : FnScope N_Table___init__ P_Table___init__ (defScope s_Table___init__) := ⟨rfl, rfl, rfl, by decide +kernel, rfl, by decide +kernel, by decide +kernel⟩
def run_Table___init__ : List D → R D := defF 3 [0, 1, 2] 1
    (seqO (dropO (callF run_check_joins [] (argV (rdF 1) args0))) (seqO (dropO (callF run_check_grid [] (argApp (argV (rdF 2) (argV (okC (.str "tolls")) (argV (okC (.str "toll")) args0))) (argV (lift1 lenD (rdF 1)) (argV (lift2 subD (okC (.int 1)) (okC (.int 1000000000000))) (argV (lift2 subD (okC (.int 1000000000000)) (okC (.int 1))) args0)))))) (seqO (fldO 0 0 "results" (lift1 tupleD (compO (lstI (rdF 1)) (setG 3) yesB (lift1 tupleD (rdF 3)) [3]))) (fldO 0 0 "prices" (lift1 tupleD (compO (lstI (rdF 2)) (setG 3) yesB (lift1 tupleD (rdF 3)) [3]))))))
theorem ok_Table___init__ {f : Addr} {fd : FuncData} (F : Fun K "__init__" "Table.__init__" s_Table___init__ f fd) (B : Bi mg) (T_Table : ClsT K mg "Table" (C 0)) (A_Table : ∀ f ∈ (["results", "prices"] : List Str), NoAttr K (C 0) f) (c_check_joins : CalU P w K mg base C "check_joins" 4 P_check_joins 1 run_check_joins) (c_check_grid : CalKU P w K mg base C "check_grid" 3 P_check_grid ["size", "low", "high"] 6 run_check_grid (gapp 3) (gapp 3)) : FnU P w K mg base 5 f fd P_Table___init__ (spP K C 3 run_Table___init__) := by
  refine okP F sc_Table___init__ rfl rfl (by decide) fun cdv A outer s H E hG hr => ?_
  have tk : Takes (cxOf (L2.CX P w) P w K mg base N_Table___init__ "Table.__init__" (defScope s_Table___init__) f cdv A outer s H E) (fun cls d _ H => E cls d H) := takes_of rfl rfl rfl rfl
  exact (st_seq (z_drop (ps_expr (z_call c_check_joins.pu (AL.val AL.nil) (pe_callU c_check_joins.ok hG (hr.mono (by decide)) (by rfl) c_check_joins.g c_check_joins.kp c_check_joins.b .nil tk (z_av (pa_cons (q_name (pv 1)) a_nil))))))
      (st_seq (z_drop (ps_expr (z_callK c_check_grid.pu (AL.val (AL.val (AL.val AL.nil))) (AL.val (AL.val (AL.val AL.nil))) (by decide) gapp_V (pe_callKU c_check_grid.ok hG (hr.mono (by decide)) (by rfl) c_check_grid.g c_check_grid.kp c_check_grid.b tk (z_av (pa_cons (q_name (pv 2)) (z_av (pa_cons (q_c (.str _) pe_str) (z_av (pa_cons (q_c (.str _) pe_str) a_nil)))))) (z_kv (pk_cons (z_len (pe_callB (id := "len") call_len (by rfl) B.n_len (by decide +kernel) (pa_cons (q_name (pv 1)) pa_nil))) (z_kv (pk_cons (q_sub (q_c (.int _) pe_int) (q_c (.int _) (pe_gint B.k_TOLL_BOUND))) (z_kv (pk_cons (q_sub (q_c (.int _) (pe_gint B.k_TOLL_BOUND)) (q_c (.int _) pe_int)) k_nil))))))))))
      (st_seq (z_fld T_Table.cl (A_Table _ (by simp)) (ps_fld (pv 0) (z_cb1 p_tuple (pe_callTy (T := "tuple") call_tuple_of (by rfl) B.n_tuple (by decide +kernel) (pa_cons (z_lc 4 rfl (kp := [0, 1, 2]) (by decide) GL.set (pe_lc (own := [("row", 3)]) rfl sc_Table___init__.nd (y_list (q_name (pv 1))) (blkOk_by (own := [("row", 3)]) (N := N_Table___init__) (sc := defScope s_Table___init__) (by decide +kernel)) (fun _ _ _ _ _ => (g_name (by decide) (pg_name (i := 3) sc_Table___init__.nd rfl (Or.inl rfl)))) (fun _ _ _ _ _ => z_pt0) (fun _ _ _ _ _ => (z_cb1 p_tuple (pe_callTy (T := "tuple") call_tuple_of (by rfl) B.n_tuple (by decide +kernel) (pa_cons (q_name (pv 3)) pa_nil)))))) pa_nil))) rfl))
      (st_one (z_fld T_Table.cl (A_Table _ (by simp)) (ps_fld (pv 0) (z_cb1 p_tuple (pe_callTy (T := "tuple") call_tuple_of (by rfl) B.n_tuple (by decide +kernel) (pa_cons (z_lc 4 rfl (kp := [0, 1, 2]) (by decide) GL.set (pe_lc (own := [("row", 3)]) rfl sc_Table___init__.nd (y_list (q_name (pv 2))) (blkOk_by (own := [("row", 3)]) (N := N_Table___init__) (sc := defScope s_Table___init__) (by decide +kernel)) (fun _ _ _ _ _ => (g_name (by decide) (pg_name (i := 3) sc_Table___init__.nd rfl (Or.inl rfl)))) (fun _ _ _ _ _ => z_pt0) (fun _ _ _ _ _ => (z_cb1 p_tuple (pe_callTy (T := "tuple") call_tuple_of (by rfl) B.n_tuple (by decide +kernel) (pa_cons (q_name (pv 3)) pa_nil)))))) pa_nil))) rfl))))))
end
section
variable {P : Program} {w : World} {K : PySem.W.Frag} {mg : Str → Option Value} {base : Heap} {C : CT}
abbrev s_Table_count : Stmt := inClass (topS 12) 1
abbrev N_Table_count : List Str := ["self"]
abbrev P_Table_count : List Str := ["self"]
theorem sc_Table_count : FnScope N_Table_count P_Table_count (defScope s_Table_count) := ⟨rfl, rfl, rfl, by decide +kernel, rfl, by decide +kernel, by decide +kernel⟩
def run_Table_count : List D → R D := defF 1 [0] 0
    (retO (lift1 lenD (toT (fldB 0 "results" (rdB 0)))))
theorem ok_Table_count {f : Addr} {fd : FuncData} (F : Fun K "count" "Table.count" s_Table_count f fd) (B : Bi mg) (T_Table : ClsT K mg "Table" (C 0)) (A_Table : ∀ f ∈ (["results", "prices"] : List Str), NoAttr K (C 0) f) : FnU P w K mg base 1 f fd P_Table_count (spP K C 1 run_Table_count) := by
  refine okP F sc_Table_count rfl rfl (by decide) fun cdv A outer s H E hG hr => ?_
  have tk : Takes (cxOf (L2.CX P w) P w K mg base N_Table_count "Table.count" (defScope s_Table_count) f cdv A outer s H E) (fun cls d _ H => E cls d H) := takes_of rfl rfl rfl rfl
  exact (st_one (s_ret (z_len (pe_callB (id := "len") call_len (by rfl) B.n_len (by decide +kernel) (pa_cons (q_b (qb_fld T_Table.cl (A_Table _ (by simp)) (qb_name (pv 0)) (by rfl))) pa_nil)))))
end
section
variable {P : Program} {w : World} {K : PySem.W.Frag} {mg : Str → Option Value} {base : Heap} {C : CT}
abbrev s_Table_check_kind : Stmt := inClass (topS 12) 4
abbrev N_Table_check_kind : List Str := ["self", "kind"]
abbrev P_Table_check_kind : List Str := ["self", "kind"]
theorem sc_Table_check_kind : FnScope N_Table_check_kind P_Table_check_kind (defScope s_Table_check_kind) := ⟨rfl, rfl, rfl, by decide +kernel, rfl, by decide +kernel, by decide +kernel⟩
def run_Table_check_kind : List D → R D := defF 2 [0, 1] 0
    (ifO (notB (asB (callF run_is_between [] (argApp (argV (rdF 1) args0) (argV (okC (.int 1)) (argV (methF 0 "count" run_Table_count (rdF 0) args0 []) args0)))))) noO nilO)
theorem ok_Table_check_kind {f : Addr} {fd : FuncData} (F : Fun K "check_kind" "Table.check_kind" s_Table_check_kind f fd) (B : Bi mg) (T_Table : ClsT K mg "Table" (C 0)) (A_Table : ∀ f ∈ (["results", "prices"] : List Str), NoAttr K (C 0) f) (c_is_between : CalKU P w K mg base C "is_between" 2 P_is_between ["low", "high"] 3 run_is_between (gapp 1) (gapp 1)) (c_Table_count : MCalU P w K mg base C 0 "count" 1 P_Table_count 0 run_Table_count) : FnU P w K mg base 3 f fd P_Table_check_kind (spP K C 2 run_Table_check_kind) := by
  refine okP F sc_Table_check_kind rfl rfl (by decide) fun cdv A outer s H E hG hr => ?_
  have tk : Takes (cxOf (L2.CX P w) P w K mg base N_Table_check_kind "Table.check_kind" (defScope s_Table_check_kind) f cdv A outer s H E) (fun cls d _ H => E cls d H) := takes_of rfl rfl rfl rfl
  exact (st_one (s_if (t_not (t_val (z_callK c_is_between.pu (AL.val AL.nil) (AL.val (AL.val AL.nil)) (by decide) gapp_V (pe_callKU c_is_between.ok hG (hr.mono (by decide)) (by rfl) c_is_between.g c_is_between.kp c_is_between.b tk (z_av (pa_cons (q_name (pv 1)) a_nil)) (z_kv (pk_cons (q_c (.int _) pe_int) (z_kv (pk_cons (z_meth0 c_Table_count.pu (pe_methU0 (q_name (pv 0)) T_Table.cl c_Table_count.me c_Table_count.ok hG (hr.mono (by decide)) c_Table_count.b .nil tk)) k_nil)))))))) (st_one (s_never ps_never)) st_nil))
end
section
variable {P : Program} {w : World} {K : PySem.W.Frag} {mg : Str → Option Value} {base : Heap} {C : CT}
abbrev s_Table_join : Stmt := inClass (topS 12) 5
abbrev N_Table_join : List Str := ["self", "left", "right"]
abbrev P_Table_join : List Str := ["self", "left", "right"]
theorem sc_Table_join : FnScope N_Table_join P_Table_join (defScope s_Table_join) := ⟨rfl, rfl, rfl, by decide +kernel, rfl, by decide +kernel, by decide +kernel⟩
def run_Table_join : List D → R D := defF 3 [0, 1, 2] 0
    (seqO (dropO (methF 0 "check_kind" run_Table_check_kind (rdF 0) (argV (rdF 1) args0) [])) (seqO (dropO (methF 0 "check_kind" run_Table_check_kind (rdF 0) (argV (rdF 2) args0) [])) (retO (lift2 ixF (lift2 ixF (toT (fldB 0 "results" (rdB 0))) (lift2 subD (rdF 1) (okC (.int 1)))) (lift2 subD (rdF 2) (okC (.int 1)))))))
theorem ok_Table_join {f : Addr} {fd : FuncData} (F : Fun K "join" "Table.join" s_Table_join f fd) (B : Bi mg) (T_Table : ClsT K mg "Table" (C 0)) (A_Table : ∀ f ∈ (["results", "prices"] : List Str), NoAttr K (C 0) f) (c_Table_check_kind : MCalU P w K mg base C 0 "check_kind" 3 P_Table_check_kind 1 run_Table_check_kind) : FnU P w K mg base 4 f fd P_Table_join (spP K C 3 run_Table_join) := by
  refine okP F sc_Table_join rfl rfl (by decide) fun cdv A outer s H E hG hr => ?_
  have tk : Takes (cxOf (L2.CX P w) P w K mg base N_Table_join "Table.join" (defScope s_Table_join) f cdv A outer s H E) (fun cls d _ H => E cls d H) := takes_of rfl rfl rfl rfl
  exact (st_seq (z_drop (ps_expr (z_meth c_Table_check_kind.pu (AL.val AL.nil) (pe_methU (q_name (pv 0)) T_Table.cl c_Table_check_kind.me c_Table_check_kind.ok hG (hr.mono (by decide)) c_Table_check_kind.b .nil tk (z_av (pa_cons (q_name (pv 1)) a_nil))))))
      (st_seq (z_drop (ps_expr (z_meth c_Table_check_kind.pu (AL.val AL.nil) (pe_methU (q_name (pv 0)) T_Table.cl c_Table_check_kind.me c_Table_check_kind.ok hG (hr.mono (by decide)) c_Table_check_kind.b .nil tk (z_av (pa_cons (q_name (pv 2)) a_nil))))))
      (st_one (s_ret (q_ix (q_ix (q_b (qb_fld T_Table.cl (A_Table _ (by simp)) (qb_name (pv 0)) (by rfl))) (q_sub (q_name (pv 1)) (q_c (.int _) pe_int)) (fun _ _ => rfl)) (q_sub (q_name (pv 2)) (q_c (.int _) pe_int)) (fun _ _ => rfl))))))
end
section
variable {P : Program} {w : World} {K : PySem.W.Frag} {mg : Str → Option Value} {base : Heap} {C : CT}
abbrev s_Table_toll : Stmt := inClass (topS 12) 6
abbrev N_Table_toll : List Str := ["self", "left", "right"]
abbrev P_Table_toll : List Str := ["self", "left", "right"]
theorem sc_Table_toll : FnScope N_Table_toll P_Table_toll (defScope s_Table_toll) := ⟨rfl, rfl, rfl, by decide +kernel, rfl, by decide +kernel, by decide +kernel⟩
def run_Table_toll : List D → R D := defF 3 [0, 1, 2] 0
    (seqO (dropO (methF 0 "check_kind" run_Table_check_kind (rdF 0) (argV (rdF 1) args0) [])) (seqO (dropO (methF 0 "check_kind" run_Table_check_kind (rdF 0) (argV (rdF 2) args0) [])) (retO (lift2 ixF (lift2 ixF (toT (fldB 0 "prices" (rdB 0))) (lift2 subD (rdF 1) (okC (.int 1)))) (lift2 subD (rdF 2) (okC (.int 1)))))))
theorem ok_Table_toll {f : Addr} {fd : FuncData} (F : Fun K "toll" "Table.toll" s_Table_toll f fd) (B : Bi mg) (T_Table : ClsT K mg "Table" (C 0)) (A_Table : ∀ f ∈ (["results", "prices"] : List Str), NoAttr K (C 0) f) (c_Table_check_kind : MCalU P w K mg base C 0 "check_kind" 3 P_Table_check_kind 1 run_Table_check_kind) : FnU P w K mg base 4 f fd P_Table_toll (spP K C 3 run_Table_toll) := by
  refine okP F sc_Table_toll rfl rfl (by decide) fun cdv A outer s H E hG hr => ?_
  have tk : Takes (cxOf (L2.CX P w) P w K mg base N_Table_toll "Table.toll" (defScope s_Table_toll) f cdv A outer s H E) (fun cls d _ H => E cls d H) := takes_of rfl rfl rfl rfl
  exact (st_seq (z_drop (ps_expr (z_meth c_Table_check_kind.pu (AL.val AL.nil) (pe_methU (q_name (pv 0)) T_Table.cl c_Table_check_kind.me c_Table_check_kind.ok hG (hr.mono (by decide)) c_Table_check_kind.b .nil tk (z_av (pa_cons (q_name (pv 1)) a_nil))))))
      (st_seq (z_drop (ps_expr (z_meth c_Table_check_kind.pu (AL.val AL.nil) (pe_methU (q_name (pv 0)) T_Table.cl c_Table_check_kind.me c_Table_check_kind.ok hG (hr.mono (by decide)) c_Table_check_kind.b .nil tk (z_av (pa_cons (q_name (pv 2)) a_nil))))))
      (st_one (s_ret (q_ix (q_ix (q_b (qb_fld T_Table.cl (A_Table _ (by simp)) (qb_name (pv 0)) (by rfl))) (q_sub (q_name (pv 1)) (q_c (.int _) pe_int)) (fun _ _ => rfl)) (q_sub (q_name (pv 2)) (q_c (.int _) pe_int)) (fun _ _ => rfl))))))
end
section
variable {P : Program} {w : World} {K : PySem.W.Frag} {mg : Str → Option Value} {base : Heap} {C : CT}
abbrev s_Lmixed : Stmt := topS 26
abbrev N_Lmixed : List Str := ["_law_cell", "_law_k", "_law_number"]
abbrev P_Lmixed : List Str := ["_law_cell", "_law_k"]
theorem sc_Lmixed : FnScope N_Lmixed P_Lmixed (defScope s_Lmixed) := ⟨rfl, rfl, rfl, by decide +kernel, rfl, by decide +kernel, by decide +kernel⟩
def bk_Lmixed_0 : J.Env → Out := (retO (lift2 modD (lift2 mulD (rdF 2) (lift2 addD (lift2 divD (rdF 2) (okC (.int 1999))) (okC (.int 40692)))) (okC (.int 2147483399))))
def bk_Lmixed_1 : J.Env → Out := (seqO (asgO (lift2 modD (lift2 mulD (rdF 2) (lift2 addD (lift2 addD (lift2 divD (rdF 2) (okC (.int 1013))) (okC (.int 48271))) (rdF 1))) (okC (.int 2147483563))) (setG 2)) bk_Lmixed_0)
def bk_Lmixed_2 : J.Env → Out := (seqO (asgO (lift2 modD (lift2 addD (rdF 2) (lift2 mulD (lift2 modD (lift2 divD (rdF 0) (okC (.int 2147483587))) (okC (.int 60013))) (lift2 addD (rdF 1) (okC (.int 17))))) (okC (.int 2147483629))) (setG 2)) bk_Lmixed_1)
def bk_Lmixed_3 : J.Env → Out := (seqO (asgO (lift2 modD (lift2 powD (lift2 addD (lift2 addD (lift2 modD (rdF 0) (okC (.int 2147483587))) (lift2 mulD (okC (.int 6151)) (rdF 1))) (okC (.int 3))) (okC (.int 3))) (okC (.int 2147483647))) (setG 2)) bk_Lmixed_2)
def run_Lmixed : List D → R D := defF 2 [0, 1] 1
    bk_Lmixed_3
theorem ok_Lmixed {f : Addr} {fd : FuncData} (F : Fun K "_law_mixed" "_law_mixed" s_Lmixed f fd) (B : Bi mg) (T_Table : ClsT K mg "Table" (C 0)) (A_Table : ∀ f ∈ (["results", "prices"] : List Str), NoAttr K (C 0) f) : FnU P w K mg base 1 f fd P_Lmixed (spP K C 2 run_Lmixed) := by
  refine okP F sc_Lmixed rfl rfl (by decide) fun cdv A outer s H E hG hr => ?_
  have tk : Takes (cxOf (L2.CX P w) P w K mg base N_Lmixed "_law_mixed" (defScope s_Lmixed) f cdv A outer s H E) (fun cls d _ H => E cls d H) := takes_of rfl rfl rfl rfl
  exact (st_seq (z_set (by decide) (ps_set (i := 2) sc_Lmixed.nd rfl (Or.inl rfl) (q_mod (q_pow (q_add (q_add (q_mod (q_name (pv 0)) (q_c (.int _) pe_int)) (q_mul (q_c (.int _) pe_int) (q_name (pv 1)))) (q_c (.int _) pe_int)) (q_c (.int _) pe_int)) (q_c (.int _) pe_int))))
      (st_seq (z_set (by decide) (ps_set (i := 2) sc_Lmixed.nd rfl (Or.inl rfl) (q_mod (q_add (q_name (pv 2)) (q_mul (q_mod (q_div (q_name (pv 0)) (q_c (.int _) pe_int)) (q_c (.int _) pe_int)) (q_add (q_name (pv 1)) (q_c (.int _) pe_int)))) (q_c (.int _) pe_int))))
      (st_seq (z_set (by decide) (ps_set (i := 2) sc_Lmixed.nd rfl (Or.inl rfl) (q_mod (q_mul (q_name (pv 2)) (q_add (q_add (q_div (q_name (pv 2)) (q_c (.int _) pe_int)) (q_c (.int _) pe_int)) (q_name (pv 1)))) (q_c (.int _) pe_int))))
      (st_one (s_ret (q_mod (q_mul (q_name (pv 2)) (q_add (q_div (q_name (pv 2)) (q_c (.int _) pe_int)) (q_c (.int _) pe_int))) (q_c (.int _) pe_int)))))))
end
section
variable {P : Program} {w : World} {K : PySem.W.Frag} {mg : Str → Option Value} {base : Heap} {C : CT}
abbrev s_Ldraw : Stmt := topS 28
abbrev N_Ldraw : List Str := ["_law_well_here", "_law_size", "_law_found"]
abbrev P_Ldraw : List Str := ["_law_well_here", "_law_size"]
theorem sc_Ldraw : FnScope N_Ldraw P_Ldraw (defScope s_Ldraw) := ⟨rfl, rfl, rfl, by decide +kernel, rfl, by decide +kernel, by decide +kernel⟩
def bk_Ldraw_0 : J.Env → Out := (seqO (asgO (lift2 divD (toT (bop2 ixD (rdB 0) (fun _ => some (.int 0)))) (rdF 1)) (put1G 0 (fun _ => some (.int 0)))) (retO (rdM 2)))
def bk_Ldraw_1 : J.Env → Out := (seqO (asgO (lift2 modD (toT (bop2 ixD (rdB 0) (fun _ => some (.int 0)))) (rdF 1)) (setG 2)) bk_Ldraw_0)
def bk_Ldraw_2 : J.Env → Out := (retO (lift2 modD (callF run_Lmixed [] (argV (toT (bop2 ixD (rdB 0) (fun _ => some (.int 1)))) (argV (toT (bop2 ixD (rdB 0) (fun _ => some (.int 2)))) args0))) (rdF 1)))
def bk_Ldraw_3 : J.Env → Out := (seqO (asgO (lift2 addD (toT (bop2 ixD (rdB 0) (fun _ => some (.int 2)))) (okC (.int 1))) (put1G 0 (fun _ => some (.int 2)))) bk_Ldraw_2)
def bk_Ldraw_4 : J.Env → Out := (seqO (ifO (asB (lift2 (cmpD geI) (toT (bop2 ixD (rdB 0) (fun _ => some (.int 0)))) (lift2 powD (okC (.int 10)) (okC (.int 18))))) bk_Ldraw_1 nilO) bk_Ldraw_3)
def run_Ldraw : List D → R D := defF 2 [0, 1] 1
    bk_Ldraw_4
theorem ok_Ldraw {f : Addr} {fd : FuncData} (F : Fun K "_law_draw" "_law_draw" s_Ldraw f fd) (B : Bi mg) (T_Table : ClsT K mg "Table" (C 0)) (A_Table : ∀ f ∈ (["results", "prices"] : List Str), NoAttr K (C 0) f) (c_Lmixed : CalU P w K mg base C "_law_mixed" 1 P_Lmixed 2 run_Lmixed) : FnU P w K mg base 2 f fd P_Ldraw (spP K C 2 run_Ldraw) := by
  refine okP F sc_Ldraw rfl rfl (by decide) fun cdv A outer s H E hG hr => ?_
  have tk : Takes (cxOf (L2.CX P w) P w K mg base N_Ldraw "_law_draw" (defScope s_Ldraw) f cdv A outer s H E) (fun cls d _ H => E cls d H) := takes_of rfl rfl rfl rfl
  exact (st_seq (s_if (t_cmp op_ge p_cmp (q_b (qb_ix (qb_name (pv 0)) (qb_c (.int _) pe_int) (fun _ _ => rfl))) (q_pow (q_c (.int _) pe_int) (q_c (.int _) pe_int)) (nomark _)) (st_seq (z_set (by decide) (ps_set (i := 2) sc_Ldraw.nd rfl (Or.inl rfl) (q_mod (q_b (qb_ix (qb_name (pv 0)) (qb_c (.int _) pe_int) (fun _ _ => rfl))) (q_name (pv 1)))))
      (st_seq (z_asg (ps_asg (q_div (q_b (qb_ix (qb_name (pv 0)) (qb_c (.int _) pe_int) (fun _ _ => rfl))) (q_name (pv 1))) (z_put1 (pg_sub (pv 0) (qb_c (.int _) pe_int) set_list))))
      (st_one (s_ret (q_move (pv 2)))))) st_nil)
      (st_seq (z_asg (ps_asg (q_add (q_b (qb_ix (qb_name (pv 0)) (qb_c (.int _) pe_int) (fun _ _ => rfl))) (q_c (.int _) pe_int)) (z_put1 (pg_sub (pv 0) (qb_c (.int _) pe_int) set_list))))
      (st_one (s_ret (q_mod (z_call c_Lmixed.pu (AL.val (AL.val AL.nil)) (pe_callU c_Lmixed.ok hG (hr.mono (by decide)) (by rfl) c_Lmixed.g c_Lmixed.kp c_Lmixed.b .nil tk (z_av (pa_cons (q_b (qb_ix (qb_name (pv 0)) (qb_c (.int _) pe_int) (fun _ _ => rfl))) (z_av (pa_cons (q_b (qb_ix (qb_name (pv 0)) (qb_c (.int _) pe_int) (fun _ _ => rfl))) a_nil)))))) (q_name (pv 1)))))))
end
section
variable {P : Program} {w : World} {K : PySem.W.Frag} {mg : Str → Option Value} {base : Heap} {C : CT}
abbrev s_Lshuffled : Stmt := topS 30
abbrev N_Lshuffled : List Str := ["_law_well_here", "_law_values", "_law_left", "_law_found"]
abbrev P_Lshuffled : List Str := ["_law_well_here", "_law_values"]
theorem sc_Lshuffled : FnScope N_Lshuffled P_Lshuffled (defScope s_Lshuffled) := ⟨rfl, rfl, rfl, by decide +kernel, rfl, by decide +kernel, by decide +kernel⟩
def bk_Lshuffled_0 : J.Env → Out := (appO 3 (popKF 2 (callF run_Ldraw [(0, 0)] (argR 0 (argV (toT (bop1 lenD (rdB 2))) args0)))))
abbrev lb_Lshuffled_0 : J.Env → Out := bk_Lshuffled_0
def bk_Lshuffled_1 : J.Env → Out := (seqO (whileL (asB (nilF true 2)) lb_Lshuffled_0 1000000) (retO (rdM 3)))
def bk_Lshuffled_2 : J.Env → Out := (seqO (asgO (lstF args0) (setG 3)) bk_Lshuffled_1)
def bk_Lshuffled_3 : J.Env → Out := (seqO (asgO (lift1 listD (rdF 1)) (setG 2)) bk_Lshuffled_2)
def run_Lshuffled : List D → R D := defF 2 [0, 1] 2
    bk_Lshuffled_3
theorem ok_Lshuffled {f : Addr} {fd : FuncData} (F : Fun K "_law_shuffled" "_law_shuffled" s_Lshuffled f fd) (B : Bi mg) (T_Table : ClsT K mg "Table" (C 0)) (A_Table : ∀ f ∈ (["results", "prices"] : List Str), NoAttr K (C 0) f) (c_Ldraw : CalU P w K mg base C "_law_draw" 2 P_Ldraw 2 run_Ldraw) : FnU P w K mg base 3 f fd P_Lshuffled (spP K C 2 run_Lshuffled) := by
  refine okP F sc_Lshuffled rfl rfl (by decide) fun cdv A outer s H E hG hr => ?_
  have tk : Takes (cxOf (L2.CX P w) P w K mg base N_Lshuffled "_law_shuffled" (defScope s_Lshuffled) f cdv A outer s H E) (fun cls d _ H => E cls d H) := takes_of rfl rfl rfl rfl
  exact (st_seq (z_set (by decide) (ps_set (i := 2) sc_Lshuffled.nd rfl (Or.inl rfl) (z_cb1 p_list (pe_callTy (T := "list") call_list_of (by rfl) B.n_list (by decide +kernel) (pa_cons (q_name (pv 1)) pa_nil)))))
      (st_seq (z_set (by decide) (ps_set (i := 3) sc_Lshuffled.nd rfl (Or.inl rfl) (z_lst (pe_lst a_nil))))
      (st_seq (z_while (n := 1000000) (ps_while (passes_of rfl) (t_nilN hr.units (pv 2) (pe_lst pa_nil) (nomark _)) (st_one (z_app (ps_expr (pe_bm PySem.F.plainAttrs_list PySem.F.slot_list_append PySem.F.type_list_append mt_append (pv 3) (pa_cons (z_popK (pe_bm PySem.F.plainAttrs_list PySem.F.slot_list_pop PySem.F.type_list_pop mt_popAt (pv 2) (pa_cons (z_call c_Ldraw.pu (AL.ref (AL.val AL.nil)) (pe_callU c_Ldraw.ok hG (hr.mono (by decide)) (by rfl) c_Ldraw.g c_Ldraw.kp c_Ldraw.b .nil tk (z_ar (pa_cons (pv 0) (z_av (pa_cons (q_b (zb_len (pe_callB (id := "len") call_len (by rfl) B.n_len (by decide +kernel) (pa_cons (qb_name (pv 2)) pa_nil)))) a_nil)))))) pa_nil))) pa_nil)))))))
      (st_one (s_ret (q_move (pv 3)))))))
theorem ws_Lshuffled : ∀ (ds : List D) (Q : D → J.Env → Prop) (X : XQ), Wr (run_Lshuffled ds) Q X ↔ Wo (bk_Lshuffled_3 (ds.map some ++ List.replicate 2 none)) (defQ 2 [0, 1] Q X) := fun _ _ _ => wz_def
theorem wb_Lshuffled : (∀ (env : J.Env) (Q : Out → Prop), Wo (bk_Lshuffled_0 env) Q ↔ Wo ((appO 3 (popKF 2 (callF run_Ldraw [(0, 0)] (argR 0 (argV (toT (bop1 lenD (rdB 2))) args0))))) env) Q)
  ∧ (∀ (env : J.Env) (Q : Out → Prop), Wo (bk_Lshuffled_1 env) Q ↔ Wo ((seqO (whileL (asB (nilF true 2)) lb_Lshuffled_0 1000000) (retO (rdM 3))) env) Q)
  ∧ (∀ (env : J.Env) (Q : Out → Prop), Wo (bk_Lshuffled_2 env) Q ↔ Wo ((seqO (asgO (lstF args0) (setG 3)) bk_Lshuffled_1) env) Q)
  ∧ (∀ (env : J.Env) (Q : Out → Prop), Wo (bk_Lshuffled_3 env) Q ↔ Wo ((seqO (asgO (lift1 listD (rdF 1)) (setG 2)) bk_Lshuffled_2) env) Q)
  ∧ (∀ e : J.Env, outsOf 2 [0, 1] e = [(e[0]?).join, (e[1]?).join]) := ⟨fun _ _ => Iff.rfl, fun _ _ => Iff.rfl, fun _ _ => Iff.rfl, fun _ _ => Iff.rfl, fun _ => rfl⟩
end
section
variable {P : Program} {w : World} {K : PySem.W.Frag} {mg : Str → Option Value} {base : Heap} {C : CT}
abbrev s_Lresult : Stmt := topS 31
abbrev N_Lresult : List Str := ["_law_well_here", "_law_way", "_law_size", "_law_x", "_law_y", "_law_rules"]
abbrev P_Lresult : List Str := ["_law_well_here", "_law_way", "_law_size", "_law_x", "_law_y"]
theorem sc_Lresult : FnScope N_Lresult P_Lresult (defScope s_Lresult) := ⟨rfl, rfl, rfl, by decide +kernel, rfl, by decide +kernel, by decide +kernel⟩
def bk_Lresult_0 : J.Env → Out := (retO (callF run_Ldraw [(0, 0)] (argR 0 (argV (rdF 2) args0))))
def bk_Lresult_1 : J.Env → Out := (retO (lift2 modD (lift2 ixF (rdF 5) (lift2 subD (rdF 1) (okC (.int 3)))) (rdF 2)))
def bk_Lresult_2 : J.Env → Out := (seqO (asgO (lstF (argV (okC (.int 0)) (argV (rdF 3) (argV (rdF 4) (argV (lift2 maxD (rdF 3) (rdF 4)) (argV (lift2 modD (lift2 addD (rdF 3) (rdF 4)) (rdF 2)) (argV (lift2 modD (lift2 mulD (rdF 3) (rdF 4)) (rdF 2)) (argV (lift2 addD (lift2 subD (rdF 3) (lift2 modD (rdF 3) (okC (.int 2)))) (lift2 modD (rdF 4) (okC (.int 2)))) args0)))))))) (setG 5)) bk_Lresult_1)
def bk_Lresult_3 : J.Env → Out := (seqO (ifO (asB (lift2 (cmpD ltI) (rdF 1) (okC (.int 3)))) bk_Lresult_0 nilO) bk_Lresult_2)
def run_Lresult : List D → R D := defF 5 [0, 1, 2, 3, 4] 1
    bk_Lresult_3
theorem ok_Lresult {f : Addr} {fd : FuncData} (F : Fun K "_law_result" "_law_result" s_Lresult f fd) (B : Bi mg) (T_Table : ClsT K mg "Table" (C 0)) (A_Table : ∀ f ∈ (["results", "prices"] : List Str), NoAttr K (C 0) f) (c_Ldraw : CalU P w K mg base C "_law_draw" 2 P_Ldraw 2 run_Ldraw) : FnU P w K mg base 3 f fd P_Lresult (spP K C 5 run_Lresult) := by
  refine okP F sc_Lresult rfl rfl (by decide) fun cdv A outer s H E hG hr => ?_
  have tk : Takes (cxOf (L2.CX P w) P w K mg base N_Lresult "_law_result" (defScope s_Lresult) f cdv A outer s H E) (fun cls d _ H => E cls d H) := takes_of rfl rfl rfl rfl
  exact (st_seq (s_if (t_cmp op_lt p_cmp (q_name (pv 1)) (q_c (.int _) pe_int) (nomark _)) (st_one (s_ret (z_call c_Ldraw.pu (AL.ref (AL.val AL.nil)) (pe_callU c_Ldraw.ok hG (hr.mono (by decide)) (by rfl) c_Ldraw.g c_Ldraw.kp c_Ldraw.b .nil tk (z_ar (pa_cons (pv 0) (z_av (pa_cons (q_name (pv 2)) a_nil)))))))) st_nil)
      (st_seq (z_set (by decide) (ps_set (i := 5) sc_Lresult.nd rfl (Or.inl rfl) (z_lst (pe_lst (z_av (pa_cons (q_c (.int _) pe_int) (z_av (pa_cons (q_name (pv 3)) (z_av (pa_cons (q_name (pv 4)) (z_av (pa_cons (z_cb2 p_max (pe_callB (id := "max") (call_max2 rfl) (by rfl) B.n_max (by decide +kernel) (pa_cons (q_name (pv 3)) (pa_cons (q_name (pv 4)) pa_nil)))) (z_av (pa_cons (q_mod (q_add (q_name (pv 3)) (q_name (pv 4))) (q_name (pv 2))) (z_av (pa_cons (q_mod (q_mul (q_name (pv 3)) (q_name (pv 4))) (q_name (pv 2))) (z_av (pa_cons (q_add (q_sub (q_name (pv 3)) (q_mod (q_name (pv 3)) (q_c (.int _) pe_int))) (q_mod (q_name (pv 4)) (q_c (.int _) pe_int))) a_nil))))))))))))))))))
      (st_one (s_ret (q_mod (q_ix (q_name (pv 5)) (q_sub (q_name (pv 1)) (q_c (.int _) pe_int)) (fun _ _ => rfl)) (q_name (pv 2)))))))
theorem ws_Lresult : ∀ (ds : List D) (Q : D → J.Env → Prop) (X : XQ), Wr (run_Lresult ds) Q X ↔ Wo (bk_Lresult_3 (ds.map some ++ List.replicate 1 none)) (defQ 5 [0, 1, 2, 3, 4] Q X) := fun _ _ _ => wz_def
theorem wb_Lresult : (∀ (env : J.Env) (Q : Out → Prop), Wo (bk_Lresult_0 env) Q ↔ Wo ((retO (callF run_Ldraw [(0, 0)] (argR 0 (argV (rdF 2) args0)))) env) Q)
  ∧ (∀ (env : J.Env) (Q : Out → Prop), Wo (bk_Lresult_1 env) Q ↔ Wo ((retO (lift2 modD (lift2 ixF (rdF 5) (lift2 subD (rdF 1) (okC (.int 3)))) (rdF 2))) env) Q)
  ∧ (∀ (env : J.Env) (Q : Out → Prop), Wo (bk_Lresult_2 env) Q ↔ Wo ((seqO (asgO (lstF (argV (okC (.int 0)) (argV (rdF 3) (argV (rdF 4) (argV (lift2 maxD (rdF 3) (rdF 4)) (argV (lift2 modD (lift2 addD (rdF 3) (rdF 4)) (rdF 2)) (argV (lift2 modD (lift2 mulD (rdF 3) (rdF 4)) (rdF 2)) (argV (lift2 addD (lift2 subD (rdF 3) (lift2 modD (rdF 3) (okC (.int 2)))) (lift2 modD (rdF 4) (okC (.int 2)))) args0)))))))) (setG 5)) bk_Lresult_1) env) Q)
  ∧ (∀ (env : J.Env) (Q : Out → Prop), Wo (bk_Lresult_3 env) Q ↔ Wo ((seqO (ifO (asB (lift2 (cmpD ltI) (rdF 1) (okC (.int 3)))) bk_Lresult_0 nilO) bk_Lresult_2) env) Q)
  ∧ (∀ e : J.Env, outsOf 5 [0, 1, 2, 3, 4] e = [(e[0]?).join, (e[1]?).join, (e[2]?).join, (e[3]?).join, (e[4]?).join]) := ⟨fun _ _ => Iff.rfl, fun _ _ => Iff.rfl, fun _ _ => Iff.rfl, fun _ _ => Iff.rfl, fun _ => rfl⟩
end
section
variable {P : Program} {w : World} {K : PySem.W.Frag} {mg : Str → Option Value} {base : Heap} {C : CT}
abbrev s_Ljoins : Stmt := topS 32
abbrev N_Ljoins : List Str := ["_law_well_here", "_law_most", "_law_size", "_law_way", "_law_names", "_law_found", "_law_x", "_law_y"]
abbrev P_Ljoins : List Str := ["_law_well_here", "_law_most"]
theorem sc_Ljoins : FnScope N_Ljoins P_Ljoins (defScope s_Ljoins) := ⟨rfl, rfl, rfl, by decide +kernel, rfl, by decide +kernel, by decide +kernel⟩
def bk_Ljoins_0 : J.Env → Out := (asgO (lift2 addD (lift2 ixF (rdF 4) (callF run_Lresult [(0, 0)] (argR 0 (argV (rdF 3) (argV (rdF 2) (argV (rdF 6) (argV (rdF 7) args0))))))) (okC (.int 1))) (put2G 5 (bop2 ixD (rdB 4) (rdB 6)) (bop2 ixD (rdB 4) (rdB 7))))
abbrev lb_Ljoins_0 : J.Env → Out := bk_Ljoins_0
def bk_Ljoins_1 : J.Env → Out := (forO (rng1I (argV (rdF 2) args0)) (setG 7) lb_Ljoins_0)
abbrev lb_Ljoins_1 : J.Env → Out := bk_Ljoins_1
def bk_Ljoins_2 : J.Env → Out := (seqO (forO (rng1I (argV (rdF 2) args0)) (setG 6) lb_Ljoins_1) (retO (rdM 5)))
def bk_Ljoins_3 : J.Env → Out := (seqO (asgO (compO (rng1I (argV (rdF 2) args0)) (setG 6) yesB (lift2 mulD (lstF (argV (okC (.int 0)) args0)) (rdF 2)) [6]) (setG 5)) bk_Ljoins_2)
def bk_Ljoins_4 : J.Env → Out := (seqO (asgO (callF run_Lshuffled [(0, 0)] (argR 0 (argV (lrgF1 (rdF 2)) args0))) (setG 4)) bk_Ljoins_3)
def bk_Ljoins_5 : J.Env → Out := (seqO (asgO (callF run_Ldraw [(0, 0)] (argR 0 (argV (okC (.int 10)) args0))) (setG 3)) bk_Ljoins_4)
def bk_Ljoins_6 : J.Env → Out := (seqO (asgO (lift2 addD (okC (.int 1)) (callF run_Ldraw [(0, 0)] (argR 0 (argV (rdF 1) args0)))) (setG 2)) bk_Ljoins_5)
def run_Ljoins : List D → R D := defF 2 [0, 1] 6
    bk_Ljoins_6
theorem ok_Ljoins {f : Addr} {fd : FuncData} (F : Fun K "_law_joins" "_law_joins" s_Ljoins f fd) (B : Bi mg) (T_Table : ClsT K mg "Table" (C 0)) (A_Table : ∀ f ∈ (["results", "prices"] : List Str), NoAttr K (C 0) f) (c_Ldraw : CalU P w K mg base C "_law_draw" 2 P_Ldraw 2 run_Ldraw) (c_Lshuffled : CalU P w K mg base C "_law_shuffled" 3 P_Lshuffled 2 run_Lshuffled) (c_Lresult : CalU P w K mg base C "_law_result" 3 P_Lresult 5 run_Lresult) : FnU P w K mg base 4 f fd P_Ljoins (spP K C 2 run_Ljoins) := by
  refine okP F sc_Ljoins rfl rfl (by decide) fun cdv A outer s H E hG hr => ?_
  have tk : Takes (cxOf (L2.CX P w) P w K mg base N_Ljoins "_law_joins" (defScope s_Ljoins) f cdv A outer s H E) (fun cls d _ H => E cls d H) := takes_of rfl rfl rfl rfl
  exact (st_seq (z_set (by decide) (ps_set (i := 2) sc_Ljoins.nd rfl (Or.inr rfl) (q_add (q_c (.int _) pe_int) (z_call c_Ldraw.pu (AL.ref (AL.val AL.nil)) (pe_callU c_Ldraw.ok hG (hr.mono (by decide)) (by rfl) c_Ldraw.g c_Ldraw.kp c_Ldraw.b .nil tk (z_ar (pa_cons (pv 0) (z_av (pa_cons (q_name (pv 1)) a_nil)))))))))
      (st_seq (z_set (by decide) (ps_set (i := 3) sc_Ljoins.nd rfl (Or.inl rfl) (z_call c_Ldraw.pu (AL.ref (AL.val AL.nil)) (pe_callU c_Ldraw.ok hG (hr.mono (by decide)) (by rfl) c_Ldraw.g c_Ldraw.kp c_Ldraw.b .nil tk (z_ar (pa_cons (pv 0) (z_av (pa_cons (q_c (.int _) pe_int) a_nil))))))))
      (st_seq (z_set (by decide) (ps_set (i := 4) sc_Ljoins.nd rfl (Or.inl rfl) (z_call c_Lshuffled.pu (AL.ref (AL.val AL.nil)) (pe_callU c_Lshuffled.ok hG (hr.mono (by decide)) (by rfl) c_Lshuffled.g c_Lshuffled.kp c_Lshuffled.b .nil tk (z_ar (pa_cons (pv 0) (z_av (pa_cons (z_lrg1 (pe_listRg rfl (by rfl) B.n_list (prg_1 (by rfl) B.n_range (q_name (pv 2))))) a_nil))))))))
      (st_seq (z_setLc 8 rfl (kp' := [0, 1, 2, 3, 4, 5, 7]) (by decide) (by decide) GL.set (ps_setLc (i := 5) (own := [("_law_x", 6)]) rfl sc_Ljoins.nd rfl rfl (sw_true rfl rfl rfl (by decide +kernel)) (z_rng1 (pi_range1 (by rfl) B.n_range (z_av (pa_cons (q_name (pv 2)) a_nil)))) (blkOk_by (own := [("_law_x", 6)]) (N := N_Ljoins) (sc := defScope s_Ljoins) (by decide +kernel)) (fun _ _ _ _ _ => (g_name (by decide) (pg_name (i := 6) sc_Ljoins.nd rfl (Or.inl rfl)))) (fun _ _ _ _ _ => z_pt0) (fun _ _ _ _ _ => (q_mul (z_lst (pe_lst (z_av (pa_cons (q_c (.int _) pe_int) a_nil)))) (q_name (pv 2))))))
      (st_seq (z_for (ps_for (passes_of rfl) rfl (z_rng1 (pi_range1 (by rfl) B.n_range (z_av (pa_cons (q_name (pv 2)) a_nil)))) (g_name (by decide) (pg_name (i := 6) sc_Ljoins.nd rfl (Or.inl rfl))) (st_one (z_for (ps_for (passes_of rfl) rfl (z_rng1 (pi_range1 (by rfl) B.n_range (z_av (pa_cons (q_name (pv 2)) a_nil)))) (g_name (by decide) (pg_name (i := 7) sc_Ljoins.nd rfl (Or.inl rfl))) (st_one (z_asg (ps_asg (q_add (q_ix (q_name (pv 4)) (z_call c_Lresult.pu (AL.ref (AL.val (AL.val (AL.val (AL.val AL.nil))))) (pe_callU c_Lresult.ok hG (hr.mono (by decide)) (by rfl) c_Lresult.g c_Lresult.kp c_Lresult.b .nil tk (z_ar (pa_cons (pv 0) (z_av (pa_cons (q_name (pv 3)) (z_av (pa_cons (q_name (pv 2)) (z_av (pa_cons (q_name (pv 6)) (z_av (pa_cons (q_name (pv 7)) a_nil)))))))))))) (fun _ _ => rfl)) (q_c (.int _) pe_int)) (z_put2 (pg_sub (pe_ix x_ix (pv 5) (qb_ix (qb_name (pv 4)) (qb_name (pv 6)) (fun _ _ => rfl)) (fun _ _ => rfl)) (qb_ix (qb_name (pv 4)) (qb_name (pv 7)) (fun _ _ => rfl)) set_list))))))))))
      (st_one (s_ret (q_move (pv 5)))))))))
theorem ws_Ljoins : ∀ (ds : List D) (Q : D → J.Env → Prop) (X : XQ), Wr (run_Ljoins ds) Q X ↔ Wo (bk_Ljoins_6 (ds.map some ++ List.replicate 6 none)) (defQ 2 [0, 1] Q X) := fun _ _ _ => wz_def
theorem wb_Ljoins : (∀ (env : J.Env) (Q : Out → Prop), Wo (bk_Ljoins_0 env) Q ↔ Wo ((asgO (lift2 addD (lift2 ixF (rdF 4) (callF run_Lresult [(0, 0)] (argR 0 (argV (rdF 3) (argV (rdF 2) (argV (rdF 6) (argV (rdF 7) args0))))))) (okC (.int 1))) (put2G 5 (bop2 ixD (rdB 4) (rdB 6)) (bop2 ixD (rdB 4) (rdB 7)))) env) Q)
  ∧ (∀ (env : J.Env) (Q : Out → Prop), Wo (bk_Ljoins_1 env) Q ↔ Wo ((forO (rng1I (argV (rdF 2) args0)) (setG 7) lb_Ljoins_0) env) Q)
  ∧ (∀ (env : J.Env) (Q : Out → Prop), Wo (bk_Ljoins_2 env) Q ↔ Wo ((seqO (forO (rng1I (argV (rdF 2) args0)) (setG 6) lb_Ljoins_1) (retO (rdM 5))) env) Q)
  ∧ (∀ (env : J.Env) (Q : Out → Prop), Wo (bk_Ljoins_3 env) Q ↔ Wo ((seqO (asgO (compO (rng1I (argV (rdF 2) args0)) (setG 6) yesB (lift2 mulD (lstF (argV (okC (.int 0)) args0)) (rdF 2)) [6]) (setG 5)) bk_Ljoins_2) env) Q)
  ∧ (∀ (env : J.Env) (Q : Out → Prop), Wo (bk_Ljoins_4 env) Q ↔ Wo ((seqO (asgO (callF run_Lshuffled [(0, 0)] (argR 0 (argV (lrgF1 (rdF 2)) args0))) (setG 4)) bk_Ljoins_3) env) Q)
  ∧ (∀ (env : J.Env) (Q : Out → Prop), Wo (bk_Ljoins_5 env) Q ↔ Wo ((seqO (asgO (callF run_Ldraw [(0, 0)] (argR 0 (argV (okC (.int 10)) args0))) (setG 3)) bk_Ljoins_4) env) Q)
  ∧ (∀ (env : J.Env) (Q : Out → Prop), Wo (bk_Ljoins_6 env) Q ↔ Wo ((seqO (asgO (lift2 addD (okC (.int 1)) (callF run_Ldraw [(0, 0)] (argR 0 (argV (rdF 1) args0)))) (setG 2)) bk_Ljoins_5) env) Q)
  ∧ (∀ e : J.Env, outsOf 2 [0, 1] e = [(e[0]?).join, (e[1]?).join]) := ⟨fun _ _ => Iff.rfl, fun _ _ => Iff.rfl, fun _ _ => Iff.rfl, fun _ _ => Iff.rfl, fun _ _ => Iff.rfl, fun _ _ => Iff.rfl, fun _ _ => Iff.rfl, fun _ => rfl⟩
end
section
variable {P : Program} {w : World} {K : PySem.W.Frag} {mg : Str → Option Value} {base : Heap} {C : CT}
abbrev s_Lone : Stmt := topS 29
abbrev N_Lone : List Str := ["_law_well_here", "_law_values"]
abbrev P_Lone : List Str := ["_law_well_here", "_law_values"]
theorem sc_Lone : FnScope N_Lone P_Lone (defScope s_Lone) := ⟨rfl, rfl, rfl, by decide +kernel, rfl, by decide +kernel, by decide +kernel⟩
def bk_Lone_0 : J.Env → Out := (retO (lift2 ixF (rdF 1) (callF run_Ldraw [(0, 0)] (argR 0 (argV (lift1 lenD (rdF 1)) args0)))))
def run_Lone : List D → R D := defF 2 [0, 1] 0
    bk_Lone_0
theorem ok_Lone {f : Addr} {fd : FuncData} (F : Fun K "_law_one" "_law_one" s_Lone f fd) (B : Bi mg) (T_Table : ClsT K mg "Table" (C 0)) (A_Table : ∀ f ∈ (["results", "prices"] : List Str), NoAttr K (C 0) f) (c_Ldraw : CalU P w K mg base C "_law_draw" 2 P_Ldraw 2 run_Ldraw) : FnU P w K mg base 3 f fd P_Lone (spP K C 2 run_Lone) := by
  refine okP F sc_Lone rfl rfl (by decide) fun cdv A outer s H E hG hr => ?_
  have tk : Takes (cxOf (L2.CX P w) P w K mg base N_Lone "_law_one" (defScope s_Lone) f cdv A outer s H E) (fun cls d _ H => E cls d H) := takes_of rfl rfl rfl rfl
  exact (st_one (s_ret (q_ix (q_name (pv 1)) (z_call c_Ldraw.pu (AL.ref (AL.val AL.nil)) (pe_callU c_Ldraw.ok hG (hr.mono (by decide)) (by rfl) c_Ldraw.g c_Ldraw.kp c_Ldraw.b .nil tk (z_ar (pa_cons (pv 0) (z_av (pa_cons (z_len (pe_callB (id := "len") call_len (by rfl) B.n_len (by decide +kernel) (pa_cons (q_name (pv 1)) pa_nil))) a_nil)))))) (fun _ _ => rfl))))
theorem ws_Lone : ∀ (ds : List D) (Q : D → J.Env → Prop) (X : XQ), Wr (run_Lone ds) Q X ↔ Wo (bk_Lone_0 (ds.map some ++ List.replicate 0 none)) (defQ 2 [0, 1] Q X) := fun _ _ _ => wz_def
theorem wb_Lone : (∀ (env : J.Env) (Q : Out → Prop), Wo (bk_Lone_0 env) Q ↔ Wo ((retO (lift2 ixF (rdF 1) (callF run_Ldraw [(0, 0)] (argR 0 (argV (lift1 lenD (rdF 1)) args0))))) env) Q)
  ∧ (∀ e : J.Env, outsOf 2 [0, 1] e = [(e[0]?).join, (e[1]?).join]) := ⟨fun _ _ => Iff.rfl, fun _ => rfl⟩
end
section
variable {P : Program} {w : World} {K : PySem.W.Frag} {mg : Str → Option Value} {base : Heap} {C : CT}
abbrev s_Lby_worths : Stmt := topS 33
abbrev N_Lby_worths : List Str := ["_law_joins_here", "_law_amounts", "_law_found", "_law_x", "_law_row", "_law_y", "_law_kind"]
abbrev P_Lby_worths : List Str := ["_law_joins_here", "_law_amounts"]
theorem sc_Lby_worths : FnScope N_Lby_worths P_Lby_worths (defScope s_Lby_worths) := ⟨rfl, rfl, rfl, by decide +kernel, rfl, by decide +kernel, by decide +kernel⟩
def bk_Lby_worths_0 : J.Env → Out := (appO 2 (compO (enumI 0 (argV (rdF 4) args0)) (tupG 2 (consG (setG 5) (consG (setG 6) nilG))) yesB (lift2 subD (lift2 addD (lift2 ixF (rdF 1) (rdF 3)) (lift2 ixF (rdF 1) (rdF 5))) (lift2 ixF (rdF 1) (lift2 subD (rdF 6) (okC (.int 1))))) [5, 6]))
abbrev lb_Lby_worths_0 : J.Env → Out := bk_Lby_worths_0
def bk_Lby_worths_1 : J.Env → Out := (seqO (forO (enumI 0 (argV (rdF 0) args0)) (tupG 2 (consG (setG 3) (consG (setG 4) nilG))) lb_Lby_worths_0) (retO (rdM 2)))
def bk_Lby_worths_2 : J.Env → Out := (seqO (asgO (lstF args0) (setG 2)) bk_Lby_worths_1)
def run_Lby_worths : List D → R D := defF 2 [0, 1] 5
    bk_Lby_worths_2
theorem ok_Lby_worths {f : Addr} {fd : FuncData} (F : Fun K "_law_by_worths" "_law_by_worths" s_Lby_worths f fd) (B : Bi mg) (T_Table : ClsT K mg "Table" (C 0)) (A_Table : ∀ f ∈ (["results", "prices"] : List Str), NoAttr K (C 0) f) : FnU P w K mg base 1 f fd P_Lby_worths (spP K C 2 run_Lby_worths) := by
  refine okP F sc_Lby_worths rfl rfl (by decide) fun cdv A outer s H E hG hr => ?_
  have tk : Takes (cxOf (L2.CX P w) P w K mg base N_Lby_worths "_law_by_worths" (defScope s_Lby_worths) f cdv A outer s H E) (fun cls d _ H => E cls d H) := takes_of rfl rfl rfl rfl
  exact (st_seq (z_set (by decide) (ps_set (i := 2) sc_Lby_worths.nd rfl (Or.inl rfl) (z_lst (pe_lst a_nil))))
      (st_seq (z_for (ps_for (passes_of rfl) rfl (z_enum (pi_enum (by rfl) B.n_enumerate (z_av (pa_cons (q_name (pv 0)) a_nil)))) (z_gtup (pg_tup rfl (z_gcons (pgs_cons (g_name (by decide) (pg_name (i := 3) sc_Lby_worths.nd rfl (Or.inr rfl))) (z_gcons (pgs_cons (g_name (by decide) (pg_name (i := 4) sc_Lby_worths.nd rfl (Or.inl rfl))) gs_nil)))))) (st_one (z_app (ps_expr (pe_bm PySem.F.plainAttrs_list PySem.F.slot_list_append PySem.F.type_list_append mt_append (pv 2) (pa_cons (z_lc 7 rfl (kp := [0, 1, 2, 3, 4]) (by decide) (GL.tup (GLs.cons GL.set (GLs.cons GL.set GLs.nil))) (pe_lc (own := [("_law_y", 5), ("_law_kind", 6)]) rfl sc_Lby_worths.nd (z_enum (pi_enum (by rfl) B.n_enumerate (z_av (pa_cons (q_name (pv 4)) a_nil)))) (blkOk_by (own := [("_law_y", 5), ("_law_kind", 6)]) (N := N_Lby_worths) (sc := defScope s_Lby_worths) (by decide +kernel)) (fun _ _ _ _ _ => (z_gtup (pg_tup rfl (z_gcons (pgs_cons (g_name (by decide) (pg_name (i := 5) sc_Lby_worths.nd rfl (Or.inl rfl))) (z_gcons (pgs_cons (g_name (by decide) (pg_name (i := 6) sc_Lby_worths.nd rfl (Or.inl rfl))) gs_nil))))))) (fun _ _ _ _ _ => z_pt0) (fun _ _ _ _ _ => (q_sub (q_add (q_ix (q_name (pv 1)) (q_name (pv 3)) (fun _ _ => rfl)) (q_ix (q_name (pv 1)) (q_name (pv 5)) (fun _ _ => rfl))) (q_ix (q_name (pv 1)) (q_sub (q_name (pv 6)) (q_c (.int _) pe_int)) (fun _ _ => rfl)))))) pa_nil)))))))
      (st_one (s_ret (q_move (pv 2))))))
theorem ws_Lby_worths : ∀ (ds : List D) (Q : D → J.Env → Prop) (X : XQ), Wr (run_Lby_worths ds) Q X ↔ Wo (bk_Lby_worths_2 (ds.map some ++ List.replicate 5 none)) (defQ 2 [0, 1] Q X) := fun _ _ _ => wz_def
theorem wb_Lby_worths : (∀ (env : J.Env) (Q : Out → Prop), Wo (bk_Lby_worths_0 env) Q ↔ Wo ((appO 2 (compO (enumI 0 (argV (rdF 4) args0)) (tupG 2 (consG (setG 5) (consG (setG 6) nilG))) yesB (lift2 subD (lift2 addD (lift2 ixF (rdF 1) (rdF 3)) (lift2 ixF (rdF 1) (rdF 5))) (lift2 ixF (rdF 1) (lift2 subD (rdF 6) (okC (.int 1))))) [5, 6])) env) Q)
  ∧ (∀ (env : J.Env) (Q : Out → Prop), Wo (bk_Lby_worths_1 env) Q ↔ Wo ((seqO (forO (enumI 0 (argV (rdF 0) args0)) (tupG 2 (consG (setG 3) (consG (setG 4) nilG))) lb_Lby_worths_0) (retO (rdM 2))) env) Q)
  ∧ (∀ (env : J.Env) (Q : Out → Prop), Wo (bk_Lby_worths_2 env) Q ↔ Wo ((seqO (asgO (lstF args0) (setG 2)) bk_Lby_worths_1) env) Q)
  ∧ (∀ e : J.Env, outsOf 2 [0, 1] e = [(e[0]?).join, (e[1]?).join]) := ⟨fun _ _ => Iff.rfl, fun _ _ => Iff.rfl, fun _ _ => Iff.rfl, fun _ => rfl⟩
end
section
variable {P : Program} {w : World} {K : PySem.W.Frag} {mg : Str → Option Value} {base : Heap} {C : CT}
abbrev s_Ltolls : Stmt := topS 34
abbrev N_Ltolls : List Str := ["_law_well_here", "_law_joins_here", "_law_step", "_law_size", "_law_way", "_law_wide", "_law_amounts", "_law_found", "_law_x", "_law_y", "_law_row", "_law_toll"]
abbrev P_Ltolls : List Str := ["_law_well_here", "_law_joins_here", "_law_step"]
theorem sc_Ltolls : FnScope N_Ltolls P_Ltolls (defScope s_Ltolls) := ⟨rfl, rfl, rfl, by decide +kernel, rfl, by decide +kernel, by decide +kernel⟩
def bk_Ltolls_0 : J.Env → Out := (retO (compO (rng1I (argV (rdF 3) args0)) (setG 8) yesB (compO (rng1I (argV (rdF 3) args0)) (setG 9) yesB (lift2 subD (callF run_Ldraw [(0, 0)] (argR 0 (argV (lift2 mulD (okC (.int 2)) (rdF 5)) args0))) (rdF 5)) [9]) [8]))
def bk_Ltolls_1 : J.Env → Out := (asgO (compO (lstI (rdF 7)) (setG 10) yesB (compO (lstI (rdF 10)) (setG 11) yesB (lift2 addD (rdF 11) (lift2 mulD (rdF 2) (lift2 subD (callF run_Ldraw [(0, 0)] (argR 0 (argV (okC (.int 7)) args0))) (okC (.int 3))))) [11]) [10]) (setG 7))
def bk_Ltolls_2 : J.Env → Out := (asgO (lift2 addD (lift2 addD (toT (bop2 ixD (bop2 ixD (rdB 7) (rdB 8)) (rdB 9))) (okC (.int 1))) (callF run_Ldraw [(0, 0)] (argR 0 (argV (lift2 mulD (okC (.int 2)) (rdF 2)) args0)))) (put2G 7 (rdB 8) (rdB 9)))
def bk_Ltolls_3 : J.Env → Out := (seqO (parO 8 9 (argV (callF run_Ldraw [(0, 0)] (argR 0 (argV (rdF 3) args0))) (argV (callF run_Ldraw [(0, 0)] (argR 0 (argV (rdF 3) args0))) args0))) bk_Ltolls_2)
def bk_Ltolls_4 : J.Env → Out := (seqO (ifO (asB (lift2 eqW (rdF 4) (okC (.int 5)))) bk_Ltolls_3 nilO) (retO (rdM 7)))
def bk_Ltolls_5 : J.Env → Out := (seqO (ifO (asB (lift2 eqW (rdF 4) (okC (.int 4)))) bk_Ltolls_1 nilO) bk_Ltolls_4)
def bk_Ltolls_6 : J.Env → Out := (seqO (ifO (asB (lift2 eqW (rdF 4) (okC (.int 1)))) bk_Ltolls_0 nilO) bk_Ltolls_5)
def bk_Ltolls_7 : J.Env → Out := (seqO (asgO (callF run_Lby_worths [] (argV (rdF 1) (argV (rdF 6) args0))) (setG 7)) bk_Ltolls_6)
def bk_Ltolls_8 : J.Env → Out := (seqO (asgO (compO (rng1I (argV (rdF 3) args0)) (setG 8) yesB (lift2 mulD (lift2 subD (callF run_Ldraw [(0, 0)] (argR 0 (argV (lift2 mulD (okC (.int 2)) (rdF 5)) args0))) (rdF 5)) (lift1 intD (lift2 (cmpD gtI) (rdF 4) (okC (.int 1))))) [8]) (setG 6)) bk_Ltolls_7)
def bk_Ltolls_9 : J.Env → Out := (seqO (asgO (callF run_Lone [(0, 0)] (argR 0 (argV (lstF (argV (okC (.int 2)) (argV (okC (.int 7)) (argV (okC (.int 100)) (argV (lift2 powD (okC (.int 10)) (okC (.int 10))) args0))))) args0))) (setG 5)) bk_Ltolls_8)
def bk_Ltolls_10 : J.Env → Out := (seqO (asgO (callF run_Ldraw [(0, 0)] (argR 0 (argV (okC (.int 6)) args0))) (setG 4)) bk_Ltolls_9)
def bk_Ltolls_11 : J.Env → Out := (seqO (asgO (lift1 lenD (rdF 1)) (setG 3)) bk_Ltolls_10)
def run_Ltolls : List D → R D := defF 3 [0, 1, 2] 9
    bk_Ltolls_11
theorem ok_Ltolls {f : Addr} {fd : FuncData} (F : Fun K "_law_tolls" "_law_tolls" s_Ltolls f fd) (B : Bi mg) (T_Table : ClsT K mg "Table" (C 0)) (A_Table : ∀ f ∈ (["results", "prices"] : List Str), NoAttr K (C 0) f) (c_Ldraw : CalU P w K mg base C "_law_draw" 2 P_Ldraw 2 run_Ldraw) (c_Lone : CalU P w K mg base C "_law_one" 3 P_Lone 2 run_Lone) (c_Lby_worths : CalU P w K mg base C "_law_by_worths" 1 P_Lby_worths 2 run_Lby_worths) : FnU P w K mg base 4 f fd P_Ltolls (spP K C 3 run_Ltolls) := by
  refine okP F sc_Ltolls rfl rfl (by decide) fun cdv A outer s H E hG hr => ?_
  have tk : Takes (cxOf (L2.CX P w) P w K mg base N_Ltolls "_law_tolls" (defScope s_Ltolls) f cdv A outer s H E) (fun cls d _ H => E cls d H) := takes_of rfl rfl rfl rfl
  exact (st_seq (z_set (by decide) (ps_set (i := 3) sc_Ltolls.nd rfl (Or.inr rfl) (z_len (pe_callB (id := "len") call_len (by rfl) B.n_len (by decide +kernel) (pa_cons (q_name (pv 1)) pa_nil)))))
      (st_seq (z_set (by decide) (ps_set (i := 4) sc_Ltolls.nd rfl (Or.inr rfl) (z_call c_Ldraw.pu (AL.ref (AL.val AL.nil)) (pe_callU c_Ldraw.ok hG (hr.mono (by decide)) (by rfl) c_Ldraw.g c_Ldraw.kp c_Ldraw.b .nil tk (z_ar (pa_cons (pv 0) (z_av (pa_cons (q_c (.int _) pe_int) a_nil))))))))
      (st_seq (z_set (by decide) (ps_set (i := 5) sc_Ltolls.nd rfl (Or.inr rfl) (z_call c_Lone.pu (AL.ref (AL.val AL.nil)) (pe_callU c_Lone.ok hG (hr.mono (by decide)) (by rfl) c_Lone.g c_Lone.kp c_Lone.b .nil tk (z_ar (pa_cons (pv 0) (z_av (pa_cons (z_lst (pe_lst (z_av (pa_cons (q_c (.int _) pe_int) (z_av (pa_cons (q_c (.int _) pe_int) (z_av (pa_cons (q_c (.int _) pe_int) (z_av (pa_cons (q_pow (q_c (.int _) pe_int) (q_c (.int _) pe_int)) a_nil)))))))))) a_nil))))))))
      (st_seq (z_setLc 12 rfl (kp' := [0, 1, 2, 3, 4, 5, 6, 7, 9, 10, 11]) (by decide) (by decide) GL.set (ps_setLc (i := 6) (own := [("_law_x", 8)]) rfl sc_Ltolls.nd rfl rfl (sw_true rfl rfl rfl (by decide +kernel)) (z_rng1 (pi_range1 (by rfl) B.n_range (z_av (pa_cons (q_name (pv 3)) a_nil)))) (blkOk_by (own := [("_law_x", 8)]) (N := N_Ltolls) (sc := defScope s_Ltolls) (by decide +kernel)) (fun _ _ _ _ _ => (g_name (by decide) (pg_name (i := 8) sc_Ltolls.nd rfl (Or.inl rfl)))) (fun _ _ _ _ _ => z_pt0) (fun _ _ _ _ _ => (q_mul (q_sub (z_call c_Ldraw.pu (AL.ref (AL.val AL.nil)) (pe_callU c_Ldraw.ok hG (hr.mono (by decide)) (by rfl) c_Ldraw.g c_Ldraw.kp c_Ldraw.b .nil takes0 (z_ar (pa_cons (pv 0) (z_av (pa_cons (q_mul (q_c (.int _) pe_int) (q_name (pv 5))) a_nil)))))) (q_name (pv 5))) (z_cb1 p_int (pe_callTy (T := "int") call_int1 (by rfl) B.n_int (by decide +kernel) (pa_cons (q_cmp op_gt p_cmp (q_name (pv 4)) (q_c (.int _) pe_int) (nomark _)) pa_nil)))))))
      (st_seq (z_set (by decide) (ps_set (i := 7) sc_Ltolls.nd rfl (Or.inl rfl) (z_call c_Lby_worths.pu (AL.val (AL.val AL.nil)) (pe_callU c_Lby_worths.ok hG (hr.mono (by decide)) (by rfl) c_Lby_worths.g c_Lby_worths.kp c_Lby_worths.b .nil tk (z_av (pa_cons (q_name (pv 1)) (z_av (pa_cons (q_name (pv 6)) a_nil))))))))
      (st_seq (s_if (t_cmp (op_or (op_eqD hr.units) (op_eqX (room65 hr))) (p_or p_eqD p_eqX) (q_name (pv 4)) (q_c (.int _) pe_int) (nomark _)) (st_one (s_ret (z_lc 12 rfl (kp := [0, 1, 2, 3, 4, 5, 6, 7, 9, 10, 11]) (by decide) GL.set (pe_lc (own := [("_law_x", 8)]) rfl sc_Ltolls.nd (z_rng1 (pi_range1 (by rfl) B.n_range (z_av (pa_cons (q_name (pv 3)) a_nil)))) (blkOk_by (own := [("_law_x", 8)]) (N := N_Ltolls) (sc := defScope s_Ltolls) (by decide +kernel)) (fun _ _ _ _ _ => (g_name (by decide) (pg_name (i := 8) sc_Ltolls.nd rfl (Or.inl rfl)))) (fun _ _ _ _ _ => z_pt0) (fun _ _ _ _ _ => (z_lc 12 rfl (kp := [0, 1, 2, 3, 4, 5, 6, 7, 8, 10, 11]) (by decide) GL.set (pe_lc (own := [("_law_y", 9)]) rfl sc_Ltolls.nd (z_rng1 (pi_range1 (by rfl) B.n_range (z_av (pa_cons (q_name (pv 3)) a_nil)))) (blkOk_by (own := [("_law_y", 9)]) (N := N_Ltolls) (sc := _) (by kernel_rfl)) (fun _ _ _ _ _ => (g_name (by decide) (pg_name (i := 9) sc_Ltolls.nd rfl (Or.inl rfl)))) (fun _ _ _ _ _ => z_pt0) (fun _ _ _ _ _ => (q_sub (z_call c_Ldraw.pu (AL.ref (AL.val AL.nil)) (pe_callU c_Ldraw.ok hG (hr.mono (by decide)) (by rfl) c_Ldraw.g c_Ldraw.kp c_Ldraw.b .nil takes0 (z_ar (pa_cons (pv 0) (z_av (pa_cons (q_mul (q_c (.int _) pe_int) (q_name (pv 5))) a_nil)))))) (q_name (pv 5))))))))))) st_nil)
      (st_seq (s_if (t_cmp (op_or (op_eqD hr.units) (op_eqX (room65 hr))) (p_or p_eqD p_eqX) (q_name (pv 4)) (q_c (.int _) pe_int) (nomark _)) (st_one (z_setLc 12 rfl (kp' := [0, 1, 2, 3, 4, 5, 6, 7, 8, 9, 11]) (by decide) (by decide) GL.set (ps_setLc (i := 7) (own := [("_law_row", 10)]) rfl sc_Ltolls.nd rfl rfl (sw_true rfl rfl rfl (by decide +kernel)) (y_list (q_name (pv 7))) (blkOk_by (own := [("_law_row", 10)]) (N := N_Ltolls) (sc := defScope s_Ltolls) (by decide +kernel)) (fun _ _ _ _ _ => (g_name (by decide) (pg_name (i := 10) sc_Ltolls.nd rfl (Or.inl rfl)))) (fun _ _ _ _ _ => z_pt0) (fun _ _ _ _ _ => (z_lc 12 rfl (kp := [0, 1, 2, 3, 4, 5, 6, 7, 8, 9, 10]) (by decide) GL.set (pe_lc (own := [("_law_toll", 11)]) rfl sc_Ltolls.nd (y_list (q_name (pv 10))) (blkOk_by (own := [("_law_toll", 11)]) (N := N_Ltolls) (sc := _) (by kernel_rfl)) (fun _ _ _ _ _ => (g_name (by decide) (pg_name (i := 11) sc_Ltolls.nd rfl (Or.inl rfl)))) (fun _ _ _ _ _ => z_pt0) (fun _ _ _ _ _ => (q_add (q_name (pv 11)) (q_mul (q_name (pv 2)) (q_sub (z_call c_Ldraw.pu (AL.ref (AL.val AL.nil)) (pe_callU c_Ldraw.ok hG (hr.mono (by decide)) (by rfl) c_Ldraw.g c_Ldraw.kp c_Ldraw.b .nil takes0 (z_ar (pa_cons (pv 0) (z_av (pa_cons (q_c (.int _) pe_int) a_nil)))))) (q_c (.int _) pe_int))))))))))) st_nil)
      (st_seq (s_if (t_cmp (op_or (op_eqD hr.units) (op_eqX (room65 hr))) (p_or p_eqD p_eqX) (q_name (pv 4)) (q_c (.int _) pe_int) (nomark _)) (st_seq (z_par (by decide) (by decide) (ps_par (i := 8) (j := 9) rfl sc_Ltolls.nd rfl rfl (by decide) rfl rfl (z_av (pa_cons (z_call c_Ldraw.pu (AL.ref (AL.val AL.nil)) (pe_callU c_Ldraw.ok hG (hr.mono (by decide)) (by rfl) c_Ldraw.g c_Ldraw.kp c_Ldraw.b .nil tk (z_ar (pa_cons (pv 0) (z_av (pa_cons (q_name (pv 3)) a_nil)))))) (z_av (pa_cons (z_call c_Ldraw.pu (AL.ref (AL.val AL.nil)) (pe_callU c_Ldraw.ok hG (hr.mono (by decide)) (by rfl) c_Ldraw.g c_Ldraw.kp c_Ldraw.b .nil tk (z_ar (pa_cons (pv 0) (z_av (pa_cons (q_name (pv 3)) a_nil)))))) a_nil)))) (by rfl)))
      (st_one (z_asg (ps_asg (q_add (q_add (q_b (qb_ix (qb_ix (qb_name (pv 7)) (qb_name (pv 8)) (fun _ _ => rfl)) (qb_name (pv 9)) (fun _ _ => rfl))) (q_c (.int _) pe_int)) (z_call c_Ldraw.pu (AL.ref (AL.val AL.nil)) (pe_callU c_Ldraw.ok hG (hr.mono (by decide)) (by rfl) c_Ldraw.g c_Ldraw.kp c_Ldraw.b .nil tk (z_ar (pa_cons (pv 0) (z_av (pa_cons (q_mul (q_c (.int _) pe_int) (q_name (pv 2))) a_nil))))))) (z_put2 (pg_sub (pe_ix x_ix (pv 7) (qb_name (pv 8)) (fun _ _ => rfl)) (qb_name (pv 9)) set_list)))))) st_nil)
      (st_one (s_ret (q_move (pv 7))))))))))))
theorem ws_Ltolls : ∀ (ds : List D) (Q : D → J.Env → Prop) (X : XQ), Wr (run_Ltolls ds) Q X ↔ Wo (bk_Ltolls_11 (ds.map some ++ List.replicate 9 none)) (defQ 3 [0, 1, 2] Q X) := fun _ _ _ => wz_def
theorem wb_Ltolls : (∀ (env : J.Env) (Q : Out → Prop), Wo (bk_Ltolls_0 env) Q ↔ Wo ((retO (compO (rng1I (argV (rdF 3) args0)) (setG 8) yesB (compO (rng1I (argV (rdF 3) args0)) (setG 9) yesB (lift2 subD (callF run_Ldraw [(0, 0)] (argR 0 (argV (lift2 mulD (okC (.int 2)) (rdF 5)) args0))) (rdF 5)) [9]) [8])) env) Q)
  ∧ (∀ (env : J.Env) (Q : Out → Prop), Wo (bk_Ltolls_1 env) Q ↔ Wo ((asgO (compO (lstI (rdF 7)) (setG 10) yesB (compO (lstI (rdF 10)) (setG 11) yesB (lift2 addD (rdF 11) (lift2 mulD (rdF 2) (lift2 subD (callF run_Ldraw [(0, 0)] (argR 0 (argV (okC (.int 7)) args0))) (okC (.int 3))))) [11]) [10]) (setG 7)) env) Q)
  ∧ (∀ (env : J.Env) (Q : Out → Prop), Wo (bk_Ltolls_2 env) Q ↔ Wo ((asgO (lift2 addD (lift2 addD (toT (bop2 ixD (bop2 ixD (rdB 7) (rdB 8)) (rdB 9))) (okC (.int 1))) (callF run_Ldraw [(0, 0)] (argR 0 (argV (lift2 mulD (okC (.int 2)) (rdF 2)) args0)))) (put2G 7 (rdB 8) (rdB 9))) env) Q)
  ∧ (∀ (env : J.Env) (Q : Out → Prop), Wo (bk_Ltolls_3 env) Q ↔ Wo ((seqO (parO 8 9 (argV (callF run_Ldraw [(0, 0)] (argR 0 (argV (rdF 3) args0))) (argV (callF run_Ldraw [(0, 0)] (argR 0 (argV (rdF 3) args0))) args0))) bk_Ltolls_2) env) Q)
  ∧ (∀ (env : J.Env) (Q : Out → Prop), Wo (bk_Ltolls_4 env) Q ↔ Wo ((seqO (ifO (asB (lift2 eqW (rdF 4) (okC (.int 5)))) bk_Ltolls_3 nilO) (retO (rdM 7))) env) Q)
  ∧ (∀ (env : J.Env) (Q : Out → Prop), Wo (bk_Ltolls_5 env) Q ↔ Wo ((seqO (ifO (asB (lift2 eqW (rdF 4) (okC (.int 4)))) bk_Ltolls_1 nilO) bk_Ltolls_4) env) Q)
  ∧ (∀ (env : J.Env) (Q : Out → Prop), Wo (bk_Ltolls_6 env) Q ↔ Wo ((seqO (ifO (asB (lift2 eqW (rdF 4) (okC (.int 1)))) bk_Ltolls_0 nilO) bk_Ltolls_5) env) Q)
  ∧ (∀ (env : J.Env) (Q : Out → Prop), Wo (bk_Ltolls_7 env) Q ↔ Wo ((seqO (asgO (callF run_Lby_worths [] (argV (rdF 1) (argV (rdF 6) args0))) (setG 7)) bk_Ltolls_6) env) Q)
  ∧ (∀ (env : J.Env) (Q : Out → Prop), Wo (bk_Ltolls_8 env) Q ↔ Wo ((seqO (asgO (compO (rng1I (argV (rdF 3) args0)) (setG 8) yesB (lift2 mulD (lift2 subD (callF run_Ldraw [(0, 0)] (argR 0 (argV (lift2 mulD (okC (.int 2)) (rdF 5)) args0))) (rdF 5)) (lift1 intD (lift2 (cmpD gtI) (rdF 4) (okC (.int 1))))) [8]) (setG 6)) bk_Ltolls_7) env) Q)
  ∧ (∀ (env : J.Env) (Q : Out → Prop), Wo (bk_Ltolls_9 env) Q ↔ Wo ((seqO (asgO (callF run_Lone [(0, 0)] (argR 0 (argV (lstF (argV (okC (.int 2)) (argV (okC (.int 7)) (argV (okC (.int 100)) (argV (lift2 powD (okC (.int 10)) (okC (.int 10))) args0))))) args0))) (setG 5)) bk_Ltolls_8) env) Q)
  ∧ (∀ (env : J.Env) (Q : Out → Prop), Wo (bk_Ltolls_10 env) Q ↔ Wo ((seqO (asgO (callF run_Ldraw [(0, 0)] (argR 0 (argV (okC (.int 6)) args0))) (setG 4)) bk_Ltolls_9) env) Q)
  ∧ (∀ (env : J.Env) (Q : Out → Prop), Wo (bk_Ltolls_11 env) Q ↔ Wo ((seqO (asgO (lift1 lenD (rdF 1)) (setG 3)) bk_Ltolls_10) env) Q)
  ∧ (∀ e : J.Env, outsOf 3 [0, 1, 2] e = [(e[0]?).join, (e[1]?).join, (e[2]?).join]) := ⟨fun _ _ => Iff.rfl, fun _ _ => Iff.rfl, fun _ _ => Iff.rfl, fun _ _ => Iff.rfl, fun _ _ => Iff.rfl, fun _ _ => Iff.rfl, fun _ _ => Iff.rfl, fun _ _ => Iff.rfl, fun _ _ => Iff.rfl, fun _ _ => Iff.rfl, fun _ _ => Iff.rfl, fun _ _ => Iff.rfl, fun _ => rfl⟩
end
section
variable {P : Program} {w : World} {K : PySem.W.Frag} {mg : Str → Option Value} {base : Heap} {C : CT}
abbrev s_Ltable : Stmt := topS 35
abbrev N_Ltable : List Str := ["_law_joins_here", "_law_tolls_here", "_law_row"]
abbrev P_Ltable : List Str := ["_law_joins_here", "_law_tolls_here"]
theorem sc_Ltable : FnScope N_Ltable P_Ltable (defScope s_Ltable) := ⟨rfl, rfl, rfl, by decide +kernel, rfl, by decide +kernel, by decide +kernel⟩
def bk_Ltable_0 : J.Env → Out := (retO (makeF 0 run_Table___init__ [] (argV (compO (lstI (rdF 0)) (setG 2) yesB (lift1 listD (rdF 2)) [2]) (argV (compO (lstI (rdF 1)) (setG 2) yesB (lift1 listD (rdF 2)) [2]) args0))))
def run_Ltable : List D → R D := defF 2 [0, 1] 1
    bk_Ltable_0
theorem ok_Ltable {f : Addr} {fd : FuncData} (F : Fun K "_law_table" "_law_table" s_Ltable f fd) (B : Bi mg) (T_Table : ClsT K mg "Table" (C 0)) (A_Table : ∀ f ∈ (["results", "prices"] : List Str), NoAttr K (C 0) f) (c_Table___init__ : ICalU P w K mg base C 0 5 P_Table___init__ 2 run_Table___init__) : FnU P w K mg base 7 f fd P_Ltable (spP K C 2 run_Ltable) := by
  refine okP F sc_Ltable rfl rfl (by decide) fun cdv A outer s H E hG hr => ?_
  have tk : Takes (cxOf (L2.CX P w) P w K mg base N_Ltable "_law_table" (defScope s_Ltable) f cdv A outer s H E) (fun cls d _ H => E cls d H) := takes_of rfl rfl rfl rfl
  exact (st_one (s_ret (z_make c_Table___init__.pu (AL.val (AL.val AL.nil)) (pe_makeU c_Table___init__.ma c_Table___init__.ok hG (hr.mono (by decide)) (by rfl) T_Table.g c_Table___init__.b .nil tk (z_av (pa_cons (z_lc 3 rfl (kp := [0, 1]) (by decide) GL.set (pe_lc (own := [("_law_row", 2)]) rfl sc_Ltable.nd (y_list (q_name (pv 0))) (blkOk_by (own := [("_law_row", 2)]) (N := N_Ltable) (sc := defScope s_Ltable) (by decide +kernel)) (fun _ _ _ _ _ => (g_name (by decide) (pg_name (i := 2) sc_Ltable.nd rfl (Or.inl rfl)))) (fun _ _ _ _ _ => z_pt0) (fun _ _ _ _ _ => (z_cb1 p_list (pe_callTy (T := "list") call_list_of (by rfl) B.n_list (by decide +kernel) (pa_cons (q_name (pv 2)) pa_nil)))))) (z_av (pa_cons (z_lc 3 rfl (kp := [0, 1]) (by decide) GL.set (pe_lc (own := [("_law_row", 2)]) rfl sc_Ltable.nd (y_list (q_name (pv 1))) (blkOk_by (own := [("_law_row", 2)]) (N := N_Ltable) (sc := defScope s_Ltable) (by decide +kernel)) (fun _ _ _ _ _ => (g_name (by decide) (pg_name (i := 2) sc_Ltable.nd rfl (Or.inl rfl)))) (fun _ _ _ _ _ => z_pt0) (fun _ _ _ _ _ => (z_cb1 p_list (pe_callTy (T := "list") call_list_of (by rfl) B.n_list (by decide +kernel) (pa_cons (q_name (pv 2)) pa_nil)))))) a_nil))))))))
theorem ws_Ltable : ∀ (ds : List D) (Q : D → J.Env → Prop) (X : XQ), Wr (run_Ltable ds) Q X ↔ Wo (bk_Ltable_0 (ds.map some ++ List.replicate 1 none)) (defQ 2 [0, 1] Q X) := fun _ _ _ => wz_def
theorem wb_Ltable : (∀ (env : J.Env) (Q : Out → Prop), Wo (bk_Ltable_0 env) Q ↔ Wo ((retO (makeF 0 run_Table___init__ [] (argV (compO (lstI (rdF 0)) (setG 2) yesB (lift1 listD (rdF 2)) [2]) (argV (compO (lstI (rdF 1)) (setG 2) yesB (lift1 listD (rdF 2)) [2]) args0)))) env) Q)
  ∧ (∀ e : J.Env, outsOf 2 [0, 1] e = [(e[0]?).join, (e[1]?).join]) := ⟨fun _ _ => Iff.rfl, fun _ => rfl⟩
end
section
variable {P : Program} {w : World} {K : PySem.W.Frag} {mg : Str → Option Value} {base : Heap} {C : CT}
abbrev s_Lboth : Stmt := topS 37
abbrev N_Lboth : List Str := ["_law_joins_here", "_law_tolls_here", "_law_triple", "_law_totals", "_law_x", "_law_y", "_law_z", "_law_left", "_law_right_here"]
abbrev P_Lboth : List Str := ["_law_joins_here", "_law_tolls_here", "_law_triple"]
theorem sc_Lboth : FnScope N_Lboth P_Lboth (defScope s_Lboth) := ⟨rfl, rfl, rfl, by decide +kernel, rfl, by decide +kernel, by decide +kernel⟩
def bk_Lboth_0 : J.Env → Out := (retO (tupF (argV (tupF (argV (lift2 ixF (lift2 ixF (rdF 0) (lift2 subD (rdF 7) (okC (.int 1)))) (lift2 subD (rdF 6) (okC (.int 1)))) (argV (lift2 ixF (lift2 ixF (rdF 0) (lift2 subD (rdF 4) (okC (.int 1)))) (lift2 subD (rdF 8) (okC (.int 1)))) args0))) (argV (rdM 3) args0))))
def bk_Lboth_1 : J.Env → Out := (seqO (asgO (tupF (argV (lift2 addD (lift2 ixF (lift2 ixF (rdF 1) (lift2 subD (rdF 4) (okC (.int 1)))) (lift2 subD (rdF 5) (okC (.int 1)))) (lift2 ixF (lift2 ixF (rdF 1) (lift2 subD (rdF 7) (okC (.int 1)))) (lift2 subD (rdF 6) (okC (.int 1))))) (argV (lift2 addD (lift2 ixF (lift2 ixF (rdF 1) (lift2 subD (rdF 5) (okC (.int 1)))) (lift2 subD (rdF 6) (okC (.int 1)))) (lift2 ixF (lift2 ixF (rdF 1) (lift2 subD (rdF 4) (okC (.int 1)))) (lift2 subD (rdF 8) (okC (.int 1))))) args0))) (setG 3)) bk_Lboth_0)
def bk_Lboth_2 : J.Env → Out := (seqO (parO 7 8 (argV (lift2 ixF (lift2 ixF (rdF 0) (lift2 subD (rdF 4) (okC (.int 1)))) (lift2 subD (rdF 5) (okC (.int 1)))) (argV (lift2 ixF (lift2 ixF (rdF 0) (lift2 subD (rdF 5) (okC (.int 1)))) (lift2 subD (rdF 6) (okC (.int 1)))) args0))) bk_Lboth_1)
def bk_Lboth_3 : J.Env → Out := (seqO (asgO (rdF 2) (tupG 3 (consG (setG 4) (consG (setG 5) (consG (setG 6) nilG))))) bk_Lboth_2)
def run_Lboth : List D → R D := defF 3 [0, 1, 2] 6
    bk_Lboth_3
theorem ok_Lboth {f : Addr} {fd : FuncData} (F : Fun K "_law_both" "_law_both" s_Lboth f fd) (B : Bi mg) (T_Table : ClsT K mg "Table" (C 0)) (A_Table : ∀ f ∈ (["results", "prices"] : List Str), NoAttr K (C 0) f) : FnU P w K mg base 1 f fd P_Lboth (spP K C 3 run_Lboth) := by
  refine okP F sc_Lboth rfl rfl (by decide) fun cdv A outer s H E hG hr => ?_
  have tk : Takes (cxOf (L2.CX P w) P w K mg base N_Lboth "_law_both" (defScope s_Lboth) f cdv A outer s H E) (fun cls d _ H => E cls d H) := takes_of rfl rfl rfl rfl
  exact (st_seq (z_asg (ps_asg (q_name (pv 2)) (z_gtup (pg_tup rfl (z_gcons (pgs_cons (g_name (by decide) (pg_name (i := 4) sc_Lboth.nd rfl (Or.inl rfl))) (z_gcons (pgs_cons (g_name (by decide) (pg_name (i := 5) sc_Lboth.nd rfl (Or.inl rfl))) (z_gcons (pgs_cons (g_name (by decide) (pg_name (i := 6) sc_Lboth.nd rfl (Or.inl rfl))) gs_nil))))))))))
      (st_seq (z_par (by decide) (by decide) (ps_par (i := 7) (j := 8) rfl sc_Lboth.nd rfl rfl (by decide) rfl rfl (z_av (pa_cons (q_ix (q_ix (q_name (pv 0)) (q_sub (q_name (pv 4)) (q_c (.int _) pe_int)) (fun _ _ => rfl)) (q_sub (q_name (pv 5)) (q_c (.int _) pe_int)) (fun _ _ => rfl)) (z_av (pa_cons (q_ix (q_ix (q_name (pv 0)) (q_sub (q_name (pv 5)) (q_c (.int _) pe_int)) (fun _ _ => rfl)) (q_sub (q_name (pv 6)) (q_c (.int _) pe_int)) (fun _ _ => rfl)) a_nil)))) (by rfl)))
      (st_seq (z_set (by decide) (ps_set (i := 3) sc_Lboth.nd rfl (Or.inl rfl) (z_tup (pe_tup (z_av (pa_cons (q_add (q_ix (q_ix (q_name (pv 1)) (q_sub (q_name (pv 4)) (q_c (.int _) pe_int)) (fun _ _ => rfl)) (q_sub (q_name (pv 5)) (q_c (.int _) pe_int)) (fun _ _ => rfl)) (q_ix (q_ix (q_name (pv 1)) (q_sub (q_name (pv 7)) (q_c (.int _) pe_int)) (fun _ _ => rfl)) (q_sub (q_name (pv 6)) (q_c (.int _) pe_int)) (fun _ _ => rfl))) (z_av (pa_cons (q_add (q_ix (q_ix (q_name (pv 1)) (q_sub (q_name (pv 5)) (q_c (.int _) pe_int)) (fun _ _ => rfl)) (q_sub (q_name (pv 6)) (q_c (.int _) pe_int)) (fun _ _ => rfl)) (q_ix (q_ix (q_name (pv 1)) (q_sub (q_name (pv 4)) (q_c (.int _) pe_int)) (fun _ _ => rfl)) (q_sub (q_name (pv 8)) (q_c (.int _) pe_int)) (fun _ _ => rfl))) a_nil))))))))
      (st_one (s_ret (z_tup (pe_tup (z_av (pa_cons (z_tup (pe_tup (z_av (pa_cons (q_ix (q_ix (q_name (pv 0)) (q_sub (q_name (pv 7)) (q_c (.int _) pe_int)) (fun _ _ => rfl)) (q_sub (q_name (pv 6)) (q_c (.int _) pe_int)) (fun _ _ => rfl)) (z_av (pa_cons (q_ix (q_ix (q_name (pv 0)) (q_sub (q_name (pv 4)) (q_c (.int _) pe_int)) (fun _ _ => rfl)) (q_sub (q_name (pv 8)) (q_c (.int _) pe_int)) (fun _ _ => rfl)) a_nil)))))) (z_av (pa_cons (q_move (pv 3)) a_nil)))))))))))
theorem ws_Lboth : ∀ (ds : List D) (Q : D → J.Env → Prop) (X : XQ), Wr (run_Lboth ds) Q X ↔ Wo (bk_Lboth_3 (ds.map some ++ List.replicate 6 none)) (defQ 3 [0, 1, 2] Q X) := fun _ _ _ => wz_def
theorem wb_Lboth : (∀ (env : J.Env) (Q : Out → Prop), Wo (bk_Lboth_0 env) Q ↔ Wo ((retO (tupF (argV (tupF (argV (lift2 ixF (lift2 ixF (rdF 0) (lift2 subD (rdF 7) (okC (.int 1)))) (lift2 subD (rdF 6) (okC (.int 1)))) (argV (lift2 ixF (lift2 ixF (rdF 0) (lift2 subD (rdF 4) (okC (.int 1)))) (lift2 subD (rdF 8) (okC (.int 1)))) args0))) (argV (rdM 3) args0)))) env) Q)
  ∧ (∀ (env : J.Env) (Q : Out → Prop), Wo (bk_Lboth_1 env) Q ↔ Wo ((seqO (asgO (tupF (argV (lift2 addD (lift2 ixF (lift2 ixF (rdF 1) (lift2 subD (rdF 4) (okC (.int 1)))) (lift2 subD (rdF 5) (okC (.int 1)))) (lift2 ixF (lift2 ixF (rdF 1) (lift2 subD (rdF 7) (okC (.int 1)))) (lift2 subD (rdF 6) (okC (.int 1))))) (argV (lift2 addD (lift2 ixF (lift2 ixF (rdF 1) (lift2 subD (rdF 5) (okC (.int 1)))) (lift2 subD (rdF 6) (okC (.int 1)))) (lift2 ixF (lift2 ixF (rdF 1) (lift2 subD (rdF 4) (okC (.int 1)))) (lift2 subD (rdF 8) (okC (.int 1))))) args0))) (setG 3)) bk_Lboth_0) env) Q)
  ∧ (∀ (env : J.Env) (Q : Out → Prop), Wo (bk_Lboth_2 env) Q ↔ Wo ((seqO (parO 7 8 (argV (lift2 ixF (lift2 ixF (rdF 0) (lift2 subD (rdF 4) (okC (.int 1)))) (lift2 subD (rdF 5) (okC (.int 1)))) (argV (lift2 ixF (lift2 ixF (rdF 0) (lift2 subD (rdF 5) (okC (.int 1)))) (lift2 subD (rdF 6) (okC (.int 1)))) args0))) bk_Lboth_1) env) Q)
  ∧ (∀ (env : J.Env) (Q : Out → Prop), Wo (bk_Lboth_3 env) Q ↔ Wo ((seqO (asgO (rdF 2) (tupG 3 (consG (setG 4) (consG (setG 5) (consG (setG 6) nilG))))) bk_Lboth_2) env) Q)
  ∧ (∀ e : J.Env, outsOf 3 [0, 1, 2] e = [(e[0]?).join, (e[1]?).join, (e[2]?).join]) := ⟨fun _ _ => Iff.rfl, fun _ _ => Iff.rfl, fun _ _ => Iff.rfl, fun _ _ => Iff.rfl, fun _ => rfl⟩
end
section
variable {P : Program} {w : World} {K : PySem.W.Frag} {mg : Str → Option Value} {base : Heap} {C : CT}
abbrev s_Ltriples : Stmt := topS 36
abbrev N_Ltriples : List Str := ["_law_size", "_law_found", "_law_x", "_law_y", "_law_z"]
abbrev P_Ltriples : List Str := ["_law_size"]
theorem sc_Ltriples : FnScope N_Ltriples P_Ltriples (defScope s_Ltriples) := ⟨rfl, rfl, rfl, by decide +kernel, rfl, by decide +kernel, by decide +kernel⟩
def bk_Ltriples_0 : J.Env → Out := (extO 1 (compO (rng2I (argV (okC (.int 1)) (argV (lift2 addD (rdF 0) (okC (.int 1))) args0))) (setG 4) yesB (tupF (argV (rdF 2) (argV (rdF 3) (argV (rdF 4) args0)))) [4]))
abbrev lb_Ltriples_0 : J.Env → Out := bk_Ltriples_0
def bk_Ltriples_1 : J.Env → Out := (forO (rng2I (argV (okC (.int 1)) (argV (lift2 addD (rdF 0) (okC (.int 1))) args0))) (setG 3) lb_Ltriples_0)
abbrev lb_Ltriples_1 : J.Env → Out := bk_Ltriples_1
def bk_Ltriples_2 : J.Env → Out := (seqO (forO (rng2I (argV (okC (.int 1)) (argV (lift2 addD (rdF 0) (okC (.int 1))) args0))) (setG 2) lb_Ltriples_1) (retO (rdM 1)))
def bk_Ltriples_3 : J.Env → Out := (seqO (asgO (lstF args0) (setG 1)) bk_Ltriples_2)
def run_Ltriples : List D → R D := defF 1 [0] 4
    bk_Ltriples_3
theorem ok_Ltriples {f : Addr} {fd : FuncData} (F : Fun K "_law_triples" "_law_triples" s_Ltriples f fd) (B : Bi mg) (T_Table : ClsT K mg "Table" (C 0)) (A_Table : ∀ f ∈ (["results", "prices"] : List Str), NoAttr K (C 0) f) : FnU P w K mg base 1 f fd P_Ltriples (spP K C 1 run_Ltriples) := by
  refine okP F sc_Ltriples rfl rfl (by decide) fun cdv A outer s H E hG hr => ?_
  have tk : Takes (cxOf (L2.CX P w) P w K mg base N_Ltriples "_law_triples" (defScope s_Ltriples) f cdv A outer s H E) (fun cls d _ H => E cls d H) := takes_of rfl rfl rfl rfl
  exact (st_seq (z_set (by decide) (ps_set (i := 1) sc_Ltriples.nd rfl (Or.inl rfl) (z_lst (pe_lst a_nil))))
      (st_seq (z_for (ps_for (passes_of rfl) rfl (z_rng2 (pi_range2 (by rfl) B.n_range (z_av (pa_cons (q_c (.int _) pe_int) (z_av (pa_cons (q_add (q_name (pv 0)) (q_c (.int _) pe_int)) a_nil)))))) (g_name (by decide) (pg_name (i := 2) sc_Ltriples.nd rfl (Or.inr rfl))) (st_one (z_for (ps_for (passes_of rfl) rfl (z_rng2 (pi_range2 (by rfl) B.n_range (z_av (pa_cons (q_c (.int _) pe_int) (z_av (pa_cons (q_add (q_name (pv 0)) (q_c (.int _) pe_int)) a_nil)))))) (g_name (by decide) (pg_name (i := 3) sc_Ltriples.nd rfl (Or.inr rfl))) (st_one (z_ext (ps_expr (pe_bm PySem.F.plainAttrs_list PySem.F.slot_list_extend PySem.F.type_list_extend mt_extend (pv 1) (pa_cons (z_lc 5 rfl (kp := [0, 1, 2, 3]) (by decide) GL.set (pe_lc (own := [("_law_z", 4)]) rfl sc_Ltriples.nd (z_rng2 (pi_range2 (by rfl) B.n_range (z_av (pa_cons (q_c (.int _) pe_int) (z_av (pa_cons (q_add (q_name (pv 0)) (q_c (.int _) pe_int)) a_nil)))))) (blkOk_by (own := [("_law_z", 4)]) (N := N_Ltriples) (sc := defScope s_Ltriples) (by decide +kernel)) (fun _ _ _ _ _ => (g_name (by decide) (pg_name (i := 4) sc_Ltriples.nd rfl (Or.inl rfl)))) (fun _ _ _ _ _ => z_pt0) (fun _ _ _ _ _ => (z_tup (pe_tup (z_av (pa_cons (q_name (pv 2)) (z_av (pa_cons (q_name (pv 3)) (z_av (pa_cons (q_name (pv 4)) a_nil))))))))))) pa_nil))))))))))
      (st_one (s_ret (q_move (pv 1))))))
end
section
variable {P : Program} {w : World} {K : PySem.W.Frag} {mg : Str → Option Value} {base : Heap} {C : CT}
abbrev s_check_modulus : Stmt := topS 21
abbrev N_check_modulus : List Str := ["modulus"]
abbrev P_check_modulus : List Str := ["modulus"]
theorem sc_check_modulus : FnScope N_check_modulus P_check_modulus (defScope s_check_modulus) := ⟨rfl, rfl, rfl, by decide +kernel, rfl, by decide +kernel, by decide +kernel⟩
def bk_check_modulus_0 : J.Env → Out := (raiseO 20 ["modulus", "why"] (gF1 "modulus") (argV (rdF 0) args0))
def bk_check_modulus_1 : J.Env → Out := (ifO (notB (asB (callF run_is_between [] (argApp (argV (rdF 0) args0) (argV (okC (.int 2)) (argV (okC (.int 1000000)) args0)))))) bk_check_modulus_0 nilO)
def run_check_modulus : List D → R D := defF 1 [0] 0
    bk_check_modulus_1
theorem ok_check_modulus {f : Addr} {fd : FuncData} (F : Fun K "check_modulus" "check_modulus" s_check_modulus f fd) (B : Bi mg) (T_Table : ClsT K mg "Table" (C 0)) (A_Table : ∀ f ∈ (["results", "prices"] : List Str), NoAttr K (C 0) f) (c_is_between : CalKU P w K mg base C "is_between" 2 P_is_between ["low", "high"] 3 run_is_between (gapp 1) (gapp 1)) (x_BadModulus : XCalU P w K mg base C 20 "BadModulus" 3 P_BadModulus___init__ okv1 ["modulus", "why"] (fl1 "modulus") [] []) : FnU P w K mg base 6 f fd P_check_modulus (spP K C 1 run_check_modulus) := by
  refine okP F sc_check_modulus rfl rfl (by decide) fun cdv A outer s H E hG hr => ?_
  have tk : Takes (cxOf (L2.CX P w) P w K mg base N_check_modulus "check_modulus" (defScope s_check_modulus) f cdv A outer s H E) (fun cls d _ H => E cls d H) := takes_of rfl rfl rfl rfl
  exact (st_one (s_if (t_not (t_val (z_callK c_is_between.pu (AL.val AL.nil) (AL.val (AL.val AL.nil)) (by decide) gapp_V (pe_callKU c_is_between.ok hG (hr.mono (by decide)) (by rfl) c_is_between.g c_is_between.kp c_is_between.b tk (z_av (pa_cons (q_name (pv 0)) a_nil)) (z_kv (pk_cons (q_c (.int _) (pe_gint B.k_LEAST_MODULUS)) (z_kv (pk_cons (q_c (.int _) (pe_gint B.k_MOST_MODULUS)) k_nil)))))))) (st_one (z_raise rfl tk rfl rfl rfl rfl x_BadModulus (hr.mono (by decide)) (by rfl) xg_1 (z_av (pa_cons (q_name (pv 0)) a_nil)))) st_nil))
theorem ws_check_modulus : ∀ (ds : List D) (Q : D → J.Env → Prop) (X : XQ), Wr (run_check_modulus ds) Q X ↔ Wo (bk_check_modulus_1 (ds.map some ++ List.replicate 0 none)) (defQ 1 [0] Q X) := fun _ _ _ => wz_def
theorem wb_check_modulus : (∀ (env : J.Env) (Q : Out → Prop), Wo (bk_check_modulus_0 env) Q ↔ Wo ((raiseO 20 ["modulus", "why"] (gF1 "modulus") (argV (rdF 0) args0)) env) Q)
  ∧ (∀ (env : J.Env) (Q : Out → Prop), Wo (bk_check_modulus_1 env) Q ↔ Wo ((ifO (notB (asB (callF run_is_between [] (argApp (argV (rdF 0) args0) (argV (okC (.int 2)) (argV (okC (.int 1000000)) args0)))))) bk_check_modulus_0 nilO) env) Q)
  ∧ (∀ e : J.Env, outsOf 1 [0] e = [(e[0]?).join]) := ⟨fun _ _ => Iff.rfl, fun _ _ => Iff.rfl, fun _ => rfl⟩
end
section
variable {P : Program} {w : World} {K : PySem.W.Frag} {mg : Str → Option Value} {base : Heap} {C : CT}
abbrev s_left_first : Stmt := topS 15
abbrev N_left_first : List Str := ["table", "triple", "middle", "x", "y", "z"]
abbrev P_left_first : List Str := ["table", "triple"]
theorem sc_left_first : FnScope N_left_first P_left_first (defScope s_left_first) := ⟨rfl, rfl, rfl, by decide +kernel, rfl, by decide +kernel, by decide +kernel⟩
def bk_left_first_0 : J.Env → Out := (retO (tupF (argV (methF 0 "join" run_Table_join (rdF 0) (argV (rdF 2) (argV (rdF 5) args0)) []) (argV (lift2 addD (methF 0 "toll" run_Table_toll (rdF 0) (argV (rdF 3) (argV (rdF 4) args0)) []) (methF 0 "toll" run_Table_toll (rdF 0) (argV (rdF 2) (argV (rdF 5) args0)) [])) args0))))
def bk_left_first_1 : J.Env → Out := (seqO (asgO (methF 0 "join" run_Table_join (rdF 0) (argV (rdF 3) (argV (rdF 4) args0)) []) (setG 2)) bk_left_first_0)
def bk_left_first_2 : J.Env → Out := (seqO (asgO (rdF 1) (tupG 3 (consG (setG 3) (consG (setG 4) (consG (setG 5) nilG))))) bk_left_first_1)
def run_left_first : List D → R D := defF 2 [0, 1] 4
    bk_left_first_2
theorem ok_left_first {f : Addr} {fd : FuncData} (F : Fun K "left_first" "left_first" s_left_first f fd) (B : Bi mg) (T_Table : ClsT K mg "Table" (C 0)) (A_Table : ∀ f ∈ (["results", "prices"] : List Str), NoAttr K (C 0) f) (c_Table_join : MCalU P w K mg base C 0 "join" 4 P_Table_join 2 run_Table_join) (c_Table_toll : MCalU P w K mg base C 0 "toll" 4 P_Table_toll 2 run_Table_toll) : FnU P w K mg base 5 f fd P_left_first (spP K C 2 run_left_first) := by
  refine okP F sc_left_first rfl rfl (by decide) fun cdv A outer s H E hG hr => ?_
  have tk : Takes (cxOf (L2.CX P w) P w K mg base N_left_first "left_first" (defScope s_left_first) f cdv A outer s H E) (fun cls d _ H => E cls d H) := takes_of rfl rfl rfl rfl
  exact (st_seq (z_asg (ps_asg (q_name (pv 1)) (z_gtup (pg_tup rfl (z_gcons (pgs_cons (g_name (by decide) (pg_name (i := 3) sc_left_first.nd rfl (Or.inl rfl))) (z_gcons (pgs_cons (g_name (by decide) (pg_name (i := 4) sc_left_first.nd rfl (Or.inl rfl))) (z_gcons (pgs_cons (g_name (by decide) (pg_name (i := 5) sc_left_first.nd rfl (Or.inl rfl))) gs_nil))))))))))
      (st_seq (z_set (by decide) (ps_set (i := 2) sc_left_first.nd rfl (Or.inl rfl) (z_meth c_Table_join.pu (AL.val (AL.val AL.nil)) (pe_methU (q_name (pv 0)) T_Table.cl c_Table_join.me c_Table_join.ok hG (hr.mono (by decide)) c_Table_join.b .nil tk (z_av (pa_cons (q_name (pv 3)) (z_av (pa_cons (q_name (pv 4)) a_nil))))))))
      (st_one (s_ret (z_tup (pe_tup (z_av (pa_cons (z_meth c_Table_join.pu (AL.val (AL.val AL.nil)) (pe_methU (q_name (pv 0)) T_Table.cl c_Table_join.me c_Table_join.ok hG (hr.mono (by decide)) c_Table_join.b .nil tk (z_av (pa_cons (q_name (pv 2)) (z_av (pa_cons (q_name (pv 5)) a_nil)))))) (z_av (pa_cons (q_add (z_meth c_Table_toll.pu (AL.val (AL.val AL.nil)) (pe_methU (q_name (pv 0)) T_Table.cl c_Table_toll.me c_Table_toll.ok hG (hr.mono (by decide)) c_Table_toll.b .nil tk (z_av (pa_cons (q_name (pv 3)) (z_av (pa_cons (q_name (pv 4)) a_nil)))))) (z_meth c_Table_toll.pu (AL.val (AL.val AL.nil)) (pe_methU (q_name (pv 0)) T_Table.cl c_Table_toll.me c_Table_toll.ok hG (hr.mono (by decide)) c_Table_toll.b .nil tk (z_av (pa_cons (q_name (pv 2)) (z_av (pa_cons (q_name (pv 5)) a_nil))))))) a_nil))))))))))
theorem ws_left_first : ∀ (ds : List D) (Q : D → J.Env → Prop) (X : XQ), Wr (run_left_first ds) Q X ↔ Wo (bk_left_first_2 (ds.map some ++ List.replicate 4 none)) (defQ 2 [0, 1] Q X) := fun _ _ _ => wz_def
theorem wb_left_first : (∀ (env : J.Env) (Q : Out → Prop), Wo (bk_left_first_0 env) Q ↔ Wo ((retO (tupF (argV (methF 0 "join" run_Table_join (rdF 0) (argV (rdF 2) (argV (rdF 5) args0)) []) (argV (lift2 addD (methF 0 "toll" run_Table_toll (rdF 0) (argV (rdF 3) (argV (rdF 4) args0)) []) (methF 0 "toll" run_Table_toll (rdF 0) (argV (rdF 2) (argV (rdF 5) args0)) [])) args0)))) env) Q)
  ∧ (∀ (env : J.Env) (Q : Out → Prop), Wo (bk_left_first_1 env) Q ↔ Wo ((seqO (asgO (methF 0 "join" run_Table_join (rdF 0) (argV (rdF 3) (argV (rdF 4) args0)) []) (setG 2)) bk_left_first_0) env) Q)
  ∧ (∀ (env : J.Env) (Q : Out → Prop), Wo (bk_left_first_2 env) Q ↔ Wo ((seqO (asgO (rdF 1) (tupG 3 (consG (setG 3) (consG (setG 4) (consG (setG 5) nilG))))) bk_left_first_1) env) Q)
  ∧ (∀ e : J.Env, outsOf 2 [0, 1] e = [(e[0]?).join, (e[1]?).join]) := ⟨fun _ _ => Iff.rfl, fun _ _ => Iff.rfl, fun _ _ => Iff.rfl, fun _ => rfl⟩
end
section
variable {P : Program} {w : World} {K : PySem.W.Frag} {mg : Str → Option Value} {base : Heap} {C : CT}
abbrev s_right_first : Stmt := topS 16
abbrev N_right_first : List Str := ["table", "triple", "middle", "x", "y", "z"]
abbrev P_right_first : List Str := ["table", "triple"]
theorem sc_right_first : FnScope N_right_first P_right_first (defScope s_right_first) := ⟨rfl, rfl, rfl, by decide +kernel, rfl, by decide +kernel, by decide +kernel⟩
def bk_right_first_0 : J.Env → Out := (retO (tupF (argV (methF 0 "join" run_Table_join (rdF 0) (argV (rdF 3) (argV (rdF 2) args0)) []) (argV (lift2 addD (methF 0 "toll" run_Table_toll (rdF 0) (argV (rdF 4) (argV (rdF 5) args0)) []) (methF 0 "toll" run_Table_toll (rdF 0) (argV (rdF 3) (argV (rdF 2) args0)) [])) args0))))
def bk_right_first_1 : J.Env → Out := (seqO (asgO (methF 0 "join" run_Table_join (rdF 0) (argV (rdF 4) (argV (rdF 5) args0)) []) (setG 2)) bk_right_first_0)
def bk_right_first_2 : J.Env → Out := (seqO (asgO (rdF 1) (tupG 3 (consG (setG 3) (consG (setG 4) (consG (setG 5) nilG))))) bk_right_first_1)
def run_right_first : List D → R D := defF 2 [0, 1] 4
    bk_right_first_2
theorem ok_right_first {f : Addr} {fd : FuncData} (F : Fun K "right_first" "right_first" s_right_first f fd) (B : Bi mg) (T_Table : ClsT K mg "Table" (C 0)) (A_Table : ∀ f ∈ (["results", "prices"] : List Str), NoAttr K (C 0) f) (c_Table_join : MCalU P w K mg base C 0 "join" 4 P_Table_join 2 run_Table_join) (c_Table_toll : MCalU P w K mg base C 0 "toll" 4 P_Table_toll 2 run_Table_toll) : FnU P w K mg base 5 f fd P_right_first (spP K C 2 run_right_first) := by
  refine okP F sc_right_first rfl rfl (by decide) fun cdv A outer s H E hG hr => ?_
  have tk : Takes (cxOf (L2.CX P w) P w K mg base N_right_first "right_first" (defScope s_right_first) f cdv A outer s H E) (fun cls d _ H => E cls d H) := takes_of rfl rfl rfl rfl
  exact (st_seq (z_asg (ps_asg (q_name (pv 1)) (z_gtup (pg_tup rfl (z_gcons (pgs_cons (g_name (by decide) (pg_name (i := 3) sc_right_first.nd rfl (Or.inl rfl))) (z_gcons (pgs_cons (g_name (by decide) (pg_name (i := 4) sc_right_first.nd rfl (Or.inl rfl))) (z_gcons (pgs_cons (g_name (by decide) (pg_name (i := 5) sc_right_first.nd rfl (Or.inl rfl))) gs_nil))))))))))
      (st_seq (z_set (by decide) (ps_set (i := 2) sc_right_first.nd rfl (Or.inl rfl) (z_meth c_Table_join.pu (AL.val (AL.val AL.nil)) (pe_methU (q_name (pv 0)) T_Table.cl c_Table_join.me c_Table_join.ok hG (hr.mono (by decide)) c_Table_join.b .nil tk (z_av (pa_cons (q_name (pv 4)) (z_av (pa_cons (q_name (pv 5)) a_nil))))))))
      (st_one (s_ret (z_tup (pe_tup (z_av (pa_cons (z_meth c_Table_join.pu (AL.val (AL.val AL.nil)) (pe_methU (q_name (pv 0)) T_Table.cl c_Table_join.me c_Table_join.ok hG (hr.mono (by decide)) c_Table_join.b .nil tk (z_av (pa_cons (q_name (pv 3)) (z_av (pa_cons (q_name (pv 2)) a_nil)))))) (z_av (pa_cons (q_add (z_meth c_Table_toll.pu (AL.val (AL.val AL.nil)) (pe_methU (q_name (pv 0)) T_Table.cl c_Table_toll.me c_Table_toll.ok hG (hr.mono (by decide)) c_Table_toll.b .nil tk (z_av (pa_cons (q_name (pv 4)) (z_av (pa_cons (q_name (pv 5)) a_nil)))))) (z_meth c_Table_toll.pu (AL.val (AL.val AL.nil)) (pe_methU (q_name (pv 0)) T_Table.cl c_Table_toll.me c_Table_toll.ok hG (hr.mono (by decide)) c_Table_toll.b .nil tk (z_av (pa_cons (q_name (pv 3)) (z_av (pa_cons (q_name (pv 2)) a_nil))))))) a_nil))))))))))
theorem ws_right_first : ∀ (ds : List D) (Q : D → J.Env → Prop) (X : XQ), Wr (run_right_first ds) Q X ↔ Wo (bk_right_first_2 (ds.map some ++ List.replicate 4 none)) (defQ 2 [0, 1] Q X) := fun _ _ _ => wz_def
theorem wb_right_first : (∀ (env : J.Env) (Q : Out → Prop), Wo (bk_right_first_0 env) Q ↔ Wo ((retO (tupF (argV (methF 0 "join" run_Table_join (rdF 0) (argV (rdF 3) (argV (rdF 2) args0)) []) (argV (lift2 addD (methF 0 "toll" run_Table_toll (rdF 0) (argV (rdF 4) (argV (rdF 5) args0)) []) (methF 0 "toll" run_Table_toll (rdF 0) (argV (rdF 3) (argV (rdF 2) args0)) [])) args0)))) env) Q)
  ∧ (∀ (env : J.Env) (Q : Out → Prop), Wo (bk_right_first_1 env) Q ↔ Wo ((seqO (asgO (methF 0 "join" run_Table_join (rdF 0) (argV (rdF 4) (argV (rdF 5) args0)) []) (setG 2)) bk_right_first_0) env) Q)
  ∧ (∀ (env : J.Env) (Q : Out → Prop), Wo (bk_right_first_2 env) Q ↔ Wo ((seqO (asgO (rdF 1) (tupG 3 (consG (setG 3) (consG (setG 4) (consG (setG 5) nilG))))) bk_right_first_1) env) Q)
  ∧ (∀ e : J.Env, outsOf 2 [0, 1] e = [(e[0]?).join, (e[1]?).join]) := ⟨fun _ _ => Iff.rfl, fun _ _ => Iff.rfl, fun _ _ => Iff.rfl, fun _ => rfl⟩
end
section
variable {P : Program} {w : World} {K : PySem.W.Frag} {mg : Str → Option Value} {base : Heap} {C : CT}
abbrev s_both_modulo : Stmt := topS 22
abbrev N_both_modulo : List Str := ["table", "triple", "modulus", "one", "other"]
abbrev P_both_modulo : List Str := ["table", "triple", "modulus"]
theorem sc_both_modulo : FnScope N_both_modulo P_both_modulo (defScope s_both_modulo) := ⟨rfl, rfl, rfl, by decide +kernel, rfl, by decide +kernel, by decide +kernel⟩
def bk_both_modulo_0 : J.Env → Out := (retO (tupF (argV (tupF (argV (lift2 ixF (rdF 3) (okC (.int 0))) (argV (lift2 modD (lift2 ixF (rdF 3) (okC (.int 1))) (rdF 2)) args0))) (argV (tupF (argV (lift2 ixF (rdF 4) (okC (.int 0))) (argV (lift2 modD (lift2 ixF (rdF 4) (okC (.int 1))) (rdF 2)) args0))) args0))))
def bk_both_modulo_1 : J.Env → Out := (seqO (parO 3 4 (argV (callF run_left_first [] (argV (rdF 0) (argV (rdF 1) args0))) (argV (callF run_right_first [] (argV (rdF 0) (argV (rdF 1) args0))) args0))) bk_both_modulo_0)
def run_both_modulo : List D → R D := defF 3 [0, 1, 2] 2
    bk_both_modulo_1
theorem ok_both_modulo {f : Addr} {fd : FuncData} (F : Fun K "both_modulo" "both_modulo" s_both_modulo f fd) (B : Bi mg) (T_Table : ClsT K mg "Table" (C 0)) (A_Table : ∀ f ∈ (["results", "prices"] : List Str), NoAttr K (C 0) f) (c_left_first : CalU P w K mg base C "left_first" 5 P_left_first 2 run_left_first) (c_right_first : CalU P w K mg base C "right_first" 5 P_right_first 2 run_right_first) : FnU P w K mg base 6 f fd P_both_modulo (spP K C 3 run_both_modulo) := by
  refine okP F sc_both_modulo rfl rfl (by decide) fun cdv A outer s H E hG hr => ?_
  have tk : Takes (cxOf (L2.CX P w) P w K mg base N_both_modulo "both_modulo" (defScope s_both_modulo) f cdv A outer s H E) (fun cls d _ H => E cls d H) := takes_of rfl rfl rfl rfl
  exact (st_seq (z_par (by decide) (by decide) (ps_par (i := 3) (j := 4) rfl sc_both_modulo.nd rfl rfl (by decide) rfl rfl (z_av (pa_cons (z_call c_left_first.pu (AL.val (AL.val AL.nil)) (pe_callU c_left_first.ok hG (hr.mono (by decide)) (by rfl) c_left_first.g c_left_first.kp c_left_first.b .nil tk (z_av (pa_cons (q_name (pv 0)) (z_av (pa_cons (q_name (pv 1)) a_nil)))))) (z_av (pa_cons (z_call c_right_first.pu (AL.val (AL.val AL.nil)) (pe_callU c_right_first.ok hG (hr.mono (by decide)) (by rfl) c_right_first.g c_right_first.kp c_right_first.b .nil tk (z_av (pa_cons (q_name (pv 0)) (z_av (pa_cons (q_name (pv 1)) a_nil)))))) a_nil)))) (by rfl)))
      (st_one (s_ret (z_tup (pe_tup (z_av (pa_cons (z_tup (pe_tup (z_av (pa_cons (q_ix (q_name (pv 3)) (q_c (.int _) pe_int) (fun _ _ => rfl)) (z_av (pa_cons (q_mod (q_ix (q_name (pv 3)) (q_c (.int _) pe_int) (fun _ _ => rfl)) (q_name (pv 2))) a_nil)))))) (z_av (pa_cons (z_tup (pe_tup (z_av (pa_cons (q_ix (q_name (pv 4)) (q_c (.int _) pe_int) (fun _ _ => rfl)) (z_av (pa_cons (q_mod (q_ix (q_name (pv 4)) (q_c (.int _) pe_int) (fun _ _ => rfl)) (q_name (pv 2))) a_nil)))))) a_nil)))))))))
theorem ws_both_modulo : ∀ (ds : List D) (Q : D → J.Env → Prop) (X : XQ), Wr (run_both_modulo ds) Q X ↔ Wo (bk_both_modulo_1 (ds.map some ++ List.replicate 2 none)) (defQ 3 [0, 1, 2] Q X) := fun _ _ _ => wz_def
theorem wb_both_modulo : (∀ (env : J.Env) (Q : Out → Prop), Wo (bk_both_modulo_0 env) Q ↔ Wo ((retO (tupF (argV (tupF (argV (lift2 ixF (rdF 3) (okC (.int 0))) (argV (lift2 modD (lift2 ixF (rdF 3) (okC (.int 1))) (rdF 2)) args0))) (argV (tupF (argV (lift2 ixF (rdF 4) (okC (.int 0))) (argV (lift2 modD (lift2 ixF (rdF 4) (okC (.int 1))) (rdF 2)) args0))) args0)))) env) Q)
  ∧ (∀ (env : J.Env) (Q : Out → Prop), Wo (bk_both_modulo_1 env) Q ↔ Wo ((seqO (parO 3 4 (argV (callF run_left_first [] (argV (rdF 0) (argV (rdF 1) args0))) (argV (callF run_right_first [] (argV (rdF 0) (argV (rdF 1) args0))) args0))) bk_both_modulo_0) env) Q)
  ∧ (∀ e : J.Env, outsOf 3 [0, 1, 2] e = [(e[0]?).join, (e[1]?).join, (e[2]?).join]) := ⟨fun _ _ => Iff.rfl, fun _ _ => Iff.rfl, fun _ => rfl⟩
end
section
variable {P : Program} {w : World} {K : PySem.W.Frag} {mg : Str → Option Value} {base : Heap} {C : CT}
abbrev s_is_triple : Stmt := topS 17
abbrev N_is_triple : List Str := ["table", "value", "kind"]
abbrev P_is_triple : List Str := ["table", "value"]
theorem sc_is_triple : FnScope N_is_triple P_is_triple (defScope s_is_triple) := ⟨rfl, rfl, rfl, by decide +kernel, rfl, by decide +kernel, by decide +kernel⟩
def bk_is_triple_0 : J.Env → Out := (retO (lift1 allD (compO (tupI (rdF 1)) (setG 2) yesB (callF run_is_between [] (argApp (argV (rdF 2) args0) (argV (okC (.int 1)) (argV (methF 0 "count" run_Table_count (rdF 0) args0 []) args0)))) [2])))
def bk_is_triple_1 : J.Env → Out := (seqO (ifO (orB (notB (asB (lift1 (isiD "tuple") (rdF 1)))) (asB (lift2 neW (lift1 lenD (rdF 1)) (okC (.int 3))))) (retO (okC (.bl false))) nilO) bk_is_triple_0)
def run_is_triple : List D → R D := defF 2 [0, 1] 1
    bk_is_triple_1
theorem ok_is_triple {f : Addr} {fd : FuncData} (F : Fun K "is_triple" "is_triple" s_is_triple f fd) (B : Bi mg) (T_Table : ClsT K mg "Table" (C 0)) (A_Table : ∀ f ∈ (["results", "prices"] : List Str), NoAttr K (C 0) f) (c_is_between : CalKU P w K mg base C "is_between" 2 P_is_between ["low", "high"] 3 run_is_between (gapp 1) (gapp 1)) (c_Table_count : MCalU P w K mg base C 0 "count" 1 P_Table_count 0 run_Table_count) : FnU P w K mg base 3 f fd P_is_triple (spP K C 2 run_is_triple) := by
  refine okP F sc_is_triple rfl rfl (by decide) fun cdv A outer s H E hG hr => ?_
  have tk : Takes (cxOf (L2.CX P w) P w K mg base N_is_triple "is_triple" (defScope s_is_triple) f cdv A outer s H E) (fun cls d _ H => E cls d H) := takes_of rfl rfl rfl rfl
  exact (st_seq (s_if (PW.pt (w_or (t_not (t_val (z_isi (by decide) (pe_callB (id := "isinstance") call_isi (by rfl) B.n_isinstance (by decide +kernel) (pa_cons (q_name (pv 1)) (pa_cons (pe_bltn (by rfl) B.n_tuple (by decide +kernel) (v := .ty "tuple") rfl) pa_nil)))))) (w_or1 (t_cmp (op_or (op_neD hr.units) op_neS) (p_or p_neD p_neS) (z_len (pe_callB (id := "len") call_len (by rfl) B.n_len (by decide +kernel) (pa_cons (q_name (pv 1)) pa_nil))) (q_c (.int _) pe_int) (nomark _))))) (st_one (s_ret (q_c (.bl _) pe_bl))) st_nil)
      (st_one (s_ret (z_cb1 p_all (pe_callB (id := "all") (cr_all rfl) (by rfl) B.n_all (by decide +kernel) (pa_cons (z_lc 3 rfl (kp := [0, 1]) (by decide) GL.set (pe_lc (own := [("kind", 2)]) rfl sc_is_triple.nd (y_tup (q_name (pv 1))) (blkOk_by (own := [("kind", 2)]) (N := N_is_triple) (sc := defScope s_is_triple) (by decide +kernel)) (fun _ _ _ _ _ => (g_name (by decide) (pg_name (i := 2) sc_is_triple.nd rfl (Or.inl rfl)))) (fun _ _ _ _ _ => z_pt0) (fun _ _ _ _ _ => (z_callK c_is_between.pu (AL.val AL.nil) (AL.val (AL.val AL.nil)) (by decide) gapp_V (pe_callKU c_is_between.ok hG (hr.mono (by decide)) (by rfl) c_is_between.g c_is_between.kp c_is_between.b takes0 (z_av (pa_cons (q_name (pv 2)) a_nil)) (z_kv (pk_cons (q_c (.int _) pe_int) (z_kv (pk_cons (z_meth0 c_Table_count.pu (pe_methU0 (q_name (pv 0)) T_Table.cl c_Table_count.me c_Table_count.ok hG (hr.mono (by decide)) c_Table_count.b .nil takes0)) k_nil))))))))) pa_nil))))))
theorem ws_is_triple : ∀ (ds : List D) (Q : D → J.Env → Prop) (X : XQ), Wr (run_is_triple ds) Q X ↔ Wo (bk_is_triple_1 (ds.map some ++ List.replicate 1 none)) (defQ 2 [0, 1] Q X) := fun _ _ _ => wz_def
theorem wb_is_triple : (∀ (env : J.Env) (Q : Out → Prop), Wo (bk_is_triple_0 env) Q ↔ Wo ((retO (lift1 allD (compO (tupI (rdF 1)) (setG 2) yesB (callF run_is_between [] (argApp (argV (rdF 2) args0) (argV (okC (.int 1)) (argV (methF 0 "count" run_Table_count (rdF 0) args0 []) args0)))) [2]))) env) Q)
  ∧ (∀ (env : J.Env) (Q : Out → Prop), Wo (bk_is_triple_1 env) Q ↔ Wo ((seqO (ifO (orB (notB (asB (lift1 (isiD "tuple") (rdF 1)))) (asB (lift2 neW (lift1 lenD (rdF 1)) (okC (.int 3))))) (retO (okC (.bl false))) nilO) bk_is_triple_0) env) Q)
  ∧ (∀ e : J.Env, outsOf 2 [0, 1] e = [(e[0]?).join, (e[1]?).join]) := ⟨fun _ _ => Iff.rfl, fun _ _ => Iff.rfl, fun _ => rfl⟩
end
section
variable {P : Program} {w : World} {K : PySem.W.Frag} {mg : Str → Option Value} {base : Heap} {C : CT}
abbrev s_triples : Stmt := topS 14
abbrev N_triples : List Str := ["count", "kinds", "x", "y", "z"]
abbrev P_triples : List Str := ["count"]
theorem sc_triples : FnScope N_triples P_triples (defScope s_triples) := ⟨rfl, rfl, rfl, by decide +kernel, rfl, by decide +kernel, by decide +kernel⟩
def bk_triples_0 : J.Env → Out := (retO (compNO (lstI (rdF 1)) (setG 2) yesB (kNextW (lstI (rdF 1)) (setG 3) yesB (kNextW (lstI (rdF 1)) (setG 4) yesB (kLastW (tupF (argV (rdF 2) (argV (rdF 3) (argV (rdF 4) args0))))) [4]) [3, 4]) [2, 3, 4]))
def bk_triples_1 : J.Env → Out := (seqO (asgO (lrgF2 (okC (.int 1)) (lift2 addD (rdF 0) (okC (.int 1)))) (setG 1)) bk_triples_0)
def run_triples : List D → R D := defF 1 [0] 4
    bk_triples_1
theorem ok_triples {f : Addr} {fd : FuncData} (F : Fun K "triples" "triples" s_triples f fd) (B : Bi mg) (T_Table : ClsT K mg "Table" (C 0)) (A_Table : ∀ f ∈ (["results", "prices"] : List Str), NoAttr K (C 0) f) : FnU P w K mg base 1 f fd P_triples (spP K C 1 run_triples) := by
  refine okP F sc_triples rfl rfl (by decide) fun cdv A outer s H E hG hr => ?_
  have tk : Takes (cxOf (L2.CX P w) P w K mg base N_triples "triples" (defScope s_triples) f cdv A outer s H E) (fun cls d _ H => E cls d H) := takes_of rfl rfl rfl rfl
  exact (st_seq (z_set (by decide) (ps_set (i := 1) sc_triples.nd rfl (Or.inr rfl) (z_lrg2 (pe_listRg rfl (by rfl) B.n_list (prg_2 (by rfl) B.n_range (q_c (.int _) pe_int) (q_add (q_name (pv 0)) (q_c (.int _) pe_int)))))))
      (st_one (s_ret (z_lc3 5 rfl (kp := [0, 1]) (kp1 := [0, 1, 2]) (kp2 := [0, 1, 2, 3]) (by decide) (by decide) (by decide) GL.set GL.set GL.set (pe_lc3 (own := [("x", 2), ("y", 3), ("z", 4)]) (vs1 := [3, 4]) (vs2 := [4]) rfl sc_triples.nd (y_list (q_name (pv 1))) (blkOk_by (own := [("x", 2), ("y", 3), ("z", 4)]) (N := N_triples) (sc := defScope s_triples) (by decide +kernel)) (by decide) (by decide) (fun _ _ _ _ _ => ⟨(g_name (by decide) (pg_name (i := 2) sc_triples.nd rfl (Or.inl rfl))), z_pt0, (y_list (q_name (pv 1))), (g_name (by decide) (pg_name (i := 3) sc_triples.nd rfl (Or.inl rfl))), z_pt0, (y_list (q_name (pv 1))), (g_name (by decide) (pg_name (i := 4) sc_triples.nd rfl (Or.inl rfl))), z_pt0, (z_tup (pe_tup (z_av (pa_cons (q_name (pv 2)) (z_av (pa_cons (q_name (pv 3)) (z_av (pa_cons (q_name (pv 4)) a_nil))))))))⟩))))))
end
section
variable {P : Program} {w : World} {K : PySem.W.Frag} {mg : Str → Option Value} {base : Heap} {C : CT}
abbrev s_firm_modulo : Stmt := topS 23
abbrev N_firm_modulo : List Str := ["table", "modulus", "at", "word", "triple", "one", "other"]
abbrev P_firm_modulo : List Str := ["table", "modulus"]
theorem sc_firm_modulo : FnScope N_firm_modulo P_firm_modulo (defScope s_firm_modulo) := ⟨rfl, rfl, rfl, by decide +kernel, rfl, by decide +kernel, by decide +kernel⟩
def bk_firm_modulo_0 : J.Env → Out := (retO (tupF (argV (rdM 3) (argV (rdM 4) (argV (lift2 ixF (rdF 5) (rdF 2)) (argV (lift2 ixF (rdF 6) (rdF 2)) args0))))))
def bk_firm_modulo_1 : J.Env → Out := (ifO (asB (lift2 neW (lift2 ixF (rdF 5) (rdF 2)) (lift2 ixF (rdF 6) (rdF 2)))) bk_firm_modulo_0 nilO)
def bk_firm_modulo_2 : J.Env → Out := (seqO (asgO (callF run_both_modulo [] (argV (rdF 0) (argV (rdF 4) (argV (rdF 1) args0)))) (tupG 2 (consG (setG 5) (consG (setG 6) nilG)))) bk_firm_modulo_1)
abbrev lb_firm_modulo_0 : J.Env → Out := bk_firm_modulo_2
def bk_firm_modulo_3 : J.Env → Out := (forO (lstI (callF run_triples [] (argV (methF 0 "count" run_Table_count (rdF 0) args0 []) args0))) (setG 4) lb_firm_modulo_0)
abbrev lb_firm_modulo_1 : J.Env → Out := bk_firm_modulo_3
def bk_firm_modulo_4 : J.Env → Out := (retO (tupF (argV (okC (.str "firm")) args0)))
def bk_firm_modulo_5 : J.Env → Out := (seqO (forO (enumI 0 (argV (lstF (argV (okC (.str "result")) (argV (okC (.str "toll")) args0))) args0)) (tupG 2 (consG (setG 2) (consG (setG 3) nilG))) lb_firm_modulo_1) bk_firm_modulo_4)
def bk_firm_modulo_6 : J.Env → Out := (seqO (dropO (callF run_check_modulus [] (argV (rdF 1) args0))) bk_firm_modulo_5)
def run_firm_modulo : List D → R D := defF 2 [0, 1] 5
    bk_firm_modulo_6
theorem ok_firm_modulo {f : Addr} {fd : FuncData} (F : Fun K "firm_modulo" "firm_modulo" s_firm_modulo f fd) (B : Bi mg) (T_Table : ClsT K mg "Table" (C 0)) (A_Table : ∀ f ∈ (["results", "prices"] : List Str), NoAttr K (C 0) f) (c_check_modulus : CalU P w K mg base C "check_modulus" 6 P_check_modulus 1 run_check_modulus) (c_triples : CalU P w K mg base C "triples" 1 P_triples 1 run_triples) (c_Table_count : MCalU P w K mg base C 0 "count" 1 P_Table_count 0 run_Table_count) (c_both_modulo : CalU P w K mg base C "both_modulo" 6 P_both_modulo 3 run_both_modulo) : FnU P w K mg base 7 f fd P_firm_modulo (spP K C 2 run_firm_modulo) := by
  refine okP F sc_firm_modulo rfl rfl (by decide) fun cdv A outer s H E hG hr => ?_
  have tk : Takes (cxOf (L2.CX P w) P w K mg base N_firm_modulo "firm_modulo" (defScope s_firm_modulo) f cdv A outer s H E) (fun cls d _ H => E cls d H) := takes_of rfl rfl rfl rfl
  exact (st_seq (z_drop (ps_expr (z_call c_check_modulus.pu (AL.val AL.nil) (pe_callU c_check_modulus.ok hG (hr.mono (by decide)) (by rfl) c_check_modulus.g c_check_modulus.kp c_check_modulus.b .nil tk (z_av (pa_cons (q_name (pv 1)) a_nil))))))
      (st_seq (z_for (ps_for (passes_of rfl) rfl (z_enum (pi_enum (by rfl) B.n_enumerate (z_av (pa_cons (z_lst (pe_lst (z_av (pa_cons (q_c (.str _) pe_str) (z_av (pa_cons (q_c (.str _) pe_str) a_nil)))))) a_nil)))) (z_gtup (pg_tup rfl (z_gcons (pgs_cons (g_name (by decide) (pg_name (i := 2) sc_firm_modulo.nd rfl (Or.inl rfl))) (z_gcons (pgs_cons (g_name (by decide) (pg_name (i := 3) sc_firm_modulo.nd rfl (Or.inl rfl))) gs_nil)))))) (st_one (z_for (ps_for (passes_of rfl) rfl (y_list (z_call c_triples.pu (AL.val AL.nil) (pe_callU c_triples.ok hG (hr.mono (by decide)) (by rfl) c_triples.g c_triples.kp c_triples.b .nil tk (z_av (pa_cons (z_meth0 c_Table_count.pu (pe_methU0 (q_name (pv 0)) T_Table.cl c_Table_count.me c_Table_count.ok hG (hr.mono (by decide)) c_Table_count.b .nil tk)) a_nil))))) (g_name (by decide) (pg_name (i := 4) sc_firm_modulo.nd rfl (Or.inl rfl))) (st_seq (z_asg (ps_asg (z_call c_both_modulo.pu (AL.val (AL.val (AL.val AL.nil))) (pe_callU c_both_modulo.ok hG (hr.mono (by decide)) (by rfl) c_both_modulo.g c_both_modulo.kp c_both_modulo.b .nil tk (z_av (pa_cons (q_name (pv 0)) (z_av (pa_cons (q_name (pv 4)) (z_av (pa_cons (q_name (pv 1)) a_nil)))))))) (z_gtup (pg_tup rfl (z_gcons (pgs_cons (g_name (by decide) (pg_name (i := 5) sc_firm_modulo.nd rfl (Or.inl rfl))) (z_gcons (pgs_cons (g_name (by decide) (pg_name (i := 6) sc_firm_modulo.nd rfl (Or.inl rfl))) gs_nil))))))))
      (st_one (s_if (t_cmp (op_or (op_neD hr.units) op_neS) (p_or p_neD p_neS) (q_ix (q_name (pv 5)) (q_name (pv 2)) (fun _ _ => rfl)) (q_ix (q_name (pv 6)) (q_name (pv 2)) (fun _ _ => rfl)) (nomark _)) (st_one (s_ret (z_tup (pe_tup (z_av (pa_cons (q_move (pv 3)) (z_av (pa_cons (q_move (pv 4)) (z_av (pa_cons (q_ix (q_name (pv 5)) (q_name (pv 2)) (fun _ _ => rfl)) (z_av (pa_cons (q_ix (q_name (pv 6)) (q_name (pv 2)) (fun _ _ => rfl)) a_nil)))))))))))) st_nil))))))))
      (st_one (s_ret (z_tup (pe_tup (z_av (pa_cons (q_c (.str _) pe_str) a_nil))))))))
theorem ws_firm_modulo : ∀ (ds : List D) (Q : D → J.Env → Prop) (X : XQ), Wr (run_firm_modulo ds) Q X ↔ Wo (bk_firm_modulo_6 (ds.map some ++ List.replicate 5 none)) (defQ 2 [0, 1] Q X) := fun _ _ _ => wz_def
theorem wb_firm_modulo : (∀ (env : J.Env) (Q : Out → Prop), Wo (bk_firm_modulo_0 env) Q ↔ Wo ((retO (tupF (argV (rdM 3) (argV (rdM 4) (argV (lift2 ixF (rdF 5) (rdF 2)) (argV (lift2 ixF (rdF 6) (rdF 2)) args0)))))) env) Q)
  ∧ (∀ (env : J.Env) (Q : Out → Prop), Wo (bk_firm_modulo_1 env) Q ↔ Wo ((ifO (asB (lift2 neW (lift2 ixF (rdF 5) (rdF 2)) (lift2 ixF (rdF 6) (rdF 2)))) bk_firm_modulo_0 nilO) env) Q)
  ∧ (∀ (env : J.Env) (Q : Out → Prop), Wo (bk_firm_modulo_2 env) Q ↔ Wo ((seqO (asgO (callF run_both_modulo [] (argV (rdF 0) (argV (rdF 4) (argV (rdF 1) args0)))) (tupG 2 (consG (setG 5) (consG (setG 6) nilG)))) bk_firm_modulo_1) env) Q)
  ∧ (∀ (env : J.Env) (Q : Out → Prop), Wo (bk_firm_modulo_3 env) Q ↔ Wo ((forO (lstI (callF run_triples [] (argV (methF 0 "count" run_Table_count (rdF 0) args0 []) args0))) (setG 4) lb_firm_modulo_0) env) Q)
  ∧ (∀ (env : J.Env) (Q : Out → Prop), Wo (bk_firm_modulo_4 env) Q ↔ Wo ((retO (tupF (argV (okC (.str "firm")) args0))) env) Q)
  ∧ (∀ (env : J.Env) (Q : Out → Prop), Wo (bk_firm_modulo_5 env) Q ↔ Wo ((seqO (forO (enumI 0 (argV (lstF (argV (okC (.str "result")) (argV (okC (.str "toll")) args0))) args0)) (tupG 2 (consG (setG 2) (consG (setG 3) nilG))) lb_firm_modulo_1) bk_firm_modulo_4) env) Q)
  ∧ (∀ (env : J.Env) (Q : Out → Prop), Wo (bk_firm_modulo_6 env) Q ↔ Wo ((seqO (dropO (callF run_check_modulus [] (argV (rdF 1) args0))) bk_firm_modulo_5) env) Q)
  ∧ (∀ e : J.Env, outsOf 2 [0, 1] e = [(e[0]?).join, (e[1]?).join]) := ⟨fun _ _ => Iff.rfl, fun _ _ => Iff.rfl, fun _ _ => Iff.rfl, fun _ _ => Iff.rfl, fun _ _ => Iff.rfl, fun _ _ => Iff.rfl, fun _ _ => Iff.rfl, fun _ => rfl⟩
end
section
variable {P : Program} {w : World} {K : PySem.W.Frag} {mg : Str → Option Value} {base : Heap} {C : CT}
abbrev s_shows_firm_modulo : Stmt := topS 24
abbrev N_shows_firm_modulo : List Str := ["table", "modulus", "paper", "at", "word", "triple", "left", "right", "one", "other"]
abbrev P_shows_firm_modulo : List Str := ["table", "modulus", "paper"]
theorem sc_shows_firm_modulo : FnScope N_shows_firm_modulo P_shows_firm_modulo (defScope s_shows_firm_modulo) := ⟨rfl, rfl, rfl, by decide +kernel, rfl, by decide +kernel, by decide +kernel⟩
def bk_shows_firm_modulo_0 : J.Env → Out := (retO (ofB (andB (asB (lift2 eqW (rdF 2) (tupF (argV (okC (.str "firm")) args0)))) (asB (lift2 eqW (callF run_firm_modulo [] (argV (rdF 0) (argV (rdF 1) args0))) (rdF 2))))))
def bk_shows_firm_modulo_1 : J.Env → Out := (retO (ofB (andB (asB (lift2 neW (rdF 6) (rdF 7))) (asB (lift2 eqW (tupF (argV (rdF 6) (argV (rdF 7) args0))) (tupF (argV (lift2 ixF (rdF 8) (rdF 3)) (argV (lift2 ixF (rdF 9) (rdF 3)) args0))))))))
def bk_shows_firm_modulo_2 : J.Env → Out := (seqO (asgO (lift1 intD (lift2 eqW (rdF 4) (okC (.str "toll")))) (setG 3)) bk_shows_firm_modulo_1)
def bk_shows_firm_modulo_3 : J.Env → Out := (seqO (ifO (andB (asB (lift2 eqW (rdF 4) (okC (.str "toll")))) (asB (lift2 neW (lift2 ixF (rdF 8) (okC (.int 0))) (lift2 ixF (rdF 9) (okC (.int 0)))))) (retO (okC (.bl false))) nilO) bk_shows_firm_modulo_2)
def bk_shows_firm_modulo_4 : J.Env → Out := (seqO (asgO (callF run_both_modulo [] (argV (rdF 0) (argV (rdF 5) (argV (rdF 1) args0)))) (tupG 2 (consG (setG 8) (consG (setG 9) nilG)))) bk_shows_firm_modulo_3)
def bk_shows_firm_modulo_5 : J.Env → Out := (seqO (ifO (orB (asB (lift2 (inFW true) (rdF 4) (tupF (argV (okC (.str "result")) (argV (okC (.str "toll")) args0))))) (orB (notB (asB (callF run_is_triple [] (argV (rdF 0) (argV (rdF 5) args0))))) (orB (notB (asB (callF run_is_integer [] (argV (rdF 6) args0)))) (notB (asB (callF run_is_integer [] (argV (rdF 7) args0))))))) (retO (okC (.bl false))) nilO) bk_shows_firm_modulo_4)
def bk_shows_firm_modulo_6 : J.Env → Out := (seqO (asgO (rdF 2) (tupG 4 (consG (setG 4) (consG (setG 5) (consG (setG 6) (consG (setG 7) nilG)))))) bk_shows_firm_modulo_5)
def bk_shows_firm_modulo_7 : J.Env → Out := (seqO (ifO (orB (notB (asB (lift1 (isiD "tuple") (rdF 2)))) (asB (lift2 neW (lift1 lenD (rdF 2)) (okC (.int 4))))) bk_shows_firm_modulo_0 nilO) bk_shows_firm_modulo_6)
def bk_shows_firm_modulo_8 : J.Env → Out := (seqO (dropO (callF run_check_modulus [] (argV (rdF 1) args0))) bk_shows_firm_modulo_7)
def run_shows_firm_modulo : List D → R D := defF 3 [0, 1, 2] 7
    bk_shows_firm_modulo_8
theorem ok_shows_firm_modulo {f : Addr} {fd : FuncData} (F : Fun K "shows_firm_modulo" "shows_firm_modulo" s_shows_firm_modulo f fd) (B : Bi mg) (T_Table : ClsT K mg "Table" (C 0)) (A_Table : ∀ f ∈ (["results", "prices"] : List Str), NoAttr K (C 0) f) (c_check_modulus : CalU P w K mg base C "check_modulus" 6 P_check_modulus 1 run_check_modulus) (c_both_modulo : CalU P w K mg base C "both_modulo" 6 P_both_modulo 3 run_both_modulo) (c_is_triple : CalU P w K mg base C "is_triple" 3 P_is_triple 2 run_is_triple) (c_is_integer : CalU P w K mg base C "is_integer" 1 P_is_integer 1 run_is_integer) (c_firm_modulo : CalU P w K mg base C "firm_modulo" 7 P_firm_modulo 2 run_firm_modulo) : FnU P w K mg base 8 f fd P_shows_firm_modulo (spP K C 3 run_shows_firm_modulo) := by
  refine okP F sc_shows_firm_modulo rfl rfl (by decide) fun cdv A outer s H E hG hr => ?_
  have tk : Takes (cxOf (L2.CX P w) P w K mg base N_shows_firm_modulo "shows_firm_modulo" (defScope s_shows_firm_modulo) f cdv A outer s H E) (fun cls d _ H => E cls d H) := takes_of rfl rfl rfl rfl
  exact (st_seq (z_drop (ps_expr (z_call c_check_modulus.pu (AL.val AL.nil) (pe_callU c_check_modulus.ok hG (hr.mono (by decide)) (by rfl) c_check_modulus.g c_check_modulus.kp c_check_modulus.b .nil tk (z_av (pa_cons (q_name (pv 1)) a_nil))))))
      (st_seq (s_if (PW.pt (w_or (t_not (t_val (z_isi (by decide) (pe_callB (id := "isinstance") call_isi (by rfl) B.n_isinstance (by decide +kernel) (pa_cons (q_name (pv 2)) (pa_cons (pe_bltn (by rfl) B.n_tuple (by decide +kernel) (v := .ty "tuple") rfl) pa_nil)))))) (w_or1 (t_cmp (op_or (op_neD hr.units) op_neS) (p_or p_neD p_neS) (z_len (pe_callB (id := "len") call_len (by rfl) B.n_len (by decide +kernel) (pa_cons (q_name (pv 2)) pa_nil))) (q_c (.int _) pe_int) (nomark _))))) (st_one (s_ret (v_and (v_ofB (q_cmp (op_or (op_eqD hr.units) (op_eqX (room65 hr))) (p_or p_eqD p_eqX) (q_name (pv 2)) (z_tup (pe_tup (z_av (pa_cons (q_c (.str _) pe_str) a_nil)))) (nomark _))) (v_one (v_ofB (q_cmp (op_or (op_eqD hr.units) (op_eqX (room65 hr))) (p_or p_eqD p_eqX) (z_call c_firm_modulo.pu (AL.val (AL.val AL.nil)) (pe_callU c_firm_modulo.ok hG (hr.mono (by decide)) (by rfl) c_firm_modulo.g c_firm_modulo.kp c_firm_modulo.b .nil tk (z_av (pa_cons (q_name (pv 0)) (z_av (pa_cons (q_name (pv 1)) a_nil)))))) (q_name (pv 2)) (nomark _))))))) st_nil)
      (st_seq (z_asg (ps_asg (q_name (pv 2)) (z_gtup (pg_tup rfl (z_gcons (pgs_cons (g_name (by decide) (pg_name (i := 4) sc_shows_firm_modulo.nd rfl (Or.inl rfl))) (z_gcons (pgs_cons (g_name (by decide) (pg_name (i := 5) sc_shows_firm_modulo.nd rfl (Or.inl rfl))) (z_gcons (pgs_cons (g_name (by decide) (pg_name (i := 6) sc_shows_firm_modulo.nd rfl (Or.inl rfl))) (z_gcons (pgs_cons (g_name (by decide) (pg_name (i := 7) sc_shows_firm_modulo.nd rfl (Or.inl rfl))) gs_nil))))))))))))
      (st_seq (s_if (PW.pt (w_or (t_cmp (op_or op_notIn_seq (op_notInX (room65 hr))) (p_or p_inF p_inX) (q_name (pv 4)) (z_tup (pe_tup (z_av (pa_cons (q_c (.str _) pe_str) (z_av (pa_cons (q_c (.str _) pe_str) a_nil)))))) rfl) (w_or (t_not (t_val (z_call c_is_triple.pu (AL.val (AL.val AL.nil)) (pe_callU c_is_triple.ok hG (hr.mono (by decide)) (by rfl) c_is_triple.g c_is_triple.kp c_is_triple.b .nil tk (z_av (pa_cons (q_name (pv 0)) (z_av (pa_cons (q_name (pv 5)) a_nil)))))))) (w_or (t_not (t_val (z_call c_is_integer.pu (AL.val AL.nil) (pe_callU c_is_integer.ok hG (hr.mono (by decide)) (by rfl) c_is_integer.g c_is_integer.kp c_is_integer.b .nil tk (z_av (pa_cons (q_name (pv 6)) a_nil)))))) (w_or1 (t_not (t_val (z_call c_is_integer.pu (AL.val AL.nil) (pe_callU c_is_integer.ok hG (hr.mono (by decide)) (by rfl) c_is_integer.g c_is_integer.kp c_is_integer.b .nil tk (z_av (pa_cons (q_name (pv 7)) a_nil))))))))))) (st_one (s_ret (q_c (.bl _) pe_bl))) st_nil)
      (st_seq (z_asg (ps_asg (z_call c_both_modulo.pu (AL.val (AL.val (AL.val AL.nil))) (pe_callU c_both_modulo.ok hG (hr.mono (by decide)) (by rfl) c_both_modulo.g c_both_modulo.kp c_both_modulo.b .nil tk (z_av (pa_cons (q_name (pv 0)) (z_av (pa_cons (q_name (pv 5)) (z_av (pa_cons (q_name (pv 1)) a_nil)))))))) (z_gtup (pg_tup rfl (z_gcons (pgs_cons (g_name (by decide) (pg_name (i := 8) sc_shows_firm_modulo.nd rfl (Or.inl rfl))) (z_gcons (pgs_cons (g_name (by decide) (pg_name (i := 9) sc_shows_firm_modulo.nd rfl (Or.inl rfl))) gs_nil))))))))
      (st_seq (s_if (PW.pt (w_and (t_cmp (op_or (op_eqD hr.units) (op_eqX (room65 hr))) (p_or p_eqD p_eqX) (q_name (pv 4)) (q_c (.str _) pe_str) (nomark _)) (w_and1 (t_cmp (op_or (op_neD hr.units) op_neS) (p_or p_neD p_neS) (q_ix (q_name (pv 8)) (q_c (.int _) pe_int) (fun _ _ => rfl)) (q_ix (q_name (pv 9)) (q_c (.int _) pe_int) (fun _ _ => rfl)) (nomark _))))) (st_one (s_ret (q_c (.bl _) pe_bl))) st_nil)
      (st_seq (z_set (by decide) (ps_set (i := 3) sc_shows_firm_modulo.nd rfl (Or.inl rfl) (z_cb1 p_int (pe_callTy (T := "int") call_int1 (by rfl) B.n_int (by decide +kernel) (pa_cons (q_cmp (op_or (op_eqD hr.units) (op_eqX (room65 hr))) (p_or p_eqD p_eqX) (q_name (pv 4)) (q_c (.str _) pe_str) (nomark _)) pa_nil)))))
      (st_one (s_ret (v_and (v_ofB (q_cmp (op_or (op_neD hr.units) op_neS) (p_or p_neD p_neS) (q_name (pv 6)) (q_name (pv 7)) (nomark _))) (v_one (v_ofB (q_cmp (op_or (op_eqD hr.units) (op_eqX (room65 hr))) (p_or p_eqD p_eqX) (z_tup (pe_tup (z_av (pa_cons (q_name (pv 6)) (z_av (pa_cons (q_name (pv 7)) a_nil)))))) (z_tup (pe_tup (z_av (pa_cons (q_ix (q_name (pv 8)) (q_name (pv 3)) (fun _ _ => rfl)) (z_av (pa_cons (q_ix (q_name (pv 9)) (q_name (pv 3)) (fun _ _ => rfl)) a_nil)))))) (nomark _))))))))))))))
theorem ws_shows_firm_modulo : ∀ (ds : List D) (Q : D → J.Env → Prop) (X : XQ), Wr (run_shows_firm_modulo ds) Q X ↔ Wo (bk_shows_firm_modulo_8 (ds.map some ++ List.replicate 7 none)) (defQ 3 [0, 1, 2] Q X) := fun _ _ _ => wz_def
theorem wb_shows_firm_modulo : (∀ (env : J.Env) (Q : Out → Prop), Wo (bk_shows_firm_modulo_0 env) Q ↔ Wo ((retO (ofB (andB (asB (lift2 eqW (rdF 2) (tupF (argV (okC (.str "firm")) args0)))) (asB (lift2 eqW (callF run_firm_modulo [] (argV (rdF 0) (argV (rdF 1) args0))) (rdF 2)))))) env) Q)
  ∧ (∀ (env : J.Env) (Q : Out → Prop), Wo (bk_shows_firm_modulo_1 env) Q ↔ Wo ((retO (ofB (andB (asB (lift2 neW (rdF 6) (rdF 7))) (asB (lift2 eqW (tupF (argV (rdF 6) (argV (rdF 7) args0))) (tupF (argV (lift2 ixF (rdF 8) (rdF 3)) (argV (lift2 ixF (rdF 9) (rdF 3)) args0)))))))) env) Q)
  ∧ (∀ (env : J.Env) (Q : Out → Prop), Wo (bk_shows_firm_modulo_2 env) Q ↔ Wo ((seqO (asgO (lift1 intD (lift2 eqW (rdF 4) (okC (.str "toll")))) (setG 3)) bk_shows_firm_modulo_1) env) Q)
  ∧ (∀ (env : J.Env) (Q : Out → Prop), Wo (bk_shows_firm_modulo_3 env) Q ↔ Wo ((seqO (ifO (andB (asB (lift2 eqW (rdF 4) (okC (.str "toll")))) (asB (lift2 neW (lift2 ixF (rdF 8) (okC (.int 0))) (lift2 ixF (rdF 9) (okC (.int 0)))))) (retO (okC (.bl false))) nilO) bk_shows_firm_modulo_2) env) Q)
  ∧ (∀ (env : J.Env) (Q : Out → Prop), Wo (bk_shows_firm_modulo_4 env) Q ↔ Wo ((seqO (asgO (callF run_both_modulo [] (argV (rdF 0) (argV (rdF 5) (argV (rdF 1) args0)))) (tupG 2 (consG (setG 8) (consG (setG 9) nilG)))) bk_shows_firm_modulo_3) env) Q)
  ∧ (∀ (env : J.Env) (Q : Out → Prop), Wo (bk_shows_firm_modulo_5 env) Q ↔ Wo ((seqO (ifO (orB (asB (lift2 (inFW true) (rdF 4) (tupF (argV (okC (.str "result")) (argV (okC (.str "toll")) args0))))) (orB (notB (asB (callF run_is_triple [] (argV (rdF 0) (argV (rdF 5) args0))))) (orB (notB (asB (callF run_is_integer [] (argV (rdF 6) args0)))) (notB (asB (callF run_is_integer [] (argV (rdF 7) args0))))))) (retO (okC (.bl false))) nilO) bk_shows_firm_modulo_4) env) Q)
  ∧ (∀ (env : J.Env) (Q : Out → Prop), Wo (bk_shows_firm_modulo_6 env) Q ↔ Wo ((seqO (asgO (rdF 2) (tupG 4 (consG (setG 4) (consG (setG 5) (consG (setG 6) (consG (setG 7) nilG)))))) bk_shows_firm_modulo_5) env) Q)
  ∧ (∀ (env : J.Env) (Q : Out → Prop), Wo (bk_shows_firm_modulo_7 env) Q ↔ Wo ((seqO (ifO (orB (notB (asB (lift1 (isiD "tuple") (rdF 2)))) (asB (lift2 neW (lift1 lenD (rdF 2)) (okC (.int 4))))) bk_shows_firm_modulo_0 nilO) bk_shows_firm_modulo_6) env) Q)
  ∧ (∀ (env : J.Env) (Q : Out → Prop), Wo (bk_shows_firm_modulo_8 env) Q ↔ Wo ((seqO (dropO (callF run_check_modulus [] (argV (rdF 1) args0))) bk_shows_firm_modulo_7) env) Q)
  ∧ (∀ e : J.Env, outsOf 3 [0, 1, 2] e = [(e[0]?).join, (e[1]?).join, (e[2]?).join]) := ⟨fun _ _ => Iff.rfl, fun _ _ => Iff.rfl, fun _ _ => Iff.rfl, fun _ _ => Iff.rfl, fun _ _ => Iff.rfl, fun _ _ => Iff.rfl, fun _ _ => Iff.rfl, fun _ _ => Iff.rfl, fun _ _ => Iff.rfl, fun _ => rfl⟩
end
section
variable {P : Program} {w : World} {K : PySem.W.Frag} {mg : Str → Option Value} {base : Heap} {C : CT}
abbrev s_Ldue : Stmt := topS 38
abbrev N_Ldue : List Str := ["_law_joins_here", "_law_tolls_here", "_law_modulus", "_law_some", "_law_triple", "_law_totals", "_law_results", "_law_cost"]
abbrev P_Ldue : List Str := ["_law_joins_here", "_law_tolls_here", "_law_modulus"]
theorem sc_Ldue : FnScope N_Ldue P_Ldue (defScope s_Ldue) := ⟨rfl, rfl, rfl, by decide +kernel, rfl, by decide +kernel, by decide +kernel⟩
def bk_Ldue_0 : J.Env → Out := (retO (lift2 addD (tupF (argV (okC (.str "result")) (argV (rdF 4) args0))) (rdF 6)))
def bk_Ldue_1 : J.Env → Out := (ifO (asB (lift2 neW (lift2 ixF (rdF 6) (okC (.int 0))) (lift2 ixF (rdF 6) (okC (.int 1))))) bk_Ldue_0 nilO)
def bk_Ldue_2 : J.Env → Out := (seqO (asgO (callF run_Lboth [] (argV (rdF 0) (argV (rdF 1) (argV (rdF 4) args0)))) (tupG 2 (consG (setG 6) (consG (setG 5) nilG)))) bk_Ldue_1)
abbrev lb_Ldue_0 : J.Env → Out := bk_Ldue_2
def bk_Ldue_3 : J.Env → Out := (retO (tupF (argV (okC (.str "toll")) (argV (rdM 4) (argV (lift2 ixF (rdF 5) (okC (.int 0))) (argV (lift2 ixF (rdF 5) (okC (.int 1))) args0))))))
def bk_Ldue_4 : J.Env → Out := (ifO (asB (lift2 neW (lift2 ixF (rdF 5) (okC (.int 0))) (lift2 ixF (rdF 5) (okC (.int 1))))) bk_Ldue_3 nilO)
def bk_Ldue_5 : J.Env → Out := (seqO (asgO (compO (tupI (lift2 ixF (callF run_Lboth [] (argV (rdF 0) (argV (rdF 1) (argV (rdF 4) args0)))) (okC (.int 1)))) (setG 7) yesB (lift2 modD (rdF 7) (rdF 2)) [7]) (setG 5)) bk_Ldue_4)
abbrev lb_Ldue_1 : J.Env → Out := bk_Ldue_5
def bk_Ldue_6 : J.Env → Out := (retO (tupF (argV (okC (.str "firm")) args0)))
def bk_Ldue_7 : J.Env → Out := (seqO (forO (lstI (rdF 3)) (setG 4) lb_Ldue_1) bk_Ldue_6)
def bk_Ldue_8 : J.Env → Out := (seqO (forO (lstI (rdF 3)) (setG 4) lb_Ldue_0) bk_Ldue_7)
def bk_Ldue_9 : J.Env → Out := (seqO (asgO (callF run_Ltriples [] (argV (lift1 lenD (rdF 0)) args0)) (setG 3)) bk_Ldue_8)
def run_Ldue : List D → R D := defF 3 [0, 1, 2] 5
    bk_Ldue_9
theorem ok_Ldue {f : Addr} {fd : FuncData} (F : Fun K "_law_due" "_law_due" s_Ldue f fd) (B : Bi mg) (T_Table : ClsT K mg "Table" (C 0)) (A_Table : ∀ f ∈ (["results", "prices"] : List Str), NoAttr K (C 0) f) (c_Ltriples : CalU P w K mg base C "_law_triples" 1 P_Ltriples 1 run_Ltriples) (c_Lboth : CalU P w K mg base C "_law_both" 1 P_Lboth 3 run_Lboth) : FnU P w K mg base 2 f fd P_Ldue (spP K C 3 run_Ldue) := by
  refine okP F sc_Ldue rfl rfl (by decide) fun cdv A outer s H E hG hr => ?_
  have tk : Takes (cxOf (L2.CX P w) P w K mg base N_Ldue "_law_due" (defScope s_Ldue) f cdv A outer s H E) (fun cls d _ H => E cls d H) := takes_of rfl rfl rfl rfl
  exact (st_seq (z_set (by decide) (ps_set (i := 3) sc_Ldue.nd rfl (Or.inl rfl) (z_call c_Ltriples.pu (AL.val AL.nil) (pe_callU c_Ltriples.ok hG (hr.mono (by decide)) (by rfl) c_Ltriples.g c_Ltriples.kp c_Ltriples.b .nil tk (z_av (pa_cons (z_len (pe_callB (id := "len") call_len (by rfl) B.n_len (by decide +kernel) (pa_cons (q_name (pv 0)) pa_nil))) a_nil))))))
      (st_seq (z_for (ps_for (passes_of rfl) rfl (y_list (q_name (pv 3))) (g_name (by decide) (pg_name (i := 4) sc_Ldue.nd rfl (Or.inl rfl))) (st_seq (z_asg (ps_asg (z_call c_Lboth.pu (AL.val (AL.val (AL.val AL.nil))) (pe_callU c_Lboth.ok hG (hr.mono (by decide)) (by rfl) c_Lboth.g c_Lboth.kp c_Lboth.b .nil tk (z_av (pa_cons (q_name (pv 0)) (z_av (pa_cons (q_name (pv 1)) (z_av (pa_cons (q_name (pv 4)) a_nil)))))))) (z_gtup (pg_tup rfl (z_gcons (pgs_cons (g_name (by decide) (pg_name (i := 6) sc_Ldue.nd rfl (Or.inl rfl))) (z_gcons (pgs_cons (g_name (by decide) (pg_name (i := 5) sc_Ldue.nd rfl (Or.inl rfl))) gs_nil))))))))
      (st_one (s_if (t_cmp (op_or (op_neD hr.units) op_neS) (p_or p_neD p_neS) (q_ix (q_name (pv 6)) (q_c (.int _) pe_int) (fun _ _ => rfl)) (q_ix (q_name (pv 6)) (q_c (.int _) pe_int) (fun _ _ => rfl)) (nomark _)) (st_one (s_ret (q_add (z_tup (pe_tup (z_av (pa_cons (q_c (.str _) pe_str) (z_av (pa_cons (q_name (pv 4)) a_nil)))))) (q_name (pv 6))))) st_nil)))))
      (st_seq (z_for (ps_for (passes_of rfl) rfl (y_list (q_name (pv 3))) (g_name (by decide) (pg_name (i := 4) sc_Ldue.nd rfl (Or.inl rfl))) (st_seq (z_setLc 8 rfl (kp' := [0, 1, 2, 3, 4, 5, 6]) (by decide) (by decide) GL.set (ps_setLc (i := 5) (own := [("_law_cost", 7)]) rfl sc_Ldue.nd rfl rfl (sw_true rfl rfl rfl (by decide +kernel)) (y_tup (q_ix (z_call c_Lboth.pu (AL.val (AL.val (AL.val AL.nil))) (pe_callU c_Lboth.ok hG (hr.mono (by decide)) (by rfl) c_Lboth.g c_Lboth.kp c_Lboth.b .nil tk (z_av (pa_cons (q_name (pv 0)) (z_av (pa_cons (q_name (pv 1)) (z_av (pa_cons (q_name (pv 4)) a_nil)))))))) (q_c (.int _) pe_int) (fun _ _ => rfl))) (blkOk_by (own := [("_law_cost", 7)]) (N := N_Ldue) (sc := defScope s_Ldue) (by decide +kernel)) (fun _ _ _ _ _ => (g_name (by decide) (pg_name (i := 7) sc_Ldue.nd rfl (Or.inl rfl)))) (fun _ _ _ _ _ => z_pt0) (fun _ _ _ _ _ => (q_mod (q_name (pv 7)) (q_name (pv 2))))))
      (st_one (s_if (t_cmp (op_or (op_neD hr.units) op_neS) (p_or p_neD p_neS) (q_ix (q_name (pv 5)) (q_c (.int _) pe_int) (fun _ _ => rfl)) (q_ix (q_name (pv 5)) (q_c (.int _) pe_int) (fun _ _ => rfl)) (nomark _)) (st_one (s_ret (z_tup (pe_tup (z_av (pa_cons (q_c (.str _) pe_str) (z_av (pa_cons (q_move (pv 4)) (z_av (pa_cons (q_ix (q_name (pv 5)) (q_c (.int _) pe_int) (fun _ _ => rfl)) (z_av (pa_cons (q_ix (q_name (pv 5)) (q_c (.int _) pe_int) (fun _ _ => rfl)) a_nil)))))))))))) st_nil)))))
      (st_one (s_ret (z_tup (pe_tup (z_av (pa_cons (q_c (.str _) pe_str) a_nil)))))))))
theorem ws_Ldue : ∀ (ds : List D) (Q : D → J.Env → Prop) (X : XQ), Wr (run_Ldue ds) Q X ↔ Wo (bk_Ldue_9 (ds.map some ++ List.replicate 5 none)) (defQ 3 [0, 1, 2] Q X) := fun _ _ _ => wz_def
theorem wb_Ldue : (∀ (env : J.Env) (Q : Out → Prop), Wo (bk_Ldue_0 env) Q ↔ Wo ((retO (lift2 addD (tupF (argV (okC (.str "result")) (argV (rdF 4) args0))) (rdF 6))) env) Q)
  ∧ (∀ (env : J.Env) (Q : Out → Prop), Wo (bk_Ldue_1 env) Q ↔ Wo ((ifO (asB (lift2 neW (lift2 ixF (rdF 6) (okC (.int 0))) (lift2 ixF (rdF 6) (okC (.int 1))))) bk_Ldue_0 nilO) env) Q)
  ∧ (∀ (env : J.Env) (Q : Out → Prop), Wo (bk_Ldue_2 env) Q ↔ Wo ((seqO (asgO (callF run_Lboth [] (argV (rdF 0) (argV (rdF 1) (argV (rdF 4) args0)))) (tupG 2 (consG (setG 6) (consG (setG 5) nilG)))) bk_Ldue_1) env) Q)
  ∧ (∀ (env : J.Env) (Q : Out → Prop), Wo (bk_Ldue_3 env) Q ↔ Wo ((retO (tupF (argV (okC (.str "toll")) (argV (rdM 4) (argV (lift2 ixF (rdF 5) (okC (.int 0))) (argV (lift2 ixF (rdF 5) (okC (.int 1))) args0)))))) env) Q)
  ∧ (∀ (env : J.Env) (Q : Out → Prop), Wo (bk_Ldue_4 env) Q ↔ Wo ((ifO (asB (lift2 neW (lift2 ixF (rdF 5) (okC (.int 0))) (lift2 ixF (rdF 5) (okC (.int 1))))) bk_Ldue_3 nilO) env) Q)
  ∧ (∀ (env : J.Env) (Q : Out → Prop), Wo (bk_Ldue_5 env) Q ↔ Wo ((seqO (asgO (compO (tupI (lift2 ixF (callF run_Lboth [] (argV (rdF 0) (argV (rdF 1) (argV (rdF 4) args0)))) (okC (.int 1)))) (setG 7) yesB (lift2 modD (rdF 7) (rdF 2)) [7]) (setG 5)) bk_Ldue_4) env) Q)
  ∧ (∀ (env : J.Env) (Q : Out → Prop), Wo (bk_Ldue_6 env) Q ↔ Wo ((retO (tupF (argV (okC (.str "firm")) args0))) env) Q)
  ∧ (∀ (env : J.Env) (Q : Out → Prop), Wo (bk_Ldue_7 env) Q ↔ Wo ((seqO (forO (lstI (rdF 3)) (setG 4) lb_Ldue_1) bk_Ldue_6) env) Q)
  ∧ (∀ (env : J.Env) (Q : Out → Prop), Wo (bk_Ldue_8 env) Q ↔ Wo ((seqO (forO (lstI (rdF 3)) (setG 4) lb_Ldue_0) bk_Ldue_7) env) Q)
  ∧ (∀ (env : J.Env) (Q : Out → Prop), Wo (bk_Ldue_9 env) Q ↔ Wo ((seqO (asgO (callF run_Ltriples [] (argV (lift1 lenD (rdF 0)) args0)) (setG 3)) bk_Ldue_8) env) Q)
  ∧ (∀ e : J.Env, outsOf 3 [0, 1, 2] e = [(e[0]?).join, (e[1]?).join, (e[2]?).join]) := ⟨fun _ _ => Iff.rfl, fun _ _ => Iff.rfl, fun _ _ => Iff.rfl, fun _ _ => Iff.rfl, fun _ _ => Iff.rfl, fun _ _ => Iff.rfl, fun _ _ => Iff.rfl, fun _ _ => Iff.rfl, fun _ _ => Iff.rfl, fun _ _ => Iff.rfl, fun _ => rfl⟩
end
section
variable {P : Program} {w : World} {K : PySem.W.Frag} {mg : Str → Option Value} {base : Heap} {C : CT}
abbrev s_Lis_true : Stmt := topS 39
abbrev N_Lis_true : List Str := ["_law_joins_here", "_law_tolls_here", "_law_modulus", "_law_paper", "_law_due_here", "_law_totals", "_law_cost"]
abbrev P_Lis_true : List Str := ["_law_joins_here", "_law_tolls_here", "_law_modulus", "_law_paper", "_law_due_here"]
theorem sc_Lis_true : FnScope N_Lis_true P_Lis_true (defScope s_Lis_true) := ⟨rfl, rfl, rfl, by decide +kernel, rfl, by decide +kernel, by decide +kernel⟩
def bk_Lis_true_0 : J.Env → Out := (retO (lift2 eqW (rdF 4) (rdF 3)))
def bk_Lis_true_1 : J.Env → Out := (retO (ofB (orB (asB (lift2 eqW (lift2 ixF (rdF 3) (okC (.int 0))) (okC (.str "result")))) (andB (asB (lift2 eqW (lift1 listD (slF (rdF 3) (asI (okC (.int 2))) (okC .non))) (rdF 5))) (asB (lift2 neW (lift2 ixF (rdF 5) (okC (.int 0))) (lift2 ixF (rdF 5) (okC (.int 1)))))))))
def bk_Lis_true_2 : J.Env → Out := (seqO (asgO (compO (tupI (lift2 ixF (callF run_Lboth [] (argV (rdF 0) (argV (rdF 1) (argV (lift2 ixF (rdF 3) (okC (.int 1))) args0)))) (okC (.int 1)))) (setG 6) yesB (lift2 modD (rdF 6) (rdF 2)) [6]) (setG 5)) bk_Lis_true_1)
def bk_Lis_true_3 : J.Env → Out := (seqO (ifO (asB (lift2 eqW (rdF 3) (tupF (argV (okC (.str "firm")) args0)))) bk_Lis_true_0 nilO) bk_Lis_true_2)
def run_Lis_true : List D → R D := defF 5 [0, 1, 2, 3, 4] 2
    bk_Lis_true_3
theorem ok_Lis_true {f : Addr} {fd : FuncData} (F : Fun K "_law_is_true" "_law_is_true" s_Lis_true f fd) (B : Bi mg) (T_Table : ClsT K mg "Table" (C 0)) (A_Table : ∀ f ∈ (["results", "prices"] : List Str), NoAttr K (C 0) f) (c_Lboth : CalU P w K mg base C "_law_both" 1 P_Lboth 3 run_Lboth) : FnU P w K mg base 2 f fd P_Lis_true (spP K C 5 run_Lis_true) := by
  refine okP F sc_Lis_true rfl rfl (by decide) fun cdv A outer s H E hG hr => ?_
  have tk : Takes (cxOf (L2.CX P w) P w K mg base N_Lis_true "_law_is_true" (defScope s_Lis_true) f cdv A outer s H E) (fun cls d _ H => E cls d H) := takes_of rfl rfl rfl rfl
  exact (st_seq (s_if (t_cmp (op_or (op_eqD hr.units) (op_eqX (room65 hr))) (p_or p_eqD p_eqX) (q_name (pv 3)) (z_tup (pe_tup (z_av (pa_cons (q_c (.str _) pe_str) a_nil)))) (nomark _)) (st_one (s_ret (q_cmp (op_or (op_eqD hr.units) (op_eqX (room65 hr))) (p_or p_eqD p_eqX) (q_name (pv 4)) (q_name (pv 3)) (nomark _)))) st_nil)
      (st_seq (z_setLc 7 rfl (kp' := [0, 1, 2, 3, 4, 5]) (by decide) (by decide) GL.set (ps_setLc (i := 5) (own := [("_law_cost", 6)]) rfl sc_Lis_true.nd rfl rfl (sw_true rfl rfl rfl (by decide +kernel)) (y_tup (q_ix (z_call c_Lboth.pu (AL.val (AL.val (AL.val AL.nil))) (pe_callU c_Lboth.ok hG (hr.mono (by decide)) (by rfl) c_Lboth.g c_Lboth.kp c_Lboth.b .nil tk (z_av (pa_cons (q_name (pv 0)) (z_av (pa_cons (q_name (pv 1)) (z_av (pa_cons (q_ix (q_name (pv 3)) (q_c (.int _) pe_int) (fun _ _ => rfl)) a_nil)))))))) (q_c (.int _) pe_int) (fun _ _ => rfl))) (blkOk_by (own := [("_law_cost", 6)]) (N := N_Lis_true) (sc := defScope s_Lis_true) (by decide +kernel)) (fun _ _ _ _ _ => (g_name (by decide) (pg_name (i := 6) sc_Lis_true.nd rfl (Or.inl rfl)))) (fun _ _ _ _ _ => z_pt0) (fun _ _ _ _ _ => (q_mod (q_name (pv 6)) (q_name (pv 2))))))
      (st_one (s_ret (v_or (v_ofB (q_cmp (op_or (op_eqD hr.units) (op_eqX (room65 hr))) (p_or p_eqD p_eqX) (q_ix (q_name (pv 3)) (q_c (.int _) pe_int) (fun _ _ => rfl)) (q_c (.str _) pe_str) (nomark _))) (v_one (v_and (v_ofB (q_cmp (op_or (op_eqD hr.units) (op_eqX (room65 hr))) (p_or p_eqD p_eqX) (z_cb1 p_list (pe_callTy (T := "list") call_list_of (by rfl) B.n_list (by decide +kernel) (pa_cons (q_slice (q_name (pv 3)) (o_some (q_c (.int _) pe_int)) o_none) pa_nil))) (q_name (pv 5)) (nomark _))) (v_one (v_ofB (q_cmp (op_or (op_neD hr.units) op_neS) (p_or p_neD p_neS) (q_ix (q_name (pv 5)) (q_c (.int _) pe_int) (fun _ _ => rfl)) (q_ix (q_name (pv 5)) (q_c (.int _) pe_int) (fun _ _ => rfl)) (nomark _)))))))))))
theorem ws_Lis_true : ∀ (ds : List D) (Q : D → J.Env → Prop) (X : XQ), Wr (run_Lis_true ds) Q X ↔ Wo (bk_Lis_true_3 (ds.map some ++ List.replicate 2 none)) (defQ 5 [0, 1, 2, 3, 4] Q X) := fun _ _ _ => wz_def
theorem wb_Lis_true : (∀ (env : J.Env) (Q : Out → Prop), Wo (bk_Lis_true_0 env) Q ↔ Wo ((retO (lift2 eqW (rdF 4) (rdF 3))) env) Q)
  ∧ (∀ (env : J.Env) (Q : Out → Prop), Wo (bk_Lis_true_1 env) Q ↔ Wo ((retO (ofB (orB (asB (lift2 eqW (lift2 ixF (rdF 3) (okC (.int 0))) (okC (.str "result")))) (andB (asB (lift2 eqW (lift1 listD (slF (rdF 3) (asI (okC (.int 2))) (okC .non))) (rdF 5))) (asB (lift2 neW (lift2 ixF (rdF 5) (okC (.int 0))) (lift2 ixF (rdF 5) (okC (.int 1))))))))) env) Q)
  ∧ (∀ (env : J.Env) (Q : Out → Prop), Wo (bk_Lis_true_2 env) Q ↔ Wo ((seqO (asgO (compO (tupI (lift2 ixF (callF run_Lboth [] (argV (rdF 0) (argV (rdF 1) (argV (lift2 ixF (rdF 3) (okC (.int 1))) args0)))) (okC (.int 1)))) (setG 6) yesB (lift2 modD (rdF 6) (rdF 2)) [6]) (setG 5)) bk_Lis_true_1) env) Q)
  ∧ (∀ (env : J.Env) (Q : Out → Prop), Wo (bk_Lis_true_3 env) Q ↔ Wo ((seqO (ifO (asB (lift2 eqW (rdF 3) (tupF (argV (okC (.str "firm")) args0)))) bk_Lis_true_0 nilO) bk_Lis_true_2) env) Q)
  ∧ (∀ e : J.Env, outsOf 5 [0, 1, 2, 3, 4] e = [(e[0]?).join, (e[1]?).join, (e[2]?).join, (e[3]?).join, (e[4]?).join]) := ⟨fun _ _ => Iff.rfl, fun _ _ => Iff.rfl, fun _ _ => Iff.rfl, fun _ _ => Iff.rfl, fun _ => rfl⟩
end
section
variable {P : Program} {w : World} {K : PySem.W.Frag} {mg : Str → Option Value} {base : Heap} {C : CT}
abbrev s_Lby_turns_right : Stmt := topS 40
abbrev N_Lby_turns_right : List Str := ["_law_well_here", "_law_joins_here", "_law_step", "_law_tolls_here", "_law_tables", "_law_moduli", "_law_dues", "_law_at", "_law_k", "_law_some", "_law_paper", "_law_modulus", "_law_told"]
abbrev P_Lby_turns_right : List Str := ["_law_well_here", "_law_joins_here"]
theorem sc_Lby_turns_right : FnScope N_Lby_turns_right P_Lby_turns_right (defScope s_Lby_turns_right) := ⟨rfl, rfl, rfl, by decide +kernel, rfl, by decide +kernel, by decide +kernel⟩
def bk_Lby_turns_right_0 : J.Env → Out := (ifO (asB (lift2 neW (rdF 12) (callF run_Lis_true [] (argV (rdF 1) (argV (lift2 ixF (rdF 3) (rdF 8)) (argV (lift2 ixF (rdF 5) (rdF 7)) (argV (rdF 10) (argV (lift2 ixF (lift2 ixF (rdF 6) (rdF 8)) (rdF 7)) args0)))))))) (retO (okC (.bl false))) nilO)
def bk_Lby_turns_right_1 : J.Env → Out := (seqO (ifO (notB (asB (lift1 (isiD "bool") (rdF 12)))) (retO (okC (.bl false))) nilO) bk_Lby_turns_right_0)
def bk_Lby_turns_right_2 : J.Env → Out := (seqO (asgO (callF run_shows_firm_modulo [] (argV (lift2 ixF (rdF 4) (rdF 8)) (argV (lift2 ixF (rdF 5) (rdF 7)) (argV (rdF 10) args0)))) (setG 12)) bk_Lby_turns_right_1)
abbrev lb_Lby_turns_right_0 : J.Env → Out := bk_Lby_turns_right_2
def bk_Lby_turns_right_3 : J.Env → Out := (forO (lstI (lift2 ixF (rdF 6) (rdF 8))) (setG 10) lb_Lby_turns_right_0)
def bk_Lby_turns_right_4 : J.Env → Out := (seqO (ifO (asB (lift2 neW (lift1 reprZ (callF run_firm_modulo [] (argV (lift2 ixF (rdF 4) (rdF 8)) (argV (lift2 ixF (rdF 5) (rdF 7)) args0)))) (lift1 reprZ (lift2 ixF (lift2 ixF (rdF 6) (rdF 8)) (rdF 7))))) (retO (okC (.bl false))) nilO) bk_Lby_turns_right_3)
abbrev lb_Lby_turns_right_1 : J.Env → Out := bk_Lby_turns_right_4
def bk_Lby_turns_right_5 : J.Env → Out := (forO (rng1I (argV (okC (.int 2)) args0)) (setG 8) lb_Lby_turns_right_1)
abbrev lb_Lby_turns_right_2 : J.Env → Out := bk_Lby_turns_right_5
def bk_Lby_turns_right_6 : J.Env → Out := (seqO (forO (lstI (lstF (argV (okC (.int 0)) (argV (okC (.int 1)) (argV (okC (.int 2)) (argV (okC (.int 2)) (argV (okC (.int 1)) (argV (okC (.int 0)) args0)))))))) (setG 7) lb_Lby_turns_right_2) (retO (okC (.bl true))))
def bk_Lby_turns_right_7 : J.Env → Out := (seqO (asgO (compO (lstI (rdF 3)) (setG 9) yesB (compO (lstI (rdF 5)) (setG 11) yesB (callF run_Ldue [] (argV (rdF 1) (argV (rdF 9) (argV (rdF 11) args0)))) [11]) [9]) (setG 6)) bk_Lby_turns_right_6)
def bk_Lby_turns_right_8 : J.Env → Out := (seqO (asgO (callF run_Lshuffled [(0, 0)] (argL 0 (argV (lstF (argV (rdF 2) (argV (lift2 mulD (rdF 2) (lift2 addD (okC (.int 2)) (callF run_Ldraw [(0, 0)] (argR 0 (argV (okC (.int 4)) args0))))) (argV (lift2 addD (okC (.int 2)) (callF run_Ldraw [(0, 0)] (argR 0 (argV (okC (.int 40)) args0)))) args0)))) args0))) (setG 5)) bk_Lby_turns_right_7)
def bk_Lby_turns_right_9 : J.Env → Out := (seqO (asgO (compO (lstI (rdF 3)) (setG 9) yesB (callF run_Ltable [] (argV (rdF 1) (argV (rdF 9) args0))) [9]) (setG 4)) bk_Lby_turns_right_8)
def bk_Lby_turns_right_10 : J.Env → Out := (seqO (asgO (compO (rng1I (argV (okC (.int 2)) args0)) (setG 8) yesB (callF run_Ltolls [(0, 0)] (argR 0 (argV (rdF 1) (argV (rdF 2) args0)))) [8]) (setG 3)) bk_Lby_turns_right_9)
def bk_Lby_turns_right_11 : J.Env → Out := (seqO (asgO (lift2 addD (okC (.int 2)) (callF run_Ldraw [(0, 0)] (argR 0 (argV (okC (.int 40)) args0)))) (setG 2)) bk_Lby_turns_right_10)
def run_Lby_turns_right : List D → R D := defF 2 [0, 1] 11
    bk_Lby_turns_right_11
theorem ok_Lby_turns_right {f : Addr} {fd : FuncData} (F : Fun K "_law_by_turns_right" "_law_by_turns_right" s_Lby_turns_right f fd) (B : Bi mg) (T_Table : ClsT K mg "Table" (C 0)) (A_Table : ∀ f ∈ (["results", "prices"] : List Str), NoAttr K (C 0) f) (c_Lshuffled : CalU P w K mg base C "_law_shuffled" 3 P_Lshuffled 2 run_Lshuffled) (c_Ldraw : CalU P w K mg base C "_law_draw" 2 P_Ldraw 2 run_Ldraw) (c_Ltolls : CalU P w K mg base C "_law_tolls" 4 P_Ltolls 3 run_Ltolls) (c_Ltable : CalU P w K mg base C "_law_table" 7 P_Ltable 2 run_Ltable) (c_Ldue : CalU P w K mg base C "_law_due" 2 P_Ldue 3 run_Ldue) (c_shows_firm_modulo : CalU P w K mg base C "shows_firm_modulo" 8 P_shows_firm_modulo 3 run_shows_firm_modulo) (c_firm_modulo : CalU P w K mg base C "firm_modulo" 7 P_firm_modulo 2 run_firm_modulo) (c_Lis_true : CalU P w K mg base C "_law_is_true" 2 P_Lis_true 5 run_Lis_true) : FnU P w K mg base 9 f fd P_Lby_turns_right (spP K C 2 run_Lby_turns_right) := by
  refine okP F sc_Lby_turns_right rfl rfl (by decide) fun cdv A outer s H E hG hr => ?_
  have tk : Takes (cxOf (L2.CX P w) P w K mg base N_Lby_turns_right "_law_by_turns_right" (defScope s_Lby_turns_right) f cdv A outer s H E) (fun cls d _ H => E cls d H) := takes_of rfl rfl rfl rfl
  exact (st_seq (z_set (by decide) (ps_set (i := 2) sc_Lby_turns_right.nd rfl (Or.inr rfl) (q_add (q_c (.int _) pe_int) (z_call c_Ldraw.pu (AL.ref (AL.val AL.nil)) (pe_callU c_Ldraw.ok hG (hr.mono (by decide)) (by rfl) c_Ldraw.g c_Ldraw.kp c_Ldraw.b .nil tk (z_ar (pa_cons (pv 0) (z_av (pa_cons (q_c (.int _) pe_int) a_nil)))))))))
      (st_seq (z_setLc 13 rfl (kp' := [0, 1, 2, 3, 4, 5, 6, 7, 9, 10, 11, 12]) (by decide) (by decide) GL.set (ps_setLc (i := 3) (own := [("_law_k", 8)]) rfl sc_Lby_turns_right.nd rfl rfl (sw_true rfl rfl rfl (by decide +kernel)) (z_rng1 (pi_range1 (by rfl) B.n_range (z_av (pa_cons (q_c (.int _) pe_int) a_nil)))) (blkOk_by (own := [("_law_k", 8)]) (N := N_Lby_turns_right) (sc := defScope s_Lby_turns_right) (by decide +kernel)) (fun _ _ _ _ _ => (g_name (by decide) (pg_name (i := 8) sc_Lby_turns_right.nd rfl (Or.inl rfl)))) (fun _ _ _ _ _ => z_pt0) (fun _ _ _ _ _ => (z_call c_Ltolls.pu (AL.ref (AL.val (AL.val AL.nil))) (pe_callU c_Ltolls.ok hG (hr.mono (by decide)) (by rfl) c_Ltolls.g c_Ltolls.kp c_Ltolls.b .nil takes0 (z_ar (pa_cons (pv 0) (z_av (pa_cons (q_name (pv 1)) (z_av (pa_cons (q_name (pv 2)) a_nil)))))))))))
      (st_seq (z_setLc 13 rfl (kp' := [0, 1, 2, 3, 4, 5, 6, 7, 8, 10, 11, 12]) (by decide) (by decide) GL.set (ps_setLc (i := 4) (own := [("_law_some", 9)]) rfl sc_Lby_turns_right.nd rfl rfl (sw_true rfl rfl rfl (by decide +kernel)) (y_list (q_name (pv 3))) (blkOk_by (own := [("_law_some", 9)]) (N := N_Lby_turns_right) (sc := defScope s_Lby_turns_right) (by decide +kernel)) (fun _ _ _ _ _ => (g_name (by decide) (pg_name (i := 9) sc_Lby_turns_right.nd rfl (Or.inl rfl)))) (fun _ _ _ _ _ => z_pt0) (fun _ _ _ _ _ => (z_call c_Ltable.pu (AL.val (AL.val AL.nil)) (pe_callU c_Ltable.ok hG (hr.mono (by decide)) (by rfl) c_Ltable.g c_Ltable.kp c_Ltable.b .nil takes0 (z_av (pa_cons (q_name (pv 1)) (z_av (pa_cons (q_name (pv 9)) a_nil)))))))))
      (st_seq (z_set (by decide) (ps_set (i := 5) sc_Lby_turns_right.nd rfl (Or.inr rfl) (z_call c_Lshuffled.pu (AL.late (AL.val AL.nil)) (pe_callU c_Lshuffled.ok hG (hr.mono (by decide)) (by rfl) c_Lshuffled.g c_Lshuffled.kp c_Lshuffled.b .nil tk (z_al (pa_cons (pv 0) (z_av (pa_cons (z_lst (pe_lst (z_av (pa_cons (q_name (pv 2)) (z_av (pa_cons (q_mul (q_name (pv 2)) (q_add (q_c (.int _) pe_int) (z_call c_Ldraw.pu (AL.ref (AL.val AL.nil)) (pe_callU c_Ldraw.ok hG (hr.mono (by decide)) (by rfl) c_Ldraw.g c_Ldraw.kp c_Ldraw.b .nil tk (z_ar (pa_cons (pv 0) (z_av (pa_cons (q_c (.int _) pe_int) a_nil)))))))) (z_av (pa_cons (q_add (q_c (.int _) pe_int) (z_call c_Ldraw.pu (AL.ref (AL.val AL.nil)) (pe_callU c_Ldraw.ok hG (hr.mono (by decide)) (by rfl) c_Ldraw.g c_Ldraw.kp c_Ldraw.b .nil tk (z_ar (pa_cons (pv 0) (z_av (pa_cons (q_c (.int _) pe_int) a_nil))))))) a_nil)))))))) a_nil))))))))
      (st_seq (z_setLc 13 rfl (kp' := [0, 1, 2, 3, 4, 5, 6, 7, 8, 10, 11, 12]) (by decide) (by decide) GL.set (ps_setLc (i := 6) (own := [("_law_some", 9)]) rfl sc_Lby_turns_right.nd rfl rfl (sw_true rfl rfl rfl (by decide +kernel)) (y_list (q_name (pv 3))) (blkOk_by (own := [("_law_some", 9)]) (N := N_Lby_turns_right) (sc := defScope s_Lby_turns_right) (by decide +kernel)) (fun _ _ _ _ _ => (g_name (by decide) (pg_name (i := 9) sc_Lby_turns_right.nd rfl (Or.inr rfl)))) (fun _ _ _ _ _ => z_pt0) (fun _ _ _ _ _ => (z_lc 13 rfl (kp := [0, 1, 2, 3, 4, 5, 6, 7, 8, 9, 10, 12]) (by decide) GL.set (pe_lc (own := [("_law_modulus", 11)]) rfl sc_Lby_turns_right.nd (y_list (q_name (pv 5))) (blkOk_by (own := [("_law_modulus", 11)]) (N := N_Lby_turns_right) (sc := _) (by kernel_rfl)) (fun _ _ _ _ _ => (g_name (by decide) (pg_name (i := 11) sc_Lby_turns_right.nd rfl (Or.inl rfl)))) (fun _ _ _ _ _ => z_pt0) (fun _ _ _ _ _ => (z_call c_Ldue.pu (AL.val (AL.val (AL.val AL.nil))) (pe_callU c_Ldue.ok hG (hr.mono (by decide)) (by rfl) c_Ldue.g c_Ldue.kp c_Ldue.b .nil takes0 (z_av (pa_cons (q_name (pv 1)) (z_av (pa_cons (q_name (pv 9)) (z_av (pa_cons (q_name (pv 11)) a_nil))))))))))))))
      (st_seq (z_for (ps_for (passes_of rfl) rfl (y_list (z_lst (pe_lst (z_av (pa_cons (q_c (.int _) pe_int) (z_av (pa_cons (q_c (.int _) pe_int) (z_av (pa_cons (q_c (.int _) pe_int) (z_av (pa_cons (q_c (.int _) pe_int) (z_av (pa_cons (q_c (.int _) pe_int) (z_av (pa_cons (q_c (.int _) pe_int) a_nil))))))))))))))) (g_name (by decide) (pg_name (i := 7) sc_Lby_turns_right.nd rfl (Or.inl rfl))) (st_one (z_for (ps_for (passes_of rfl) rfl (z_rng1 (pi_range1 (by rfl) B.n_range (z_av (pa_cons (q_c (.int _) pe_int) a_nil)))) (g_name (by decide) (pg_name (i := 8) sc_Lby_turns_right.nd rfl (Or.inl rfl))) (st_seq (s_if (t_cmp (op_or (op_neD hr.units) op_neS) (p_or p_neD p_neS) (z_cb1 p_reprZ (pe_callB (id := "repr") (call_reprZ hG hr.units) (by rfl) B.n_repr (by decide +kernel) (pa_cons (z_call c_firm_modulo.pu (AL.val (AL.val AL.nil)) (pe_callU c_firm_modulo.ok hG (hr.mono (by decide)) (by rfl) c_firm_modulo.g c_firm_modulo.kp c_firm_modulo.b .nil tk (z_av (pa_cons (q_ix (q_name (pv 4)) (q_name (pv 8)) (fun _ _ => rfl)) (z_av (pa_cons (q_ix (q_name (pv 5)) (q_name (pv 7)) (fun _ _ => rfl)) a_nil)))))) pa_nil))) (z_cb1 p_reprZ (pe_callB (id := "repr") (call_reprZ hG hr.units) (by rfl) B.n_repr (by decide +kernel) (pa_cons (q_ix (q_ix (q_name (pv 6)) (q_name (pv 8)) (fun _ _ => rfl)) (q_name (pv 7)) (fun _ _ => rfl)) pa_nil))) (nomark _)) (st_one (s_ret (q_c (.bl _) pe_bl))) st_nil)
      (st_one (z_for (ps_for (passes_of rfl) rfl (y_list (q_ix (q_name (pv 6)) (q_name (pv 8)) (fun _ _ => rfl))) (g_name (by decide) (pg_name (i := 10) sc_Lby_turns_right.nd rfl (Or.inl rfl))) (st_seq (z_set (by decide) (ps_set (i := 12) sc_Lby_turns_right.nd rfl (Or.inl rfl) (z_call c_shows_firm_modulo.pu (AL.val (AL.val (AL.val AL.nil))) (pe_callU c_shows_firm_modulo.ok hG (hr.mono (by decide)) (by rfl) c_shows_firm_modulo.g c_shows_firm_modulo.kp c_shows_firm_modulo.b .nil tk (z_av (pa_cons (q_ix (q_name (pv 4)) (q_name (pv 8)) (fun _ _ => rfl)) (z_av (pa_cons (q_ix (q_name (pv 5)) (q_name (pv 7)) (fun _ _ => rfl)) (z_av (pa_cons (q_name (pv 10)) a_nil))))))))))
      (st_seq (s_if (t_not (t_val (z_isi (by decide) (pe_callB (id := "isinstance") call_isi (by rfl) B.n_isinstance (by decide +kernel) (pa_cons (q_name (pv 12)) (pa_cons (pe_bltn (by rfl) B.n_bool (by decide +kernel) (v := .ty "bool") rfl) pa_nil)))))) (st_one (s_ret (q_c (.bl _) pe_bl))) st_nil)
      (st_one (s_if (t_cmp (op_or (op_neD hr.units) op_neS) (p_or p_neD p_neS) (q_name (pv 12)) (z_call c_Lis_true.pu (AL.val (AL.val (AL.val (AL.val (AL.val AL.nil))))) (pe_callU c_Lis_true.ok hG (hr.mono (by decide)) (by rfl) c_Lis_true.g c_Lis_true.kp c_Lis_true.b .nil tk (z_av (pa_cons (q_name (pv 1)) (z_av (pa_cons (q_ix (q_name (pv 3)) (q_name (pv 8)) (fun _ _ => rfl)) (z_av (pa_cons (q_ix (q_name (pv 5)) (q_name (pv 7)) (fun _ _ => rfl)) (z_av (pa_cons (q_name (pv 10)) (z_av (pa_cons (q_ix (q_ix (q_name (pv 6)) (q_name (pv 8)) (fun _ _ => rfl)) (q_name (pv 7)) (fun _ _ => rfl)) a_nil)))))))))))) (nomark _)) (st_one (s_ret (q_c (.bl _) pe_bl))) st_nil)))))))))))))
      (st_one (s_ret (q_c (.bl _) pe_bl)))))))))
theorem ws_Lby_turns_right : ∀ (ds : List D) (Q : D → J.Env → Prop) (X : XQ), Wr (run_Lby_turns_right ds) Q X ↔ Wo (bk_Lby_turns_right_11 (ds.map some ++ List.replicate 11 none)) (defQ 2 [0, 1] Q X) := fun _ _ _ => wz_def
theorem wb_Lby_turns_right : (∀ (env : J.Env) (Q : Out → Prop), Wo (bk_Lby_turns_right_0 env) Q ↔ Wo ((ifO (asB (lift2 neW (rdF 12) (callF run_Lis_true [] (argV (rdF 1) (argV (lift2 ixF (rdF 3) (rdF 8)) (argV (lift2 ixF (rdF 5) (rdF 7)) (argV (rdF 10) (argV (lift2 ixF (lift2 ixF (rdF 6) (rdF 8)) (rdF 7)) args0)))))))) (retO (okC (.bl false))) nilO) env) Q)
  ∧ (∀ (env : J.Env) (Q : Out → Prop), Wo (bk_Lby_turns_right_1 env) Q ↔ Wo ((seqO (ifO (notB (asB (lift1 (isiD "bool") (rdF 12)))) (retO (okC (.bl false))) nilO) bk_Lby_turns_right_0) env) Q)
  ∧ (∀ (env : J.Env) (Q : Out → Prop), Wo (bk_Lby_turns_right_2 env) Q ↔ Wo ((seqO (asgO (callF run_shows_firm_modulo [] (argV (lift2 ixF (rdF 4) (rdF 8)) (argV (lift2 ixF (rdF 5) (rdF 7)) (argV (rdF 10) args0)))) (setG 12)) bk_Lby_turns_right_1) env) Q)
  ∧ (∀ (env : J.Env) (Q : Out → Prop), Wo (bk_Lby_turns_right_3 env) Q ↔ Wo ((forO (lstI (lift2 ixF (rdF 6) (rdF 8))) (setG 10) lb_Lby_turns_right_0) env) Q)
  ∧ (∀ (env : J.Env) (Q : Out → Prop), Wo (bk_Lby_turns_right_4 env) Q ↔ Wo ((seqO (ifO (asB (lift2 neW (lift1 reprZ (callF run_firm_modulo [] (argV (lift2 ixF (rdF 4) (rdF 8)) (argV (lift2 ixF (rdF 5) (rdF 7)) args0)))) (lift1 reprZ (lift2 ixF (lift2 ixF (rdF 6) (rdF 8)) (rdF 7))))) (retO (okC (.bl false))) nilO) bk_Lby_turns_right_3) env) Q)
  ∧ (∀ (env : J.Env) (Q : Out → Prop), Wo (bk_Lby_turns_right_5 env) Q ↔ Wo ((forO (rng1I (argV (okC (.int 2)) args0)) (setG 8) lb_Lby_turns_right_1) env) Q)
  ∧ (∀ (env : J.Env) (Q : Out → Prop), Wo (bk_Lby_turns_right_6 env) Q ↔ Wo ((seqO (forO (lstI (lstF (argV (okC (.int 0)) (argV (okC (.int 1)) (argV (okC (.int 2)) (argV (okC (.int 2)) (argV (okC (.int 1)) (argV (okC (.int 0)) args0)))))))) (setG 7) lb_Lby_turns_right_2) (retO (okC (.bl true)))) env) Q)
  ∧ (∀ (env : J.Env) (Q : Out → Prop), Wo (bk_Lby_turns_right_7 env) Q ↔ Wo ((seqO (asgO (compO (lstI (rdF 3)) (setG 9) yesB (compO (lstI (rdF 5)) (setG 11) yesB (callF run_Ldue [] (argV (rdF 1) (argV (rdF 9) (argV (rdF 11) args0)))) [11]) [9]) (setG 6)) bk_Lby_turns_right_6) env) Q)
  ∧ (∀ (env : J.Env) (Q : Out → Prop), Wo (bk_Lby_turns_right_8 env) Q ↔ Wo ((seqO (asgO (callF run_Lshuffled [(0, 0)] (argL 0 (argV (lstF (argV (rdF 2) (argV (lift2 mulD (rdF 2) (lift2 addD (okC (.int 2)) (callF run_Ldraw [(0, 0)] (argR 0 (argV (okC (.int 4)) args0))))) (argV (lift2 addD (okC (.int 2)) (callF run_Ldraw [(0, 0)] (argR 0 (argV (okC (.int 40)) args0)))) args0)))) args0))) (setG 5)) bk_Lby_turns_right_7) env) Q)
  ∧ (∀ (env : J.Env) (Q : Out → Prop), Wo (bk_Lby_turns_right_9 env) Q ↔ Wo ((seqO (asgO (compO (lstI (rdF 3)) (setG 9) yesB (callF run_Ltable [] (argV (rdF 1) (argV (rdF 9) args0))) [9]) (setG 4)) bk_Lby_turns_right_8) env) Q)
  ∧ (∀ (env : J.Env) (Q : Out → Prop), Wo (bk_Lby_turns_right_10 env) Q ↔ Wo ((seqO (asgO (compO (rng1I (argV (okC (.int 2)) args0)) (setG 8) yesB (callF run_Ltolls [(0, 0)] (argR 0 (argV (rdF 1) (argV (rdF 2) args0)))) [8]) (setG 3)) bk_Lby_turns_right_9) env) Q)
  ∧ (∀ (env : J.Env) (Q : Out → Prop), Wo (bk_Lby_turns_right_11 env) Q ↔ Wo ((seqO (asgO (lift2 addD (okC (.int 2)) (callF run_Ldraw [(0, 0)] (argR 0 (argV (okC (.int 40)) args0)))) (setG 2)) bk_Lby_turns_right_10) env) Q)
  ∧ (∀ e : J.Env, outsOf 2 [0, 1] e = [(e[0]?).join, (e[1]?).join]) := ⟨fun _ _ => Iff.rfl, fun _ _ => Iff.rfl, fun _ _ => Iff.rfl, fun _ _ => Iff.rfl, fun _ _ => Iff.rfl, fun _ _ => Iff.rfl, fun _ _ => Iff.rfl, fun _ _ => Iff.rfl, fun _ _ => Iff.rfl, fun _ _ => Iff.rfl, fun _ _ => Iff.rfl, fun _ _ => Iff.rfl, fun _ => rfl⟩
end
section
variable {P : Program} {w : World} {K : PySem.W.Frag} {mg : Str → Option Value} {base : Heap} {C : CT}
abbrev s_Lrefused : Stmt := topS 41
abbrev N_Lrefused : List Str := ["_law_ask", "e"]
abbrev P_Lrefused : List Str := ["_law_ask"]
theorem sc_Lrefused : FnScope N_Lrefused P_Lrefused (defScope s_Lrefused) := ⟨rfl, rfl, rfl, by decide +kernel, rfl, by decide +kernel, by decide +kernel⟩
def ph_Lrefused : Nat → List Str → List D → J.Env → Out := fun c_ ns_ ds_ => (retO (ifE (asB (isxF 1 [(20, true)] c_)) (lift1 reprZ (xfF 1 "modulus" ns_ ds_)) (okC (.str "other"))))
theorem ok_Lrefused {f : Addr} {fd : FuncData} (F : Fun K "_law_refused" "_law_refused" s_Lrefused f fd) (gF : mg "_law_refused" = some (.ref f)) (bF : L2.Binds K fd P_Lrefused []) (B : Bi mg) (T_Table : ClsT K mg "Table" (C 0)) (A_Table : ∀ f ∈ (["results", "prices"] : List Str), NoAttr K (C 0) f) (ng_BadModulus : mg "BadModulus" = some (.ref (C 20))) (ki_BadModulus : ∀ (k : Nat) (b : Bool), ([(20, true)] : List (Nat × Bool)).lookup k = some b → PySem.W.kitOne K (.ref (C k)) (.ref (C 20)) = some b) (ec_TollError : ∀ (k : Nat), ([(20, true)] : List (Nat × Bool)).lookup k = some true → ExcC K (C k)) (nx_TollError : mg "TollError" = some (.ref (C 10))) (em_TollError : ∀ (k : Nat) (b : Bool), ([(20, true)] : List (Nat × Bool)).lookup k = some b → PySem.W.exmOne K (.ref (C k)) (.ref (C 10)) = some b) (xf_TollError : ∀ (k : Nat), ([(20, true)] : List (Nat × Bool)).lookup k = some true → XfC K (C k) ∧ ∀ f ∈ (["why", "modulus"] : List Str), PySem.W.findIn K (.ref (C k)) f = some none) : CalL P w K mg base C "_law_refused" 1 [(20, true)] (.ref (C 10)) ph_Lrefused := by
  refine ⟨⟨s_Lrefused, f, fd, N_Lrefused, "_law_ask", F, gF, bF, sc_Lrefused, rfl, by first | exact .inl rfl | exact .inr (.inl rfl), by decide, by decide, fun X cdv q eP ew eK eM eB hgd hr0 => ?_⟩, em_TollError⟩
  subst eP ew eK eM eB
  intro f' c' s H Q tl act hc h
  have hG : ((cxOf C8.CX0 X.prog X.w X.K X.mg X.base N_Lrefused "_law_refused" (defScope s_Lrefused) f cdv X.A X.stack s H C8.E0).nox).A.guards = some [] := hgd
  have hr : Room 1 ((cxOf C8.CX0 X.prog X.w X.K X.mg X.base N_Lrefused "_law_refused" (defScope s_Lrefused) f cdv X.A X.stack s H C8.E0).nox).A := hr0.deeper _
  refine ⟨_, pss_cons (ps_try_as (X := (cxOf C8.CX0 X.prog X.w X.K X.mg X.base N_Lrefused "_law_refused" (defScope s_Lrefused) f cdv X.A X.stack s H C8.E0).nox) (x := "TollError") (c := .ref (C 10)) (i := 1) (n := "e") (Wout := W00)
    (tb := fun W D σ H => ∃ Ech : XK, (∀ cls d σ' H', σ'.length = 2 → Ech cls d H' → W cls d σ' H') ∧ σ[0]? = some (some (.ref f')) ∧ H c' = some (LamX.CodeO c' q) ∧ tl Ech H fun _ H' => D.nx σ H')
    (ts := fun a cls d D σ H => ∃ z : ZT, (z.a = a ∧ cls = Value.ref (C z.c) ∧ d = some z.dd ∧ ([(20, true)] : List (Nat × Bool)).lookup z.c = some true) ∧ tS X.K (C.hold z) W0 [] (ph_Lrefused z.c z.ns z.ds) D σ H)
    rfl rfl sc_Lrefused.nd rfl rfl ⟨rfl, by decide, .inl nx_TollError⟩ LamX.takes0 ?b ?s) (pss_one (ps_ret pe_str)), fun cls d H' => ∀ σ : L2.St, σ.length = 2 → wAs X.K (.ref (C 10)) 1 _ W00 _ cls d σ H', fun cls d σ' H' l hE => hE σ' l, rfl, hc, h⟩
  case b =>
    intro W pn xe tk _
    refine ⟨fun pins s' σ H' D I h' => ?_⟩
    obtain ⟨Ech, hW, h1, h2, h3⟩ := h'
    exact (pss_one (ps_expr (act (fun c d σ H => σ.length = 2 → W c d σ H) pn xe Ech _ _ (Takes.len tk) fun cls d σ' H' hE l => hW cls d σ' H' l hE))).run pins s' σ H' D I ⟨h1, h2, h3⟩
  case s =>
    intro a oe cls d pn hz hf
    refine pss_ex fun z hp => ?_
    obtain ⟨ha, hc, hd, hl⟩ := hp
    exact (st_one (s_ret (q_if (t_val (q_isx ha hc hd (ec_TollError _ hl) hz hf (pv 1) (by rfl) B.n_isinstance (by rfl) ng_BadModulus ki_BadModulus)) (z_cb1 p_reprZ (pe_callB (id := "repr") (call_reprZ hG (roomMark hr).units) (by rfl) B.n_repr (by decide +kernel) (pa_cons (q_xf ha hc hd (xf_TollError _ hl).1 ((xf_TollError _ hl).2 "modulus" (by simp)) hz hf (pv 1)) pa_nil))) (q_c (.str _) pe_str))))
end
section
variable {P : Program} {w : World} {K : PySem.W.Frag} {mg : Str → Option Value} {base : Heap} {C : CT}
abbrev s_Lright : Stmt := topS 42
abbrev N_Lright : List Str := ["_law_well_here", "_law_joins_here", "_law_modulus", "_law_tolls_here", "_law_table_here", "_law_due_here", "_law_found", "_law_odd", "_law_said"]
abbrev P_Lright : List Str := ["_law_well_here"]
theorem sc_Lright : FnScope N_Lright P_Lright (defScope s_Lright) := ⟨rfl, rfl, rfl, by decide +kernel, rfl, by decide +kernel, by decide +kernel⟩
def bk_Lright_0 : J.Env → Out := (retO (lift2 eqW (rdF 8) (lift2 mulD (lstF (argV (lift1 reprZ (rdF 7)) args0)) (okC (.int 2)))))
def bk_Lright_1 : J.Env → Out := (seqO (appO 8 (lamF [(20, true)] ph_Lrefused (callF run_shows_firm_modulo [] (argV (rdF 4) (argV (rdF 7) (argV (rdF 6) args0)))))) bk_Lright_0)
def bk_Lright_2 : J.Env → Out := (seqO (asgO (lstF (argV (lamF [(20, true)] ph_Lrefused (callF run_firm_modulo [] (argV (rdF 4) (argV (rdF 7) args0)))) args0)) (setG 8)) bk_Lright_1)
def bk_Lright_3 : J.Env → Out := (seqO (asgO (callF run_Lone [(0, 0)] (argR 0 (argV (lstF (argV (okC (.int 1)) (argV (okC (.int 0)) (argV (lift1 negD (okC (.int 3))) (argV (lift2 addD (lift2 powD (okC (.int 10)) (okC (.int 6))) (okC (.int 1))) (argV (okC (.bl true)) (argV (okC .non) (argV (okC (.str "2")) (argV (tupF (argV (okC (.int 2)) args0)) (argV (lstF (argV (okC (.int 3)) args0)) args0)))))))))) args0))) (setG 7)) bk_Lright_2)
def bk_Lright_4 : J.Env → Out := (seqO (ifO (asB (lift2 isNotTD (callF run_shows_firm_modulo [] (argV (rdF 4) (argV (rdF 2) (argV (rdF 6) args0)))) (okC (.bl true)))) (retO (okC (.bl false))) nilO) bk_Lright_3)
def bk_Lright_5 : J.Env → Out := (seqO (ifO (orB (asB (lift2 neW (lift1 reprZ (rdF 6)) (lift1 reprZ (rdF 5)))) (asB (lift2 neW (lift1 reprZ (callF run_firm_modulo [] (argV (rdF 4) (argV (rdF 2) args0)))) (lift1 reprZ (rdF 5))))) (retO (okC (.bl false))) nilO) bk_Lright_4)
def bk_Lright_6 : J.Env → Out := (seqO (asgO (callF run_firm_modulo [] (argV (rdF 4) (argV (rdF 2) args0))) (setG 6)) bk_Lright_5)
def bk_Lright_7 : J.Env → Out := (seqO (asgO (callF run_Ldue [] (argV (rdF 1) (argV (rdF 3) (argV (rdF 2) args0)))) (setG 5)) bk_Lright_6)
def bk_Lright_8 : J.Env → Out := (seqO (asgO (callF run_Ltable [] (argV (rdF 1) (argV (rdF 3) args0))) (setG 4)) bk_Lright_7)
def bk_Lright_9 : J.Env → Out := (seqO (asgO (callF run_Ltolls [(0, 0)] (argR 0 (argV (rdF 1) (argV (rdF 2) args0)))) (setG 3)) bk_Lright_8)
def bk_Lright_10 : J.Env → Out := (seqO (asgO (callF run_Lone [(0, 0)] (argL 0 (argV (lstF (argV (okC (.int 2)) (argV (okC (.int 3)) (argV (okC (.int 4)) (argV (okC (.int 6)) (argV (okC (.int 10)) (argV (lift2 addD (okC (.int 2)) (callF run_Ldraw [(0, 0)] (argR 0 (argV (okC (.int 40)) args0)))) (argV (lift2 powD (okC (.int 10)) (okC (.int 6))) args0)))))))) args0))) (setG 2)) bk_Lright_9)
def bk_Lright_11 : J.Env → Out := (seqO (asgO (callF run_Ljoins [(0, 0)] (argR 0 (argV (okC (.int 5)) args0))) (setG 1)) bk_Lright_10)
def run_Lright : List D → R D := defF 1 [0] 8
    bk_Lright_11
theorem ok_Lright {f : Addr} {fd : FuncData} (F : Fun K "_law_right" "_law_right" s_Lright f fd) (B : Bi mg) (T_Table : ClsT K mg "Table" (C 0)) (A_Table : ∀ f ∈ (["results", "prices"] : List Str), NoAttr K (C 0) f) (c_Ljoins : CalU P w K mg base C "_law_joins" 4 P_Ljoins 2 run_Ljoins) (c_Lone : CalU P w K mg base C "_law_one" 3 P_Lone 2 run_Lone) (c_Ltolls : CalU P w K mg base C "_law_tolls" 4 P_Ltolls 3 run_Ltolls) (c_Ltable : CalU P w K mg base C "_law_table" 7 P_Ltable 2 run_Ltable) (c_Ldue : CalU P w K mg base C "_law_due" 2 P_Ldue 3 run_Ldue) (c_firm_modulo : CalU P w K mg base C "firm_modulo" 7 P_firm_modulo 2 run_firm_modulo) (c_shows_firm_modulo : CalU P w K mg base C "shows_firm_modulo" 8 P_shows_firm_modulo 3 run_shows_firm_modulo) (c_Lrefused : CalL P w K mg base C "_law_refused" 1 [(20, true)] (.ref (C 10)) ph_Lrefused) (c_Ldraw : CalU P w K mg base C "_law_draw" 2 P_Ldraw 2 run_Ldraw) {cc_ T_ : Addr} (cd_ : fd.code = .ref cc_) (TB_ : LamX.TabB base mg cc_ T_) (hT_ : T_ ∈ C.t) : FnU P w K mg base 11 f fd P_Lright (spP K C 1 run_Lright) := by
  refine okPc F cd_ sc_Lright rfl rfl (by decide) fun A outer s H E hG hr => ?_
  have tk : Takes (cxOf (L2.CX P w) P w K mg base N_Lright "_law_right" (defScope s_Lright) f (.ref cc_) A outer s H E) (fun cls d _ H => E cls d H) := takes_of rfl rfl rfl rfl
  exact (st_seq (z_set (by decide) (ps_set (i := 1) sc_Lright.nd rfl (Or.inl rfl) (z_call c_Ljoins.pu (AL.ref (AL.val AL.nil)) (pe_callU c_Ljoins.ok hG (hr.mono (by decide)) (by rfl) c_Ljoins.g c_Ljoins.kp c_Ljoins.b .nil tk (z_ar (pa_cons (pv 0) (z_av (pa_cons (q_c (.int _) pe_int) a_nil))))))))
      (st_seq (z_set (by decide) (ps_set (i := 2) sc_Lright.nd rfl (Or.inl rfl) (z_call c_Lone.pu (AL.late (AL.val AL.nil)) (pe_callU c_Lone.ok hG (hr.mono (by decide)) (by rfl) c_Lone.g c_Lone.kp c_Lone.b .nil tk (z_al (pa_cons (pv 0) (z_av (pa_cons (z_lst (pe_lst (z_av (pa_cons (q_c (.int _) pe_int) (z_av (pa_cons (q_c (.int _) pe_int) (z_av (pa_cons (q_c (.int _) pe_int) (z_av (pa_cons (q_c (.int _) pe_int) (z_av (pa_cons (q_c (.int _) pe_int) (z_av (pa_cons (q_add (q_c (.int _) pe_int) (z_call c_Ldraw.pu (AL.ref (AL.val AL.nil)) (pe_callU c_Ldraw.ok hG (hr.mono (by decide)) (by rfl) c_Ldraw.g c_Ldraw.kp c_Ldraw.b .nil tk (z_ar (pa_cons (pv 0) (z_av (pa_cons (q_c (.int _) pe_int) a_nil))))))) (z_av (pa_cons (q_pow (q_c (.int _) pe_int) (q_c (.int _) pe_int)) a_nil)))))))))))))))) a_nil))))))))
      (st_seq (z_set (by decide) (ps_set (i := 3) sc_Lright.nd rfl (Or.inl rfl) (z_call c_Ltolls.pu (AL.ref (AL.val (AL.val AL.nil))) (pe_callU c_Ltolls.ok hG (hr.mono (by decide)) (by rfl) c_Ltolls.g c_Ltolls.kp c_Ltolls.b .nil tk (z_ar (pa_cons (pv 0) (z_av (pa_cons (q_name (pv 1)) (z_av (pa_cons (q_name (pv 2)) a_nil))))))))))
      (st_seq (z_set (by decide) (ps_set (i := 4) sc_Lright.nd rfl (Or.inr rfl) (z_call c_Ltable.pu (AL.val (AL.val AL.nil)) (pe_callU c_Ltable.ok hG (hr.mono (by decide)) (by rfl) c_Ltable.g c_Ltable.kp c_Ltable.b .nil tk (z_av (pa_cons (q_name (pv 1)) (z_av (pa_cons (q_name (pv 3)) a_nil))))))))
      (st_seq (z_set (by decide) (ps_set (i := 5) sc_Lright.nd rfl (Or.inl rfl) (z_call c_Ldue.pu (AL.val (AL.val (AL.val AL.nil))) (pe_callU c_Ldue.ok hG (hr.mono (by decide)) (by rfl) c_Ldue.g c_Ldue.kp c_Ldue.b .nil tk (z_av (pa_cons (q_name (pv 1)) (z_av (pa_cons (q_name (pv 3)) (z_av (pa_cons (q_name (pv 2)) a_nil))))))))))
      (st_seq (z_set (by decide) (ps_set (i := 6) sc_Lright.nd rfl (Or.inr rfl) (z_call c_firm_modulo.pu (AL.val (AL.val AL.nil)) (pe_callU c_firm_modulo.ok hG (hr.mono (by decide)) (by rfl) c_firm_modulo.g c_firm_modulo.kp c_firm_modulo.b .nil tk (z_av (pa_cons (q_name (pv 4)) (z_av (pa_cons (q_name (pv 2)) a_nil))))))))
      (st_seq (s_if (PW.pt (w_or (t_cmp (op_or (op_neD hr.units) op_neS) (p_or p_neD p_neS) (z_cb1 p_reprZ (pe_callB (id := "repr") (call_reprZ hG hr.units) (by rfl) B.n_repr (by decide +kernel) (pa_cons (q_name (pv 6)) pa_nil))) (z_cb1 p_reprZ (pe_callB (id := "repr") (call_reprZ hG hr.units) (by rfl) B.n_repr (by decide +kernel) (pa_cons (q_name (pv 5)) pa_nil))) (nomark _)) (w_or1 (t_cmp (op_or (op_neD hr.units) op_neS) (p_or p_neD p_neS) (z_cb1 p_reprZ (pe_callB (id := "repr") (call_reprZ hG hr.units) (by rfl) B.n_repr (by decide +kernel) (pa_cons (z_call c_firm_modulo.pu (AL.val (AL.val AL.nil)) (pe_callU c_firm_modulo.ok hG (hr.mono (by decide)) (by rfl) c_firm_modulo.g c_firm_modulo.kp c_firm_modulo.b .nil tk (z_av (pa_cons (q_name (pv 4)) (z_av (pa_cons (q_name (pv 2)) a_nil)))))) pa_nil))) (z_cb1 p_reprZ (pe_callB (id := "repr") (call_reprZ hG hr.units) (by rfl) B.n_repr (by decide +kernel) (pa_cons (q_name (pv 5)) pa_nil))) (nomark _))))) (st_one (s_ret (q_c (.bl _) pe_bl))) st_nil)
      (st_seq (s_if (t_cmp op_notT p_notT (z_call c_shows_firm_modulo.pu (AL.val (AL.val (AL.val AL.nil))) (pe_callU c_shows_firm_modulo.ok hG (hr.mono (by decide)) (by rfl) c_shows_firm_modulo.g c_shows_firm_modulo.kp c_shows_firm_modulo.b .nil tk (z_av (pa_cons (q_name (pv 4)) (z_av (pa_cons (q_name (pv 2)) (z_av (pa_cons (q_name (pv 6)) a_nil)))))))) (q_c (.bl _) pe_bl) (nomark _)) (st_one (s_ret (q_c (.bl _) pe_bl))) st_nil)
      (st_seq (z_set (by decide) (ps_set (i := 7) sc_Lright.nd rfl (Or.inr rfl) (z_call c_Lone.pu (AL.ref (AL.val AL.nil)) (pe_callU c_Lone.ok hG (hr.mono (by decide)) (by rfl) c_Lone.g c_Lone.kp c_Lone.b .nil tk (z_ar (pa_cons (pv 0) (z_av (pa_cons (z_lst (pe_lst (z_av (pa_cons (q_c (.int _) pe_int) (z_av (pa_cons (q_c (.int _) pe_int) (z_av (pa_cons (q_neg (q_c (.int _) pe_int)) (z_av (pa_cons (q_add (q_pow (q_c (.int _) pe_int) (q_c (.int _) pe_int)) (q_c (.int _) pe_int)) (z_av (pa_cons (q_c (.bl _) pe_bl) (z_av (pa_cons (q_c .non pe_non) (z_av (pa_cons (q_c (.str _) pe_str) (z_av (pa_cons (z_tup (pe_tup (z_av (pa_cons (q_c (.int _) pe_int) a_nil)))) (z_av (pa_cons (z_lst (pe_lst (z_av (pa_cons (q_c (.int _) pe_int) a_nil)))) a_nil)))))))))))))))))))) a_nil))))))))
      (st_seq (z_set (by decide) (ps_set (i := 8) sc_Lright.nd rfl (Or.inl rfl) (z_lst (pe_lst (z_av (pa_cons (z_lam (j := 8) c_Lrefused TB_ hT_ hG (hr.mono (by decide)) (hr.mono (by decide)) (by rfl) rfl (by rfl) (LamX.lamS_by (show LamX.lamSB (defScope s_Lright) _ = true from by decide +kernel)) rfl (fun _ _ _ _ _ => rfl) (by
      intro A outer s H E f_ c_ hG hr
      exact lamb fun tk => (z_call c_firm_modulo.pu (AL.val (AL.val AL.nil)) (pe_callU c_firm_modulo.ok hG (hr.mono (by decide)) (by rfl) c_firm_modulo.g c_firm_modulo.kp c_firm_modulo.b .nil tk (z_av (pa_cons (q_name (pv 4)) (z_av (pa_cons (q_name (pv 7)) a_nil)))))))) a_nil))))))
      (st_seq (z_app (ps_expr (pe_bm PySem.F.plainAttrs_list PySem.F.slot_list_append PySem.F.type_list_append mt_append (pv 8) (pa_cons (z_lam (j := 8) c_Lrefused TB_ hT_ hG (hr.mono (by decide)) (hr.mono (by decide)) (by rfl) rfl (by rfl) (LamX.lamS_by (show LamX.lamSB (defScope s_Lright) _ = true from by decide +kernel)) rfl (fun _ _ _ _ _ => rfl) (by
      intro A outer s H E f_ c_ hG hr
      exact lamb fun tk => (z_call c_shows_firm_modulo.pu (AL.val (AL.val (AL.val AL.nil))) (pe_callU c_shows_firm_modulo.ok hG (hr.mono (by decide)) (by rfl) c_shows_firm_modulo.g c_shows_firm_modulo.kp c_shows_firm_modulo.b .nil tk (z_av (pa_cons (q_name (pv 4)) (z_av (pa_cons (q_name (pv 7)) (z_av (pa_cons (q_name (pv 6)) a_nil)))))))))) pa_nil))))
      (st_one (s_ret (q_cmp (op_or (op_eqD hr.units) (op_eqX (room65 hr))) (p_or p_eqD p_eqX) (q_name (pv 8)) (q_mul (z_lst (pe_lst (z_av (pa_cons (z_cb1 p_reprZ (pe_callB (id := "repr") (call_reprZ hG hr.units) (by rfl) B.n_repr (by decide +kernel) (pa_cons (q_name (pv 7)) pa_nil))) a_nil)))) (q_c (.int _) pe_int)) (nomark _)))))))))))))))
theorem ws_Lright : ∀ (ds : List D) (Q : D → J.Env → Prop) (X : XQ), Wr (run_Lright ds) Q X ↔ Wo (bk_Lright_11 (ds.map some ++ List.replicate 8 none)) (defQ 1 [0] Q X) := fun _ _ _ => wz_def
theorem wb_Lright : (∀ (env : J.Env) (Q : Out → Prop), Wo (bk_Lright_0 env) Q ↔ Wo ((retO (lift2 eqW (rdF 8) (lift2 mulD (lstF (argV (lift1 reprZ (rdF 7)) args0)) (okC (.int 2))))) env) Q)
  ∧ (∀ (env : J.Env) (Q : Out → Prop), Wo (bk_Lright_1 env) Q ↔ Wo ((seqO (appO 8 (lamF [(20, true)] ph_Lrefused (callF run_shows_firm_modulo [] (argV (rdF 4) (argV (rdF 7) (argV (rdF 6) args0)))))) bk_Lright_0) env) Q)
  ∧ (∀ (env : J.Env) (Q : Out → Prop), Wo (bk_Lright_2 env) Q ↔ Wo ((seqO (asgO (lstF (argV (lamF [(20, true)] ph_Lrefused (callF run_firm_modulo [] (argV (rdF 4) (argV (rdF 7) args0)))) args0)) (setG 8)) bk_Lright_1) env) Q)
  ∧ (∀ (env : J.Env) (Q : Out → Prop), Wo (bk_Lright_3 env) Q ↔ Wo ((seqO (asgO (callF run_Lone [(0, 0)] (argR 0 (argV (lstF (argV (okC (.int 1)) (argV (okC (.int 0)) (argV (lift1 negD (okC (.int 3))) (argV (lift2 addD (lift2 powD (okC (.int 10)) (okC (.int 6))) (okC (.int 1))) (argV (okC (.bl true)) (argV (okC .non) (argV (okC (.str "2")) (argV (tupF (argV (okC (.int 2)) args0)) (argV (lstF (argV (okC (.int 3)) args0)) args0)))))))))) args0))) (setG 7)) bk_Lright_2) env) Q)
  ∧ (∀ (env : J.Env) (Q : Out → Prop), Wo (bk_Lright_4 env) Q ↔ Wo ((seqO (ifO (asB (lift2 isNotTD (callF run_shows_firm_modulo [] (argV (rdF 4) (argV (rdF 2) (argV (rdF 6) args0)))) (okC (.bl true)))) (retO (okC (.bl false))) nilO) bk_Lright_3) env) Q)
  ∧ (∀ (env : J.Env) (Q : Out → Prop), Wo (bk_Lright_5 env) Q ↔ Wo ((seqO (ifO (orB (asB (lift2 neW (lift1 reprZ (rdF 6)) (lift1 reprZ (rdF 5)))) (asB (lift2 neW (lift1 reprZ (callF run_firm_modulo [] (argV (rdF 4) (argV (rdF 2) args0)))) (lift1 reprZ (rdF 5))))) (retO (okC (.bl false))) nilO) bk_Lright_4) env) Q)
  ∧ (∀ (env : J.Env) (Q : Out → Prop), Wo (bk_Lright_6 env) Q ↔ Wo ((seqO (asgO (callF run_firm_modulo [] (argV (rdF 4) (argV (rdF 2) args0))) (setG 6)) bk_Lright_5) env) Q)
  ∧ (∀ (env : J.Env) (Q : Out → Prop), Wo (bk_Lright_7 env) Q ↔ Wo ((seqO (asgO (callF run_Ldue [] (argV (rdF 1) (argV (rdF 3) (argV (rdF 2) args0)))) (setG 5)) bk_Lright_6) env) Q)
  ∧ (∀ (env : J.Env) (Q : Out → Prop), Wo (bk_Lright_8 env) Q ↔ Wo ((seqO (asgO (callF run_Ltable [] (argV (rdF 1) (argV (rdF 3) args0))) (setG 4)) bk_Lright_7) env) Q)
  ∧ (∀ (env : J.Env) (Q : Out → Prop), Wo (bk_Lright_9 env) Q ↔ Wo ((seqO (asgO (callF run_Ltolls [(0, 0)] (argR 0 (argV (rdF 1) (argV (rdF 2) args0)))) (setG 3)) bk_Lright_8) env) Q)
  ∧ (∀ (env : J.Env) (Q : Out → Prop), Wo (bk_Lright_10 env) Q ↔ Wo ((seqO (asgO (callF run_Lone [(0, 0)] (argL 0 (argV (lstF (argV (okC (.int 2)) (argV (okC (.int 3)) (argV (okC (.int 4)) (argV (okC (.int 6)) (argV (okC (.int 10)) (argV (lift2 addD (okC (.int 2)) (callF run_Ldraw [(0, 0)] (argR 0 (argV (okC (.int 40)) args0)))) (argV (lift2 powD (okC (.int 10)) (okC (.int 6))) args0)))))))) args0))) (setG 2)) bk_Lright_9) env) Q)
  ∧ (∀ (env : J.Env) (Q : Out → Prop), Wo (bk_Lright_11 env) Q ↔ Wo ((seqO (asgO (callF run_Ljoins [(0, 0)] (argR 0 (argV (okC (.int 5)) args0))) (setG 1)) bk_Lright_10) env) Q)
  ∧ (∀ e : J.Env, outsOf 1 [0] e = [(e[0]?).join]) := ⟨fun _ _ => Iff.rfl, fun _ _ => Iff.rfl, fun _ _ => Iff.rfl, fun _ _ => Iff.rfl, fun _ _ => Iff.rfl, fun _ _ => Iff.rfl, fun _ _ => Iff.rfl, fun _ _ => Iff.rfl, fun _ _ => Iff.rfl, fun _ _ => Iff.rfl, fun _ _ => Iff.rfl, fun _ _ => Iff.rfl, fun _ => rfl⟩
end
section
variable {P : Program} {w : World} {K : PySem.W.Frag} {mg : Str → Option Value} {base : Heap} {C : CT}
abbrev s_Lwell : Stmt := topS 27
abbrev N_Lwell : List Str := ["_law_cell"]
abbrev P_Lwell : List Str := ["_law_cell"]
theorem sc_Lwell : FnScope N_Lwell P_Lwell (defScope s_Lwell) := ⟨rfl, rfl, rfl, by decide +kernel, rfl, by decide +kernel, by decide +kernel⟩
def bk_Lwell_0 : J.Env → Out := (retO (lstF (argV (rdF 0) (argV (rdF 0) (argV (okC (.int 0)) args0)))))
def run_Lwell : List D → R D := defF 1 [0] 0
    bk_Lwell_0
theorem ok_Lwell {f : Addr} {fd : FuncData} (F : Fun K "_law_well" "_law_well" s_Lwell f fd) (B : Bi mg) (T_Table : ClsT K mg "Table" (C 0)) (A_Table : ∀ f ∈ (["results", "prices"] : List Str), NoAttr K (C 0) f) : FnU P w K mg base 1 f fd P_Lwell (spP K C 1 run_Lwell) := by
  refine okP F sc_Lwell rfl rfl (by decide) fun cdv A outer s H E hG hr => ?_
  have tk : Takes (cxOf (L2.CX P w) P w K mg base N_Lwell "_law_well" (defScope s_Lwell) f cdv A outer s H E) (fun cls d _ H => E cls d H) := takes_of rfl rfl rfl rfl
  exact (st_one (s_ret (z_lst (pe_lst (z_av (pa_cons (q_name (pv 0)) (z_av (pa_cons (q_name (pv 0)) (z_av (pa_cons (q_c (.int _) pe_int) a_nil))))))))))
end
section
variable {P : Program} {w : World} {K : PySem.W.Frag} {mg : Str → Option Value} {base : Heap} {C : CT}
abbrev s_law : Stmt := topS 43
abbrev N_law : List Str := ["_law_script", "_law_at", "_law_cell", "_law_well_here"]
abbrev P_law : List Str := ["_law_script"]
theorem sc_law : FnScope N_law P_law (defScope s_law) := ⟨rfl, rfl, rfl, by decide +kernel, rfl, by decide +kernel, by decide +kernel⟩
def bk_law_0 : J.Env → Out := (ifO (orB (notB (asB (callF run_Lright [(0, 3)] (argR 3 args0)))) (andB (asB (lift2 eqW (rdF 1) (okC (.int 0)))) (notB (asB (callF run_Lby_turns_right [(0, 3)] (argL 3 (argV (callF run_Ljoins [(0, 3)] (argR 3 (argV (okC (.int 5)) args0))) args0))))))) (retO (okC (.bl false))) nilO)
def bk_law_1 : J.Env → Out := (seqO (asgO (callF run_Lwell [] (argV (rdF 2) args0)) (setG 3)) bk_law_0)
abbrev lb_law_0 : J.Env → Out := bk_law_1
def bk_law_2 : J.Env → Out := (seqO (forO (enumI 0 (argV (lift2 addD (slF (rdF 0) (okC .non) (asI (okC (.int 4)))) (lstF (argV (okC (.int 0)) args0))) args0)) (tupG 2 (consG (setG 1) (consG (setG 2) nilG))) lb_law_0) (retO (okC (.bl true))))
def run_law : List D → R D := defF 1 [0] 3
    bk_law_2
theorem ok_law {f : Addr} {fd : FuncData} (F : Fun K "law" "law" s_law f fd) (B : Bi mg) (T_Table : ClsT K mg "Table" (C 0)) (A_Table : ∀ f ∈ (["results", "prices"] : List Str), NoAttr K (C 0) f) (c_Lwell : CalU P w K mg base C "_law_well" 1 P_Lwell 1 run_Lwell) (c_Lright : CalU P w K mg base C "_law_right" 11 P_Lright 1 run_Lright) (c_Lby_turns_right : CalU P w K mg base C "_law_by_turns_right" 9 P_Lby_turns_right 2 run_Lby_turns_right) (c_Ljoins : CalU P w K mg base C "_law_joins" 4 P_Ljoins 2 run_Ljoins) : FnU P w K mg base 12 f fd P_law (spP K C 1 run_law) := by
  refine okP F sc_law rfl rfl (by decide) fun cdv A outer s H E hG hr => ?_
  have tk : Takes (cxOf (L2.CX P w) P w K mg base N_law "law" (defScope s_law) f cdv A outer s H E) (fun cls d _ H => E cls d H) := takes_of rfl rfl rfl rfl
  exact (st_seq (z_for (ps_for (passes_of rfl) rfl (z_enum (pi_enum (by rfl) B.n_enumerate (z_av (pa_cons (q_add (q_slice (q_name (pv 0)) o_none (o_some (q_c (.int _) pe_int))) (z_lst (pe_lst (z_av (pa_cons (q_c (.int _) pe_int) a_nil))))) a_nil)))) (z_gtup (pg_tup rfl (z_gcons (pgs_cons (g_name (by decide) (pg_name (i := 1) sc_law.nd rfl (Or.inl rfl))) (z_gcons (pgs_cons (g_name (by decide) (pg_name (i := 2) sc_law.nd rfl (Or.inl rfl))) gs_nil)))))) (st_seq (z_set (by decide) (ps_set (i := 3) sc_law.nd rfl (Or.inl rfl) (z_call c_Lwell.pu (AL.val AL.nil) (pe_callU c_Lwell.ok hG (hr.mono (by decide)) (by rfl) c_Lwell.g c_Lwell.kp c_Lwell.b .nil tk (z_av (pa_cons (q_name (pv 2)) a_nil))))))
      (st_one (s_if (PW.pt (w_or (t_not (t_val (z_call c_Lright.pu (AL.ref AL.nil) (pe_callU c_Lright.ok hG (hr.mono (by decide)) (by rfl) c_Lright.g c_Lright.kp c_Lright.b .nil tk (z_ar (pa_cons (pv 3) a_nil)))))) (w_or1 (PW.pt (w_and (t_cmp (op_or (op_eqD hr.units) (op_eqX (room65 hr))) (p_or p_eqD p_eqX) (q_name (pv 1)) (q_c (.int _) pe_int) (nomark _)) (w_and1 (t_not (t_val (z_call c_Lby_turns_right.pu (AL.late (AL.val AL.nil)) (pe_callU c_Lby_turns_right.ok hG (hr.mono (by decide)) (by rfl) c_Lby_turns_right.g c_Lby_turns_right.kp c_Lby_turns_right.b .nil tk (z_al (pa_cons (pv 3) (z_av (pa_cons (z_call c_Ljoins.pu (AL.ref (AL.val AL.nil)) (pe_callU c_Ljoins.ok hG (hr.mono (by decide)) (by rfl) c_Ljoins.g c_Ljoins.kp c_Ljoins.b .nil tk (z_ar (pa_cons (pv 3) (z_av (pa_cons (q_c (.int _) pe_int) a_nil)))))) a_nil)))))))))))))) (st_one (s_ret (q_c (.bl _) pe_bl))) st_nil)))))
      (st_one (s_ret (q_c (.bl _) pe_bl))))
theorem ws_law : ∀ (ds : List D) (Q : D → J.Env → Prop) (X : XQ), Wr (run_law ds) Q X ↔ Wo (bk_law_2 (ds.map some ++ List.replicate 3 none)) (defQ 1 [0] Q X) := fun _ _ _ => wz_def
theorem wb_law : (∀ (env : J.Env) (Q : Out → Prop), Wo (bk_law_0 env) Q ↔ Wo ((ifO (orB (notB (asB (callF run_Lright [(0, 3)] (argR 3 args0)))) (andB (asB (lift2 eqW (rdF 1) (okC (.int 0)))) (notB (asB (callF run_Lby_turns_right [(0, 3)] (argL 3 (argV (callF run_Ljoins [(0, 3)] (argR 3 (argV (okC (.int 5)) args0))) args0))))))) (retO (okC (.bl false))) nilO) env) Q)
  ∧ (∀ (env : J.Env) (Q : Out → Prop), Wo (bk_law_1 env) Q ↔ Wo ((seqO (asgO (callF run_Lwell [] (argV (rdF 2) args0)) (setG 3)) bk_law_0) env) Q)
  ∧ (∀ (env : J.Env) (Q : Out → Prop), Wo (bk_law_2 env) Q ↔ Wo ((seqO (forO (enumI 0 (argV (lift2 addD (slF (rdF 0) (okC .non) (asI (okC (.int 4)))) (lstF (argV (okC (.int 0)) args0))) args0)) (tupG 2 (consG (setG 1) (consG (setG 2) nilG))) lb_law_0) (retO (okC (.bl true)))) env) Q)
  ∧ (∀ e : J.Env, outsOf 1 [0] e = [(e[0]?).join]) := ⟨fun _ _ => Iff.rfl, fun _ _ => Iff.rfl, fun _ _ => Iff.rfl, fun _ => rfl⟩
end
/-! pure words: laws that all families use -/
theorem forL_inv {g : D → J.Env → Option J.Env} {b : J.Env → Out} (I : Nat → J.Env → Prop) : ∀ (ds : List D) (n : Nat) (e : J.Env), I n e → (∀ (i : Nat) (d : D) (e : J.Env), ds[i]? = some d → I (n + i) e → ∃ e1 e2, g d e = some e1 ∧ b e1 = .nx e2 ∧ I (n + i + 1) e2) → ∃ e', forL g b ds e = .nx e' ∧ I (n + ds.length) e'
  | [], n, e, h0, _ => ⟨e, rfl, h0⟩
  | d :: ds, n, e, h0, hs => by
    obtain ⟨e1, e2, h1, h2, h3⟩ := hs 0 d e rfl h0
    obtain ⟨e', h4, h5⟩ := forL_inv I ds (n + 1) e2 h3 fun i d e hi hI => by
      have := hs (i + 1) d e (by simpa using hi) (by rw [show n + (i + 1) = n + 1 + i by omega]; exact hI)
      rw [show n + (i + 1) + 1 = n + 1 + i + 1 by omega] at this
      exact this
    refine ⟨e', by simp only [forL, h1, h2]; exact h4, ?_⟩
    rw [List.length_cons, show n + (ds.length + 1) = n + 1 + ds.length by omega]
    exact h5
theorem forL_inv0 {g : D → J.Env → Option J.Env} {b : J.Env → Out} (I : Nat → J.Env → Prop) {ds : List D} {e : J.Env} (h0 : I 0 e) (hs : ∀ (i : Nat) (d : D) (e : J.Env), ds[i]? = some d → I i e → ∃ e1 e2, g d e = some e1 ∧ b e1 = .nx e2 ∧ I (i + 1) e2) : ∃ e', forL g b ds e = .nx e' ∧ I ds.length e' := by
  obtain ⟨e', h1, h2⟩ := forL_inv I ds 0 e h0 fun i d e hi hI => by
    rw [Nat.zero_add] at hI ⊢
    exact hs i d e hi hI
  rw [Nat.zero_add] at h2
  exact ⟨e', h1, h2⟩
@[simp] theorem fzL_ints (ns : List Int) : D.fzL (ns.map D.int) = ns.map D.int := by
  induction ns with
  | nil => rfl
  | cons a b ih => simp only [List.map_cons, D.fzL, D.fz, ih]
@[simp] theorem noOwnL_ints (ns : List Int) : D.noOwnL (ns.map D.int) = true := by
  induction ns with
  | nil => rfl
  | cons a b ih => simp only [List.map_cons, D.noOwnL, D.noOwn, ih]; rfl
/-! steps, one by one (in place rewriting of a loop's match is too much for the kernel) -/
theorem seqO_nx {f g : J.Env → Out} {env e1 : J.Env} {o : Out} (h : f env = .nx e1) (h2 : g e1 = o) : seqO f g env = o := by
  unfold seqO
  rw [h]
  exact h2
theorem forO_ok {g : D → J.Env → Option J.Env} {b : J.Env → Out} {it : J.Env → R (List D)} {env e : J.Env} {ds : List D} {o : Out} (h : it env = .ok ds e) (h2 : forL g b ds e = o) : forO it g b env = o := by
  unfold forO
  rw [h]
  exact h2
theorem compO_ok {g : D → J.Env → Option J.Env} {c : J.Env → R Bool} {f : J.Env → R D} {vs : List Nat} {it : J.Env → R (List D)} {env e e1 : J.Env} {ds : List D} {o : R D} (h : it env = .ok ds e) (hl : ds.length ≤ 1000000) (hw : wipeE e vs = e1) (h2 : compL g c f vs [] ds e1 = o) : compO it g c f vs env = o := by
  unfold compO
  rw [h]
  subst hw
  exact (if_pos hl).trans h2
theorem defF_rt {n : Nat} {kp : List Nat} {l : Nat} {body : J.Env → Out} {ds : List D} {r : D} {e outs : J.Env} (h : body (ds.map some ++ List.replicate l none) = .rt r e) (ho : outsOf n kp e = outs) : defF n kp l body ds = .ok r outs := by
  unfold defF
  rw [h, ← ho]
theorem retO_rt {f : J.Env → R D} {env e : J.Env} {d : D} (h : f env = .ok d e) : retO f env = .rt d e := by
  unfold retO
  rw [h]
theorem lift2_ok {g : D → D → Option D} {f f2 : J.Env → R D} {env e1 e2 : J.Env} {d d2 x : D} (h : f env = .ok d e1) (h2 : f2 e1 = .ok d2 e2) (hg : g d d2 = some x) : lift2 g f f2 env = .ok x e2 := by
  unfold lift2
  simp only [h, R.bind, h2, hg]
theorem callF_ok {run : List D → R D} {lk : List (Nat × Nat)} {af : J.Env → R (List D)} {env e outs e' : J.Env} {ds : List D} {r : D} (h : af env = .ok ds e) (h2 : run ds = .ok r outs) (h3 : relink lk outs e = e') : callF run lk af env = .ok r e' := by
  unfold callF
  simp only [h, R.bind, h2, h3]
theorem ifO_f {c : J.Env → R Bool} {f g : J.Env → Out} {env e : J.Env} {o : Out} (h : c env = .ok false e) (h2 : g e = o) : ifO c f g env = o := by
  unfold ifO
  rw [h]
  exact h2
/-- grids -/
abbrev rowD_ (o : Bool) (r : List Int) : D := .lst o (r.map D.int)
abbrev gridD (o o2 : Bool) (g : List (List Int)) : D := .lst o (g.map fun r => rowD_ o2 r)
theorem fzL_rows (o2 : Bool) (g : List (List Int)) : D.fzL (g.map fun r => rowD_ o2 r) = g.map fun r => rowD_ false r := by
  induction g with
  | nil => rfl
  | cons a b ih => simp only [List.map_cons, D.fzL, D.fz, fzL_ints, ih]
theorem noOwnL_rows (g : List (List Int)) : D.noOwnL (g.map fun r => rowD_ false r) = true := by
  induction g with
  | nil => rfl
  | cons a b ih => simp only [List.map_cons, D.noOwnL, D.noOwn, noOwnL_ints, ih]; rfl
@[simp] theorem fz_grid (o o2 : Bool) (g : List (List Int)) : (gridD o o2 g).fz = gridD false false g := by simp only [D.fz, fzL_rows]
@[simp] theorem noOwn_grid (g : List (List Int)) : (gridD false false g).noOwn = true := by simp only [D.noOwn, noOwnL_rows]; rfl
@[simp] theorem fz_fz (d : D) : d.fz.fz = d.fz := Rel.dup.fz_fz d
@[simp] theorem noOwn_fz (d : D) : d.fz.noOwn = true := Rel.dup.noOwn_fz d
@[simp] theorem fzL_fzL (ds : List D) : D.fzL (D.fzL ds) = D.fzL ds := Rel.dup.fzL_fzL ds
@[simp] theorem noOwnL_fzL (ds : List D) : D.noOwnL (D.fzL ds) = true := Rel.dup.noOwnL_fzL ds
theorem neD_int (i j : Int) : neD (.int i) (.int j) = some (.bl (!(i == j))) := by
  simp [neD, shp, D.okP, D.toP, SeqAt.shaped, PyData.canLay0, PyData.depth, PyData.eqv]
theorem atI_in {α : Type} {xs : List α} {i : Int} (h0 : 0 ≤ i) (h1 : i < xs.length) : ∃ x, L2.atI xs i = some x ∧ xs[i.toNat]? = some x := by
  refine ⟨xs[i.toNat]'(by omega), ?_, List.getElem?_eq_getElem _⟩
  unfold L2.atI ixN
  rw [if_pos h0, if_pos h1]
  exact List.getElem?_eq_getElem _
theorem atI_map_ {α β : Type} (f : α → β) (xs : List α) (i : Int) : L2.atI (xs.map f) i = (L2.atI xs i).map f := by
  unfold L2.atI
  rw [List.length_map]
  cases ixN xs.length i with
  | none => rfl
  | some j => simp
/-! family C: the well -/
abbrev welO (a b c : Int) : D := .lst true [.int a, .int b, .int c]
structure Wel (d : D) (c0 : Int) : Prop where
  ex : ∃ a b c, d = welO a b c ∧ 0 ≤ c ∧ c ≤ c0
theorem Wel.mono {d : D} {c0 c1 : Int} (h : Wel d c0) (l : c0 ≤ c1) : Wel d c1 := by
  obtain ⟨a, b, c, h1, h2, h3⟩ := h.ex
  exact ⟨a, b, c, h1, h2, by omega⟩
theorem mulOk_l {i j : Int} (h0 : -18446744073709551616 < i) (h1 : i < 18446744073709551616) : mulOk i j = true := by
  simp only [mulOk, Bool.or_eq_true, Bool.and_eq_true, decide_eq_true_eq]
  exact .inl ⟨h0, h1⟩
theorem log2_small {n : Int} (h0 : 0 < n) (h1 : n < 18446744073709551616) : n.natAbs.log2 < 9000 := by
  have : n.natAbs.log2 < 64 := (Nat.log2_lt (by omega)).mpr (by omega)
  omega
theorem mixed_ {b k : Int} (h0 : 0 ≤ k) (h1 : k < 1000000000) : ∃ r, 0 ≤ r ∧ run_Lmixed [.int b, .int k] = .ok (.int r) [some (.int b), some (.int k)] := by
  have b0 : 0 ≤ b % 2147483587 ∧ b % 2147483587 < 2147483587 := ⟨Int.emod_nonneg _ (by decide), Int.emod_lt_of_pos _ (by decide)⟩
  have p1 : (b % 2147483587 + 6151 * k + 3).natAbs < 18446744073709551616 := by omega
  have m1 : mulOk 6151 k = true := mulOk_l (by decide) (by decide)
  generalize e1 : (b % 2147483587 + 6151 * k + 3) ^ 3 % 2147483647 = x
  have x0 : 0 ≤ x ∧ x < 2147483647 := by rw [← e1]; exact ⟨Int.emod_nonneg _ (by decide), Int.emod_lt_of_pos _ (by decide)⟩
  generalize e2 : b / 2147483587 % 60013 = z
  have z0 : 0 ≤ z ∧ z < 60013 := by rw [← e2]; exact ⟨Int.emod_nonneg _ (by decide), Int.emod_lt_of_pos _ (by decide)⟩
  have m2 : ∀ j, mulOk z j = true := fun j => mulOk_l (by omega) (by omega)
  generalize e3 : (x + z * (k + 17)) % 2147483629 = y
  have y0 : 0 ≤ y ∧ y < 2147483629 := by rw [← e3]; exact ⟨Int.emod_nonneg _ (by decide), Int.emod_lt_of_pos _ (by decide)⟩
  have m3 : ∀ j, mulOk y j = true := fun j => mulOk_l (by omega) (by omega)
  generalize e4 : y * (y / 1013 + 48271 + k) % 2147483563 = u
  have u0 : 0 ≤ u ∧ u < 2147483563 := by rw [← e4]; exact ⟨Int.emod_nonneg _ (by decide), Int.emod_lt_of_pos _ (by decide)⟩
  have m4 : ∀ j, mulOk u j = true := fun j => mulOk_l (by omega) (by omega)
  have l1 : Nat.log2 1013 < 9000 := by decide
  have l2 : Nat.log2 1999 < 9000 := by decide
  have l3 : Nat.log2 2147483587 < 9000 := by decide +kernel
  refine ⟨u * (u / 1999 + 40692) % 2147483399, Int.emod_nonneg _ (by decide), ?_⟩
  simp [run_Lmixed, bk_Lmixed_0, bk_Lmixed_1, bk_Lmixed_2, bk_Lmixed_3, frzF, defF, seqO, ifO, asgO, retO, retN, dropO, nilO, noO, bkO, ctO, asB, ofB, andB, orB, notB, ifE, lift1, lift2, toT, bop1, bop2, rdB, rdF, rdM, okC, R.bind, cmpD, isNonD, isNotNonD, ixD, ixF, L2.atI, ixN, D.noOwn, D.noOwnL, D.fz, D.fzL, setG, put1G, addD, subD, addB, modD, divD, powD, negD, lenD, intD, truB, truBB, truD, outsOf, argV, argR, args0, argApp, lkV, callF, relink, methF, recv, makeF, fldB, lookD, fldO, putN, putDs, lstF, tupF, parO, augO, appO, forO, chainF, isiD, ltI, leI, gtI, geI, List.range, List.range.loop, mulD, p1, m1, e1, e2, m2, e3, m3, e4, m4, l1, l2, l3]
theorem drawC_ {d : D} {c0 n : Int} (s : Wel d c0) (hc : c0 < 900000000) (hn : 0 < n) (hs : n < 18446744073709551616) : ∃ r d', 0 ≤ r ∧ r < n ∧ Wel d' (c0 + 1) ∧ run_Ldraw [d, .int n] = .ok (.int r) [some d', some (.int n)] := by
  obtain ⟨a, b, c, rfl, h1, h2⟩ := s.ex
  have hl := log2_small hn hs
  rcases Int.lt_or_le a 1000000000000000000 with h | h
  · obtain ⟨m, m0, em⟩ := mixed_ (b := b) (k := c + 1) (by omega) (by omega)
    have ha : ¬ (1000000000000000000 ≤ a) := by omega
    refine ⟨m % n, welO a b (c + 1), Int.emod_nonneg _ (by omega), Int.emod_lt_of_pos _ hn, ⟨a, b, c + 1, rfl, by omega, by omega⟩, ?_⟩
    simp [run_Ldraw, bk_Ldraw_0, bk_Ldraw_1, bk_Ldraw_2, bk_Ldraw_3, bk_Ldraw_4, frzF, defF, seqO, ifO, asgO, retO, retN, dropO, nilO, noO, bkO, ctO, asB, ofB, andB, orB, notB, ifE, lift1, lift2, toT, bop1, bop2, rdB, rdF, rdM, okC, R.bind, cmpD, isNonD, isNotNonD, ixD, ixF, L2.atI, ixN, D.noOwn, D.noOwnL, D.fz, D.fzL, setG, put1G, addD, subD, addB, modD, divD, powD, negD, lenD, intD, truB, truBB, truD, outsOf, argV, argR, args0, argApp, lkV, callF, relink, methF, recv, makeF, fldB, lookD, fldO, putN, putDs, lstF, tupF, parO, augO, appO, forO, chainF, isiD, ltI, leI, gtI, geI, List.range, List.range.loop, ha, hn, hl, em]
  · refine ⟨a % n, welO (a / n) b c, Int.emod_nonneg _ (by omega), Int.emod_lt_of_pos _ hn, ⟨a / n, b, c, rfl, h1, by omega⟩, ?_⟩
    simp [run_Ldraw, bk_Ldraw_0, bk_Ldraw_1, bk_Ldraw_2, bk_Ldraw_3, bk_Ldraw_4, frzF, defF, seqO, ifO, asgO, retO, retN, dropO, nilO, noO, bkO, ctO, asB, ofB, andB, orB, notB, ifE, lift1, lift2, toT, bop1, bop2, rdB, rdF, rdM, okC, R.bind, cmpD, isNonD, isNotNonD, ixD, ixF, L2.atI, ixN, D.noOwn, D.noOwnL, D.fz, D.fzL, setG, put1G, addD, subD, addB, modD, divD, powD, negD, lenD, intD, truB, truBB, truD, outsOf, argV, argR, args0, argApp, lkV, callF, relink, methF, recv, makeF, fldB, lookD, fldO, putN, putDs, lstF, tupF, parO, augO, appO, forO, chainF, isiD, ltI, leI, gtI, geI, List.range, List.range.loop, h, hn, hl]
theorem well_ (c : Int) : run_Lwell [.int c] = .ok (welO c c 0) [some (.int c)] := by
  simp [run_Lwell, bk_Lwell_0, frzF, defF, seqO, ifO, asgO, retO, retN, dropO, nilO, noO, bkO, ctO, asB, ofB, andB, orB, notB, ifE, lift1, lift2, toT, bop1, bop2, rdB, rdF, rdM, okC, R.bind, cmpD, isNonD, isNotNonD, ixD, ixF, L2.atI, ixN, D.noOwn, D.noOwnL, D.fz, D.fzL, setG, put1G, addD, subD, addB, modD, divD, powD, negD, lenD, intD, truB, truBB, truD, outsOf, argV, argR, args0, argApp, lkV, callF, relink, methF, recv, makeF, fldB, lookD, fldO, putN, putDs, lstF, tupF, parO, augO, appO, forO, chainF, isiD, ltI, leI, gtI, geI, List.range, List.range.loop]
local macro_rules
  | `(tactic| simp_arith) => `(tactic| simp (disch := first | assumption | ((try simp only [List.length_cons, List.length_nil, wl_lenA, wl_lenM, wl_lenR, List.length_range, wl_len]) <;> omega) | (simp only [wl_noR, wl_fzR, D.noOwn, D.noOwnL, D.fz, D.fzL, noOwnL_ints, noOwnL_rows, fzL_ints, fzL_rows, wl_noL, wl_noA, wl_fzL, wl_fzA, wl_allT, noOwn_fz, noOwnL_fzL, Bool.and_self, Bool.true_and, Bool.and_true, Bool.not_false]; done)) only [hid_true, W_ok, W_ex, W_some, W_someD, wz_seq, wz_seqn, wz_seqr, wz_seqb, wz_seqc, wz_seqx, wz_exQ, wz_nxQ, wz_nil, wz_bk, wz_ct, wz_retN, wz_ret, wz_nilF, wz_nlP, wz_retQ, wz_drop, wz_dropQ, wz_if, wz_ift, wz_iff, wz_ife, wz_ifet, wz_ifef, wz_asg, wz_asgQ, wz_set, wz_tup, wz_lsg, wz_con, wz_conQ, wz_nilG, wz_rdF, wz_rdQ, wz_rdM, wz_rmQ, wz_okC, wz_toT, wz_noQ, wz_rdB, wz_bop2, wz_bop1, wz_bo2, wz_bo1, wz_l1, wz_op1, wz_at, wz_l2, wz_op2, wz_op2R, wz_a0, wz_av, wz_avQ, wz_avR, wz_ar, wz_rrQ, wz_app, wz_appQ, wz_appR, wz_cal, wz_calQ, wz_bkQ, wz_bkX, wz_rl0, wz_rl, wz_rlK, wz_lkV0, wz_lkV, wz_met, wz_metQ, wz_mak, wz_makQ, wz_makR, wz_makX, wz_lst, wz_lstQ, wz_tpl, wz_tplQ, wz_frz, wz_frzQ, wz_asb, wz_asbQ, wz_ofb, wz_ofbQ, wz_not, wz_notQ, wz_and, wz_andt, wz_andf, wz_or, wz_ort, wz_orf, wz_yes, wz_tru, wz_truQ, wz_trR, wz_trub, wz_tbP, wz_ch, wz_chQ, wz_chR, wz_chS, wz_for, wz_forQ, wz_cmp, wz_cmpQ, wz_wipe0, wz_wipe, wz_cmn, wz_cmnQ, wz_mkQ, wz_kn, wz_knQ, wz_kl, wz_klQ, wz_fld, wz_fldQ, wz_fdR, wz_aug, wz_auP, wz_augQ, wz_apd, wz_apP, wz_apdQ, wz_apR, wz_ext, wz_exP, wz_extQ, wz_exR, wz_par, wz_parQ, wz_put1, wz_p1P, wz_p1R, wz_put2, wz_p2P, wz_p2Q, wz_p2R, wz_p2S, wz_putS, wz_psP, wz_li, wz_liQ, wz_ti, wz_tiQ, wz_en, wz_enQ, wz_r1, wz_r1Q, wz_r2, wz_r2Q, wz_zi, wz_ziQ, wz_asi, wz_asiQ, wz_sl, wz_sl1, wz_sl2, wz_sl3, wz_lr1, wz_lrQ, wz_pop, wz_defn, wz_defr, wz_defx, wz_lpn, wz_lpc, wz_lpb, wz_lpr, wz_lpx, wz_bod, wz_raise, wz_raQ, wz_raS, wz_gF1, wz_gB1, wz_gB2, wz_gW, wz_tryO, wz_tyT, wz_tyF, wz_tyn, wz_tyr, wz_tyRn, wz_tyRr, wz_out, wz_tryA, wz_taT, wz_taF, wz_tan, wz_tar, wz_taR, wz_oun, wz_our, wz_xf, wz_xfQ, wz_noXn, wz_noXs, wz_noX0, wz_wht, wz_whf, wz_cb, wz_cbt, wz_cbf, wz_cbS, wz_ck, wz_ckt, wz_ckf, wz_ckS, wa_add, wa_addL, wa_addT, wa_addB, wa_sub, wa_neg, wa_int, wa_intT, wa_intF, wa_mul1, wa_mul2, wa_div, wa_mod, wa_pow18, wa_pow15, wa_pow12, wa_pow11, wa_pow6, wa_max, wa_min, wa_cmp, wa_lt1, wa_lt0, wa_le1, wa_le0, wa_gt1, wa_gt0, wa_ge1, wa_ge0, wa_eq1, wa_eq0, wa_isiII, wa_isiIB, wa_isiIS, wa_isiIL, wa_isiIT, wa_isiLI, wa_isiLB, wa_isiLL, wa_isiLT, wa_isiTI, wa_isiTB, wa_isiTL, wa_isiTT, wa_isiBI, wa_isiBB, wa_isiBL, wa_isiBT, wa_isiSI, wa_isiSB, wa_isiSL, wa_isiST, wa_isiNI, wa_isiNB, wa_isiNL, wa_isiNT, wa_truB, wa_truI, wa_truLc, wa_truLn, wa_truTc, wa_lenL, wa_lenT, wa_lenS, wa_lstL, wa_lstT, wa_lstS, wa_tplL, wa_tplT, wa_revL, wa_non, wa_nonI, wa_nonL, wa_nonT, wa_nnon, wa_nnonI, wa_nnonL, wa_nnonT, wz_fuN, wz_forN, wz_forC, wz_cuN, wz_cuS, wz_cmpN, wz_cmpC, wa_ixL, wa_ixT, wa_ixS, wa_ixK, wa_ixdL, wa_ixdT, wa_ixdS, wa_at0, wa_at1, wa_at2, wa_at3, wa_atm1, wa_atm2, wa_atR, wa_ixNp, wl_fzL, wl_noL, wl_allT, wl_fzA, wl_noA, wl_len, wl_rng, wl_rg, wl_enum, wl_zip, wl_lenA, wl_lenM, wa_slNK, wa_slKN, wa_slKK, wa_slSKK, wa_slSNK, wa_slSKN, wa_slTKN, wl_cutm1, wl_noR, wl_fzR, wl_lenR, wz_popQ1, wz_popQ2, wl_enumN, wl_enumC, wl_zipN, wl_zipC, wz_pk, wz_pkO, wz_pkP, wz_pkQ, wz_pkR, wz_pkS, wl_neC, wl_neN, wl_eqC, wl_eqN, wz_dnew, wz_disp, wz_dsQ, wz_dsP, wz_dsR, wa_keyI, wa_keyS, wa_isiKI, wa_isiKB, wa_isiKS, wa_isiKL, wa_isiKT, wa_nonK, wa_nnonK, wa_orW, wa_orKs, wa_orKn, wa_neS, wa_reprW, wz_al, wz_alP, wz_alQ, wz_alR, wz_isx, wz_isQ, wz_isR, wz_apAt, wz_aaP, wz_aaQ, wz_aaR, wa_isiIt, wa_notT, eqD_int', neD_int', D.fz, D.fzL, D.noOwn, D.noOwnL, noOwnL_ints, noOwnL_rows, fzL_ints, fzL_rows, noOwn_fz, noOwnL_fzL, fz_fz, fzL_fzL, List.getElem?_cons_zero, List.getElem?_cons_succ, List.set_cons_zero, List.set_cons_succ, List.map_cons, List.map_nil, List.cons_append, List.nil_append, List.append_nil, List.length_cons, List.length_nil, List.length_range, List.reduceReplicate, Option.join_some, and_true, true_and, and_self, Bool.not_true, Bool.not_false, Bool.and_self, Bool.true_and, Bool.and_true, if_true, if_false, Int.toNat_natCast, Int.zero_add, Int.sub_add_cancel, Int.add_sub_cancel, Int.cast_ofNat_Int, Nat.zero_add, Nat.reduceAdd, Nat.reduceSub, Int.reduceToNat, Int.reduceAdd, Int.reduceSub, Int.reduceMul, Int.reduceNeg])
  | `(tactic| simp_arith [$hs,*]) => `(tactic| simp (disch := first | assumption | ((try simp only [List.length_cons, List.length_nil, wl_lenA, wl_lenM, wl_lenR, List.length_range, wl_len]) <;> omega) | (simp only [wl_noR, wl_fzR, D.noOwn, D.noOwnL, D.fz, D.fzL, noOwnL_ints, noOwnL_rows, fzL_ints, fzL_rows, wl_noL, wl_noA, wl_fzL, wl_fzA, wl_allT, noOwn_fz, noOwnL_fzL, Bool.and_self, Bool.true_and, Bool.and_true, Bool.not_false]; done)) only [hid_true, W_ok, W_ex, W_some, W_someD, wz_seq, wz_seqn, wz_seqr, wz_seqb, wz_seqc, wz_seqx, wz_exQ, wz_nxQ, wz_nil, wz_bk, wz_ct, wz_retN, wz_ret, wz_nilF, wz_nlP, wz_retQ, wz_drop, wz_dropQ, wz_if, wz_ift, wz_iff, wz_ife, wz_ifet, wz_ifef, wz_asg, wz_asgQ, wz_set, wz_tup, wz_lsg, wz_con, wz_conQ, wz_nilG, wz_rdF, wz_rdQ, wz_rdM, wz_rmQ, wz_okC, wz_toT, wz_noQ, wz_rdB, wz_bop2, wz_bop1, wz_bo2, wz_bo1, wz_l1, wz_op1, wz_at, wz_l2, wz_op2, wz_op2R, wz_a0, wz_av, wz_avQ, wz_avR, wz_ar, wz_rrQ, wz_app, wz_appQ, wz_appR, wz_cal, wz_calQ, wz_bkQ, wz_bkX, wz_rl0, wz_rl, wz_rlK, wz_lkV0, wz_lkV, wz_met, wz_metQ, wz_mak, wz_makQ, wz_makR, wz_makX, wz_lst, wz_lstQ, wz_tpl, wz_tplQ, wz_frz, wz_frzQ, wz_asb, wz_asbQ, wz_ofb, wz_ofbQ, wz_not, wz_notQ, wz_and, wz_andt, wz_andf, wz_or, wz_ort, wz_orf, wz_yes, wz_tru, wz_truQ, wz_trR, wz_trub, wz_tbP, wz_ch, wz_chQ, wz_chR, wz_chS, wz_for, wz_forQ, wz_cmp, wz_cmpQ, wz_wipe0, wz_wipe, wz_cmn, wz_cmnQ, wz_mkQ, wz_kn, wz_knQ, wz_kl, wz_klQ, wz_fld, wz_fldQ, wz_fdR, wz_aug, wz_auP, wz_augQ, wz_apd, wz_apP, wz_apdQ, wz_apR, wz_ext, wz_exP, wz_extQ, wz_exR, wz_par, wz_parQ, wz_put1, wz_p1P, wz_p1R, wz_put2, wz_p2P, wz_p2Q, wz_p2R, wz_p2S, wz_putS, wz_psP, wz_li, wz_liQ, wz_ti, wz_tiQ, wz_en, wz_enQ, wz_r1, wz_r1Q, wz_r2, wz_r2Q, wz_zi, wz_ziQ, wz_asi, wz_asiQ, wz_sl, wz_sl1, wz_sl2, wz_sl3, wz_lr1, wz_lrQ, wz_pop, wz_defn, wz_defr, wz_defx, wz_lpn, wz_lpc, wz_lpb, wz_lpr, wz_lpx, wz_bod, wz_raise, wz_raQ, wz_raS, wz_gF1, wz_gB1, wz_gB2, wz_gW, wz_tryO, wz_tyT, wz_tyF, wz_tyn, wz_tyr, wz_tyRn, wz_tyRr, wz_out, wz_tryA, wz_taT, wz_taF, wz_tan, wz_tar, wz_taR, wz_oun, wz_our, wz_xf, wz_xfQ, wz_noXn, wz_noXs, wz_noX0, wz_wht, wz_whf, wz_cb, wz_cbt, wz_cbf, wz_cbS, wz_ck, wz_ckt, wz_ckf, wz_ckS, wa_add, wa_addL, wa_addT, wa_addB, wa_sub, wa_neg, wa_int, wa_intT, wa_intF, wa_mul1, wa_mul2, wa_div, wa_mod, wa_pow18, wa_pow15, wa_pow12, wa_pow11, wa_pow6, wa_max, wa_min, wa_cmp, wa_lt1, wa_lt0, wa_le1, wa_le0, wa_gt1, wa_gt0, wa_ge1, wa_ge0, wa_eq1, wa_eq0, wa_isiII, wa_isiIB, wa_isiIS, wa_isiIL, wa_isiIT, wa_isiLI, wa_isiLB, wa_isiLL, wa_isiLT, wa_isiTI, wa_isiTB, wa_isiTL, wa_isiTT, wa_isiBI, wa_isiBB, wa_isiBL, wa_isiBT, wa_isiSI, wa_isiSB, wa_isiSL, wa_isiST, wa_isiNI, wa_isiNB, wa_isiNL, wa_isiNT, wa_truB, wa_truI, wa_truLc, wa_truLn, wa_truTc, wa_lenL, wa_lenT, wa_lenS, wa_lstL, wa_lstT, wa_lstS, wa_tplL, wa_tplT, wa_revL, wa_non, wa_nonI, wa_nonL, wa_nonT, wa_nnon, wa_nnonI, wa_nnonL, wa_nnonT, wz_fuN, wz_forN, wz_forC, wz_cuN, wz_cuS, wz_cmpN, wz_cmpC, wa_ixL, wa_ixT, wa_ixS, wa_ixK, wa_ixdL, wa_ixdT, wa_ixdS, wa_at0, wa_at1, wa_at2, wa_at3, wa_atm1, wa_atm2, wa_atR, wa_ixNp, wl_fzL, wl_noL, wl_allT, wl_fzA, wl_noA, wl_len, wl_rng, wl_rg, wl_enum, wl_zip, wl_lenA, wl_lenM, wa_slNK, wa_slKN, wa_slKK, wa_slSKK, wa_slSNK, wa_slSKN, wa_slTKN, wl_cutm1, wl_noR, wl_fzR, wl_lenR, wz_popQ1, wz_popQ2, wl_enumN, wl_enumC, wl_zipN, wl_zipC, wz_pk, wz_pkO, wz_pkP, wz_pkQ, wz_pkR, wz_pkS, wl_neC, wl_neN, wl_eqC, wl_eqN, wz_dnew, wz_disp, wz_dsQ, wz_dsP, wz_dsR, wa_keyI, wa_keyS, wa_isiKI, wa_isiKB, wa_isiKS, wa_isiKL, wa_isiKT, wa_nonK, wa_nnonK, wa_orW, wa_orKs, wa_orKn, wa_neS, wa_reprW, wz_al, wz_alP, wz_alQ, wz_alR, wz_isx, wz_isQ, wz_isR, wz_apAt, wz_aaP, wz_aaQ, wz_aaR, wa_isiIt, wa_notT, eqD_int', neD_int', D.fz, D.fzL, D.noOwn, D.noOwnL, noOwnL_ints, noOwnL_rows, fzL_ints, fzL_rows, noOwn_fz, noOwnL_fzL, fz_fz, fzL_fzL, List.getElem?_cons_zero, List.getElem?_cons_succ, List.set_cons_zero, List.set_cons_succ, List.map_cons, List.map_nil, List.cons_append, List.nil_append, List.append_nil, List.length_cons, List.length_nil, List.length_range, List.reduceReplicate, Option.join_some, and_true, true_and, and_self, Bool.not_true, Bool.not_false, Bool.and_self, Bool.true_and, Bool.and_true, if_true, if_false, Int.toNat_natCast, Int.zero_add, Int.sub_add_cancel, Int.add_sub_cancel, Int.cast_ofNat_Int, Nat.zero_add, Nat.reduceAdd, Nat.reduceSub, Int.reduceToNat, Int.reduceAdd, Int.reduceSub, Int.reduceMul, Int.reduceNeg, $hs,*])
theorem fzL_map (xs : List D) : D.fzL xs = xs.map D.fz := by
  induction xs with
  | nil => rfl
  | cons a b ih => simp only [D.fzL, List.map_cons, ih]
theorem oneC_ {d : D} {c0 : Int} {o : Bool} {xs : List D} (s : Wel d c0) (hc : c0 < 900000000) (hx : xs ≠ []) (hl : xs.length < 1000000) : ∃ x d', x ∈ xs ∧ Wel d' (c0 + 1) ∧ run_Lone [d, .lst o xs] = .ok x.fz [some d', some (.lst false (D.fzL xs))] := by
  have hpos : 0 < xs.length := List.length_pos_iff.mpr hx
  obtain ⟨r, d', r0, r1, s1, e1⟩ := drawC_ (n := (xs.length : Int)) s hc (by omega) (by omega)
  obtain ⟨x, hx1, hx2⟩ := atI_in (xs := xs) r0 r1
  have hlen : (D.fzL xs).length = xs.length := by rw [fzL_map, List.length_map]
  have hat : L2.atI (D.fzL xs) r = some x.fz := by rw [fzL_map, atI_map_, hx1]; rfl
  refine ⟨x, d', List.mem_of_getElem? hx2, s1, eq_of_Wr fun Q hQ => ?_⟩
  rw [ws_Lone]
  simp_arith [wb_Lone, e1, hlen, hat]
  exact hQ
theorem map_erase {α β : Type} (f : α → β) : ∀ (l : List α) (j : Nat), (l.map f).eraseIdx j = (l.eraseIdx j).map f
  | [], _ => rfl
  | _ :: _, 0 => rfl
  | a :: l, j + 1 => by simp only [List.map_cons, List.eraseIdx_cons_succ, map_erase f l j]
theorem perm_erase {α : Type} : ∀ {l : List α} {j : Nat} {y : α}, l[j]? = some y → (y :: l.eraseIdx j).Perm l
  | [], _, _, h => by simp at h
  | a :: l, 0, y, h => by
    obtain rfl : a = y := by simpa using h
    exact List.Perm.refl _
  | a :: l, j + 1, y, h => by
    rw [List.eraseIdx_cons_succ]
    exact (List.Perm.swap a y _).trans ((perm_erase (l := l) (by simpa using h)).cons a)
theorem shuffled_ {d : D} {c0 : Int} {o : Bool} {ns : List Int} (s : Wel d c0) (hc : c0 < 800000000) (hl : ns.length ≤ 100) : ∃ (ms : List Int) (d' : D), ms.Perm ns ∧ Wel d' (c0 + ns.length) ∧ run_Lshuffled [d, rowD_ o ns] = .ok (rowD_ true ms) [some d', some (rowD_ false ns)] := by
  have key : Wr (run_Lshuffled [d, rowD_ o ns]) (fun r e => ∃ (ms : List Int) (d' : D), ms.Perm ns ∧ Wel d' (c0 + ns.length) ∧ r = rowD_ true ms ∧ e = [some d', some (rowD_ false ns)]) noX := by
    rw [ws_Lshuffled]
    simp_arith [wb_Lshuffled]
    refine W_while (fun k e => ∃ (left found : List Int) (d' : D), left.length = k ∧ (found ++ left).Perm ns ∧ Wel d' (c0 + found.length) ∧ e = [some d', some (rowD_ false ns), some (rowD_ true left), some (rowD_ true found)]) ?_ ns.length _ _ ⟨ns, [], d, rfl, by simp, by simpa using s, rfl⟩ (by omega)
    rintro k e ⟨left, found, d', rfl, hp, s', rfl⟩
    have hlen := hp.length_eq
    rw [List.length_append] at hlen
    cases left with
    | nil =>
      simp_arith [wb_Lshuffled]
      exact ⟨found, d', by simpa using hp, s'.mono (by omega), rfl, rfl⟩
    | cons x xs =>
      obtain ⟨r, d2, r0, r1, s2, e2⟩ := drawC_ (n := ((x :: xs).length : Int)) s' (by omega) (by rw [List.length_cons]; omega) (by rw [List.length_cons] at hlen ⊢; omega)
      obtain ⟨j, rfl⟩ : ∃ j : Nat, r = j := ⟨r.toNat, by omega⟩
      have hj : j < (x :: xs).length := by omega
      obtain ⟨y, hy⟩ : ∃ y, (x :: xs)[j]? = some y := ⟨_, List.getElem?_eq_getElem hj⟩
      have hlm : (D.int x :: List.map D.int xs).length = (x :: xs).length := by simp
      have hx : ixN (D.int x :: List.map D.int xs).length (j : Int) = some j := by rw [hlm, wa_ixNp (by omega) r1]; exact congrArg some (Int.toNat_natCast j)
      have hy2 : (D.int x :: List.map D.int xs)[j]? = some (.int y) := by
        have : (D.int x :: List.map D.int xs) = (x :: xs).map D.int := rfl
        rw [this, List.getElem?_map, hy]; rfl
      have he : (D.int x :: List.map D.int xs).eraseIdx j = ((x :: xs).eraseIdx j).map D.int := by
        have : (D.int x :: List.map D.int xs) = (x :: xs).map D.int := rfl
        rw [this, map_erase]
      have e2' : run_Ldraw [d', .int ((D.int x :: List.map D.int xs).length : Nat)] = .ok (.int j) [some d2, some (.int ((D.int x :: List.map D.int xs).length : Nat))] := by rw [hlm]; exact e2
      generalize hL : (D.int x :: List.map D.int xs) = L at *
      have hE : (true != L.isEmpty) = true := by rw [← hL]; rfl
      simp_arith [wb_Lshuffled, e2', hx, hy2, he, hE, hL]
      refine ⟨((x :: xs).eraseIdx j).length, by rw [List.length_eraseIdx_of_lt hj]; simp, (x :: xs).eraseIdx j, found ++ [y], d2, rfl, ?_, s2.mono (by rw [List.length_append]; simp; omega), by simp⟩
      have hpp : (y :: (x :: xs).eraseIdx j).Perm (x :: xs) := perm_erase hy
      rw [List.append_assoc]
      exact (List.Perm.append_left found hpp).trans hp
  obtain ⟨r, e, h, ms, d', h1, h2, rfl, rfl⟩ := key.ok
  exact ⟨ms, d', h1, h2, h⟩
/-! square grids -/
def SqG (n : Nat) (g : List (List Int)) (P : Int → Prop) : Prop := g.length = n ∧ ∀ r ∈ g, r.length = n ∧ ∀ z ∈ r, P z
theorem ixF_rows {o : Bool} {g : List (List Int)} {i : Int} (h0 : 0 ≤ i) (h1 : i < g.length) : ∃ r, g[i.toNat]? = some r ∧ ixF (gridD o false g) (.int i) = some (rowD_ false r) := by
  obtain ⟨r, e1, e2⟩ := atI_in h0 h1
  exact ⟨r, e2, by simp [ixF, ixD, gridD, atI_map_, e1, D.noOwn]⟩
theorem ixF_row {o : Bool} {ns : List Int} {i : Int} (h0 : 0 ≤ i) (h1 : i < ns.length) : ∃ z, ns[i.toNat]? = some z ∧ ixF (rowD_ o ns) (.int i) = some (.int z) := by
  obtain ⟨z, e1, e2⟩ := atI_in h0 h1
  exact ⟨z, e2, by simp [ixF, ixD, atI_map_, e1, D.noOwn]⟩
theorem rdF_ok {i : Nat} {env e : J.Env} {d d' : D} (h : env[i]? = some (some d)) (h1 : d.fz = d') (h2 : env.set i (some d') = e) : rdF i env = .ok d' e := by
  subst h1 h2
  unfold rdF
  rw [h]
theorem fz_row {o : Bool} {r : List Int} : (rowD_ o r).fz = rowD_ false r := by simp only [D.fz, fzL_ints]
theorem ixN_in {n : Nat} {i : Int} (h0 : 0 ≤ i) (h1 : i < n) : ixN n i = some i.toNat := by
  unfold ixN
  rw [if_pos h0, if_pos h1]
theorem sq_put {n : Nat} {t : List (List Int)} {P : Int → Prop} {r : List Int} {i j : Nat} {v : Int} (h : SqG n t P) (hr : t[i]? = some r) (hv : P v) : SqG n (t.set i (r.set j v)) P := by
  refine ⟨by rw [List.length_set, h.1], fun q hq => ?_⟩
  rcases List.mem_or_eq_of_mem_set hq with z | rfl
  · exact h.2 q z
  · have := h.2 r (List.mem_of_getElem? hr)
    refine ⟨by rw [List.length_set, this.1], fun z hz => ?_⟩
    rcases List.mem_or_eq_of_mem_set hz with u | rfl
    · exact this.2 z u
    · exact hv
/-! tables, purely -/
theorem between_ {v lo hi : Int} : run_is_between [.int v, .int lo, .int hi] = .ok (.bl (decide (lo ≤ v) && decide (v ≤ hi))) [some (.int v), some (.int lo), some (.int hi)] := by
  by_cases h : lo ≤ v
  · simp [run_is_between, run_is_integer, defF, retO, ofB, andB, asB, notB, lift1, isiD, rdF, D.fz, R.bind, callF, argV, args0, relink, chainF, ltI, leI, gtI, geI, outsOf, List.range, List.range.loop, h]
  · simp [run_is_between, run_is_integer, defF, retO, ofB, andB, asB, notB, lift1, isiD, rdF, D.fz, R.bind, callF, argV, args0, relink, chainF, ltI, leI, gtI, geI, outsOf, List.range, List.range.loop, h]
theorem enumD_at {k : Int} {xs : List D} {i : Nat} {d : D} (h : (enumD k xs)[i]? = some d) : ∃ x, xs[i]? = some x ∧ d = .tup [.int (k + (i : Nat)), x] := by
  have hl : i < xs.length := by
    have := (List.getElem?_eq_some_iff.mp h).1
    rwa [enumD_length] at this
  rw [enumD_get hl] at h
  exact ⟨xs[i], List.getElem?_eq_getElem hl, (Option.some.inj h).symm⟩
theorem check_cell {a b c d lo hi x y v : Int} {d0 d1 d2 d3 d6 d7 d8 : Option D} (h0 : lo ≤ v) (h1 : v ≤ hi) : lb_check_grid_0 [d0, d1, d2, d3, some (.int lo), some (.int hi), d6, d7, d8, some (.int v)] = .nx [d0, d1, d2, d3, some (.int lo), some (.int hi), d6, d7, d8, some (.int v)] := by
  simp [lb_check_grid_0, ifO, notB, asB, callF, argApp, argV, rdF, D.fz, R.bind, args0, between_, relink, h0, h1, nilO]
theorem enumSI_ok {f g : J.Env → R (List D)} {env e e2 : J.Env} {o : Bool} {xs ds : List D} (h : f env = .ok [.lst o xs] e) (h2 : g e = .ok [.int 1] e2) (h3 : enumD 1 (D.fzL xs) = ds) : enumSI f g env = .ok ds e2 := by
  subst h3
  unfold enumSI
  simp only [h, h2]
  exact if_pos ⟨by decide, by decide⟩
theorem check_line {n : Nat} {lo hi : Int} {o : Bool} {r : List Int} {d0 d1 d2 d6 d8 d9 : Option D} (hl : r.length = n) (hr : ∀ z ∈ r, lo ≤ z ∧ z ≤ hi) : ∃ e8 e9, lb_check_grid_1 [d0, d1, d2, some (.int n), some (.int lo), some (.int hi), d6, some (rowD_ o r), d8, d9] = .nx [d0, d1, d2, some (.int n), some (.int lo), some (.int hi), d6, some (rowD_ false r), e8, e9] := by
  have key := forL_inv0 (g := tupG 2 (consG (setG 8) (consG (setG 9) nilG))) (b := lb_check_grid_0)
    (fun _ e => ∃ (e8 e9 : Option D), e = [d0, d1, d2, some (.int n), some (.int lo), some (.int hi), d6, some (rowD_ false r), e8, e9])
    (ds := enumD 1 (r.map D.int)) (e := [d0, d1, d2, some (.int n), some (.int lo), some (.int hi), d6, some (rowD_ false r), d8, d9]) ⟨d8, d9, rfl⟩ ?_
  · obtain ⟨e', h2, e8, e9, rfl⟩ := key
    refine ⟨e8, e9, seqO_nx (e1 := [d0, d1, d2, some (.int n), some (.int lo), some (.int hi), d6, some (rowD_ false r), d8, d9]) (ifO_f (e := [d0, d1, d2, some (.int n), some (.int lo), some (.int hi), d6, some (rowD_ false r), d8, d9]) ?_ rfl) (forO_ok (enumSI_ok (o := false) (xs := r.map D.int) (e := [d0, d1, d2, some (.int n), some (.int lo), some (.int hi), d6, some (rowD_ false r), d8, d9]) ?_ rfl (by rw [fzL_ints])) h2)⟩
    · simp [orB, notB, asB, lift1, lift2, isiD, rdF, D.fz, R.bind, lenD, neD_int, hl]
    · simp [argV, rdF, D.fz, R.bind, args0]
  · rintro i dd e hi' ⟨e8, e9, rfl⟩
    obtain ⟨x, hx, rfl⟩ := enumD_at hi'
    rw [List.getElem?_map, Option.map_eq_some_iff] at hx
    obtain ⟨z, hz, rfl⟩ := hx
    have := hr z (List.mem_of_getElem? hz)
    exact ⟨_, _, rfl, check_cell (a := 0) (b := 0) (c := 0) (d := 0) (x := 0) (y := 0) this.1 this.2, _, _, rfl⟩
theorem check_grid_ {n : Nat} {lo hi : Int} {g : List (List Int)} {a b : Str} (hg : SqG n g (fun z => lo ≤ z ∧ z ≤ hi)) : run_check_grid [gridD false false g, .str a, .str b, .int n, .int lo, .int hi] = .ok .non [some (gridD false false g), some (.str a), some (.str b), some (.int n), some (.int lo), some (.int hi)] := by
  have key := forL_inv0 (g := tupG 2 (consG (setG 6) (consG (setG 7) nilG))) (b := lb_check_grid_1)
    (fun _ e => ∃ (e6 e7 e8 e9 : Option D), e = [some (gridD false false g), some (.str a), some (.str b), some (.int n), some (.int lo), some (.int hi), e6, e7, e8, e9])
    (ds := enumD 1 (g.map fun r => rowD_ false r)) (e := [some (gridD false false g), some (.str a), some (.str b), some (.int n), some (.int lo), some (.int hi), none, none, none, none]) ⟨none, none, none, none, rfl⟩ ?_
  · obtain ⟨e', h2, e6, e7, e8, e9, rfl⟩ := key
    have hb : (seqO (ifO (orB (notB (asB (lift1 (isiD "list") (rdF 0)))) (asB (lift2 neD (lift1 lenD (rdF 0)) (rdF 3)))) noO nilO)
      (forO (enumSI (argV (rdF 0) args0) (argV (okC (.int 1)) args0)) (tupG 2 (consG (setG 6) (consG (setG 7) nilG))) lb_check_grid_1)) [some (gridD false false g), some (.str a), some (.str b), some (.int n), some (.int lo), some (.int hi), none, none, none, none] = .nx [some (gridD false false g), some (.str a), some (.str b), some (.int n), some (.int lo), some (.int hi), e6, e7, e8, e9] := by
      refine seqO_nx (e1 := [some (gridD false false g), some (.str a), some (.str b), some (.int n), some (.int lo), some (.int hi), none, none, none, none]) (ifO_f (e := [some (gridD false false g), some (.str a), some (.str b), some (.int n), some (.int lo), some (.int hi), none, none, none, none]) ?_ rfl) (forO_ok (enumSI_ok (o := false) (xs := g.map fun r => rowD_ false r) (e := [some (gridD false false g), some (.str a), some (.str b), some (.int n), some (.int lo), some (.int hi), none, none, none, none]) ?_ rfl (by rw [fzL_rows])) h2)
      · simp [orB, notB, asB, lift1, lift2, isiD, rdF, fzL_rows, D.fz, R.bind, lenD, neD_int, hg.1]
      · simp [argV, rdF, fzL_rows, D.fz, R.bind, args0]
    unfold run_check_grid defF
    simp only [List.map, List.replicate, List.cons_append, List.nil_append, hb]
    rfl
  · rintro i dd e hi' ⟨e6, e7, e8, e9, rfl⟩
    obtain ⟨x, hx, rfl⟩ := enumD_at hi'
    rw [List.getElem?_map, Option.map_eq_some_iff] at hx
    obtain ⟨r, hr, rfl⟩ := hx
    have := hg.2 r (List.mem_of_getElem? hr)
    obtain ⟨f8, f9, h⟩ := check_line (d0 := some (gridD false false g)) (d1 := some (.str a)) (d2 := some (.str b)) (d6 := some (.int (1 + (i : Nat)))) (d8 := e8) (d9 := e9) (o := false) this.1 this.2
    exact ⟨_, _, rfl, h, _, _, _, _, rfl⟩
theorem defF_nx {n : Nat} {kp : List Nat} {l : Nat} {body : J.Env → Out} {ds : List D} {e outs : J.Env} (h : body (ds.map some ++ List.replicate l none) = .nx e) (ho : outsOf n kp e = outs) : defF n kp l body ds = .ok .non outs := by
  unfold defF
  rw [h, ← ho]
theorem dropO_nx {f : J.Env → R D} {env e : J.Env} {d : D} (h : f env = .ok d e) : dropO f env = .nx e := by
  unfold dropO
  rw [h]
theorem lift1_ok {g : D → Option D} {f : J.Env → R D} {env e : J.Env} {d x : D} (h : f env = .ok d e) (hg : g d = some x) : lift1 g f env = .ok x e := by
  unfold lift1
  simp only [h, R.bind, hg]
theorem check_joins_ {n : Nat} {g : List (List Int)} (hg : SqG n g (fun z => 1 ≤ z ∧ z ≤ n)) (h1 : 1 ≤ n) (h5 : n ≤ 5) : run_check_joins [gridD false false g] = .ok .non [some (gridD false false g)] := by
  refine defF_nx (e := [some (gridD false false g)]) (seqO_nx (e1 := [some (gridD false false g)]) (ifO_f (e := [some (gridD false false g)]) ?_ rfl) (dropO_nx (callF_ok (ds := [gridD false false g, .str "joins", .str "join", .int n, .int 1, .int n]) (e := [some (gridD false false g)]) ?_ (check_grid_ hg) rfl))) rfl
  · have q5 : (n : Int) ≤ 5 := by omega
    have q1 : (1 : Int) ≤ n := by omega
    simp [q1, q5, orB, notB, asB, lift1, isiD, rdF, fzL_rows, D.fz, R.bind, lenD, chainF, ltI, leI, gtI, geI, okC, hg.1, h1, h5]
  · simp [argApp, argV, rdF, fzL_rows, D.fz, R.bind, args0, okC, lift1, lenD, hg.1]
abbrev tupR (r : List Int) : D := .tup (r.map D.int)
abbrev tabD (o : Bool) (g t : List (List Int)) : D := .ins o 0 ["results", "prices"] [.tup (g.map tupR), .tup (t.map tupR)]
theorem rows_tup {a b c : Option D} : ∀ (g : List (List Int)) (acc : List D), compL (setG 3) yesB (lift1 tupleD (rdF 3)) [3] acc (g.map fun r => rowD_ false r) [a, b, c, none] = .ok (.lst true (acc ++ g.map tupR)) [a, b, c, none]
  | [], acc => by simp [compL]
  | r :: g, acc => by
    have := rows_tup (a := a) (b := b) (c := c) g (acc ++ [tupR r])
    simp only [List.map_cons, compL, setG, yesB]
    simp only [List.length_cons, List.length_nil, show (3 : Nat) < 0 + 1 + 1 + 1 + 1 from by decide, if_true, List.set_cons_succ, List.set_cons_zero]
    rw [lift1_ok (rdF_ok (i := 3) rfl fz_row rfl) (x := tupR r) (by simp only [tupleD, noOwnL_ints, if_true])]
    simp only [wipeE, List.set_cons_succ, List.set_cons_zero]
    rw [this, List.append_assoc]
    rfl
theorem fzL_tups (g : List (List Int)) : D.fzL (g.map tupR) = g.map tupR := by
  induction g with
  | nil => rfl
  | cons a b ih => simp only [List.map_cons, D.fzL, D.fz, fzL_ints, ih]
theorem noOwnL_tups (g : List (List Int)) : D.noOwnL (g.map tupR) = true := by
  induction g with
  | nil => rfl
  | cons a b ih => simp only [List.map_cons, D.noOwnL, D.noOwn, noOwnL_ints, ih]; rfl
theorem init_ {n : Nat} {g t : List (List Int)} {o1 o2 : Bool} (hg : SqG n g (fun z => 1 ≤ z ∧ z ≤ n)) (ht : SqG n t (fun z => -1000000000000 < z ∧ z < 1000000000000)) (h1 : 1 ≤ n) (h5 : n ≤ 5) : run_Table___init__ [.ins true 0 [] [], gridD o1 o1 g, gridD o2 o2 t] = .ok .non [some (tabD true g t), some (gridD false false g), some (gridD false false t)] := by
  have ht' : SqG n t (fun z => 1 - 1000000000000 ≤ z ∧ z ≤ 1000000000000 - 1) := ⟨ht.1, fun r hr => ⟨(ht.2 r hr).1, fun z hz => by have := (ht.2 r hr).2 z hz; omega⟩⟩
  refine defF_nx (e := [some (tabD true g t), some (gridD false false g), some (gridD false false t), none]) (seqO_nx (e1 := [some (.ins true 0 [] []), some (gridD false false g), some (gridD o2 o2 t), none]) (dropO_nx (callF_ok (ds := [gridD false false g]) (e := [some (.ins true 0 [] []), some (gridD false false g), some (gridD o2 o2 t), none]) ?_ (check_joins_ hg h1 h5) rfl)) (seqO_nx (e1 := [some (.ins true 0 [] []), some (gridD false false g), some (gridD false false t), none]) (dropO_nx (callF_ok (ds := [gridD false false t, .str "tolls", .str "toll", .int n, .int (1 - 1000000000000), .int (1000000000000 - 1)]) (e := [some (.ins true 0 [] []), some (gridD false false g), some (gridD false false t), none]) ?_ (check_grid_ ht') rfl)) (seqO_nx (e1 := [some (.ins true 0 ["results"] [.tup (g.map tupR)]), some (gridD false false g), some (gridD false false t), none]) ?_ ?_))) rfl
  · simp [argV, rdF, fzL_rows, D.fz, R.bind, args0]
  · simp [argApp, argV, rdF, fzL_rows, D.fz, R.bind, args0, okC, lift1, lift2, subD, lenD, hg.1]
  · have : lift1 tupleD (compO (lstI (rdF 1)) (setG 3) yesB (lift1 tupleD (rdF 3)) [3]) [some (.ins true 0 [] []), some (gridD false false g), some (gridD false false t), none] = .ok (.tup (g.map tupR)) [some (.ins true 0 [] []), some (gridD false false g), some (gridD false false t), none] :=
      lift1_ok (compO_ok (ds := g.map fun r => rowD_ false r) (e := [some (.ins true 0 [] []), some (gridD false false g), some (gridD false false t), none]) (by simp [lstI, rdF, fzL_rows, D.fz]) (by simp [hg.1]; omega) rfl (rows_tup g [])) (by simp [tupleD, noOwnL_tups])
    unfold fldO
    rw [this]
    simp [noOwnL_tups, D.noOwn, putN, putDs]
  · have : lift1 tupleD (compO (lstI (rdF 2)) (setG 3) yesB (lift1 tupleD (rdF 3)) [3]) [some (.ins true 0 ["results"] [.tup (g.map tupR)]), some (gridD false false g), some (gridD false false t), none] = .ok (.tup (t.map tupR)) [some (.ins true 0 ["results"] [.tup (g.map tupR)]), some (gridD false false g), some (gridD false false t), none] :=
      lift1_ok (compO_ok (ds := t.map fun r => rowD_ false r) (e := [some (.ins true 0 ["results"] [.tup (g.map tupR)]), some (gridD false false g), some (gridD false false t), none]) (by simp [lstI, rdF, fzL_rows, D.fz]) (by simp [ht.1]; omega) rfl (rows_tup t [])) (by simp [tupleD, noOwnL_tups])
    unfold fldO
    rw [this]
    simp [noOwnL_tups, D.noOwn, putN, putDs]
    decide
theorem notB_ok {c : J.Env → R Bool} {env e : J.Env} {b : Bool} (h : c env = .ok b e) : notB c env = .ok (!b) e := by
  unfold notB
  rw [h]
theorem asB_ok {f : J.Env → R D} {env e : J.Env} {b : Bool} (h : f env = .ok (.bl b) e) : asB f env = .ok b e := by
  unfold asB
  rw [h]
theorem between_ok {v lo hi : Int} (h0 : lo ≤ v) (h1 : v ≤ hi) : run_is_between [.int v, .int lo, .int hi] = .ok (.bl true) [some (.int v), some (.int lo), some (.int hi)] := by
  rw [between_, decide_eq_true h0, decide_eq_true h1]
  rfl
/-- a kind's check passes -/
theorem count_ {n : Nat} {g t : List (List Int)} (hg : g.length = n) {o : Bool} : run_Table_count [tabD o g t] = .ok (.int n) [some (tabD o g t)] := by
  refine defF_rt (e := [some (tabD o g t)]) (retO_rt (lift1_ok (d := .tup (g.map tupR)) ?_ (by simp [lenD, hg]))) rfl
  simp [toT, fldB, rdB, lookD, D.noOwn, noOwnL_tups]
theorem fz_tab {o : Bool} {g t : List (List Int)} : (tabD o g t).fz = tabD false g t := by
  simp only [D.fz, D.fzL, fzL_tups]
theorem methF_ok {c : Nat} {m : Str} {run : List D → R D} {f : J.Env → R D} {g : J.Env → R (List D)} {env e e2 outs : J.Env} {d r : D} {ds : List D} (h : f env = .ok d e) (hr : recv c m d = true) (h2 : g e = .ok ds e2) (h3 : run (d :: ds) = .ok r outs) : methF c m run f g [] env = .ok r e2 := by
  unfold methF
  simp only [h, R.bind, hr, if_true]
  exact callF_ok (ds := d :: ds) (e := e2) (by simp only [h2]) h3 rfl
theorem recv_tab {o : Bool} {g t : List (List Int)} {m : Str} (h : (["results", "prices"] : List Str).contains m = false) : recv 0 m (tabD o g t) = true := by
  simp only [recv, h]
  rfl
theorem check_kind_ {n : Nat} {g t : List (List Int)} {k : Int} (hg : g.length = n) (h0 : 1 ≤ k) (h1 : k ≤ n) : run_Table_check_kind [tabD false g t, .int k] = .ok .non [some (tabD false g t), some (.int k)] := by
  refine defF_nx (e := [some (tabD false g t), some (.int k)]) (ifO_f (e := [some (tabD false g t), some (.int k)]) ?_ rfl) rfl
  have hm : methF 0 "count" run_Table_count (rdF 0) args0 [] [some (tabD false g t), some (.int k)] = .ok (.int n) [some (tabD false g t), some (.int k)] := methF_ok (rdF_ok rfl fz_tab rfl) (recv_tab (by decide)) rfl (count_ hg)
  have hc : callF run_is_between [] (argApp (argV (rdF 1) args0) (argV (okC (.int 1)) (argV (methF 0 "count" run_Table_count (rdF 0) args0 []) args0))) [some (tabD false g t), some (.int k)] = .ok (.bl true) [some (tabD false g t), some (.int k)] := by
    refine callF_ok (ds := [.int k, .int 1, .int n]) (e := [some (tabD false g t), some (.int k)]) ?_ (between_ok h0 h1) rfl
    simp [argApp, argV, rdF, D.fz, R.bind, args0, okC, hm]
  exact notB_ok (asB_ok hc)
/-- what a table says -/
structure At2 (g : List (List Int)) (x y z : Int) : Prop where
  ex : ∃ r, g[(x - 1).toNat]? = some r ∧ r[(y - 1).toNat]? = some z
theorem at2_ {n : Nat} {g : List (List Int)} {P : Int → Prop} (hg : SqG n g P) {x y : Int} (x0 : 1 ≤ x) (x1 : x ≤ n) (y0 : 1 ≤ y) (y1 : y ≤ n) : ∃ z, At2 g x y z ∧ P z := by
  obtain ⟨r, e1, e2⟩ := atI_in (xs := g) (i := x - 1) (by omega) (by rw [hg.1]; omega)
  have hr := hg.2 r (List.mem_of_getElem? e2)
  obtain ⟨z, e3, e4⟩ := atI_in (xs := r) (i := y - 1) (by omega) (by rw [hr.1]; omega)
  exact ⟨z, ⟨r, e2, e4⟩, hr.2 z (List.mem_of_getElem? e4)⟩
theorem ixF_t1 {g : List (List Int)} {i : Int} {r : List Int} (h0 : 0 ≤ i) (h1 : g[i.toNat]? = some r) : ixF (.tup (g.map tupR)) (.int i) = some (tupR r) := by
  have hl := (List.getElem?_eq_some_iff.mp h1).1
  have : L2.atI (g.map tupR) i = some (tupR r) := by
    rw [atI_map_]
    unfold L2.atI
    rw [ixN_in h0 (by omega)]
    simp [h1]
  simp [ixF, ixD, this, D.noOwn]
theorem ixF_t2 {r : List Int} {i z : Int} (h0 : 0 ≤ i) (h1 : r[i.toNat]? = some z) : ixF (tupR r) (.int i) = some (.int z) := by
  have hl := (List.getElem?_eq_some_iff.mp h1).1
  have : L2.atI (r.map D.int) i = some (.int z) := by
    rw [atI_map_]
    unfold L2.atI
    rw [ixN_in h0 (by omega)]
    simp [h1]
  simp [ixF, ixD, this, D.noOwn]
theorem ixF_l1 {o : Bool} {g : List (List Int)} {i : Int} {r : List Int} (h0 : 0 ≤ i) (h1 : g[i.toNat]? = some r) : ixF (gridD o false g) (.int i) = some (rowD_ false r) := by
  have hl := (List.getElem?_eq_some_iff.mp h1).1
  obtain ⟨r', e, h⟩ := ixF_rows (o := o) h0 (show i < g.length by omega)
  rw [h1] at e
  rw [h, ← Option.some.inj e]
theorem ixF_l2 {o : Bool} {r : List Int} {i z : Int} (h0 : 0 ≤ i) (h1 : r[i.toNat]? = some z) : ixF (rowD_ o r) (.int i) = some (.int z) := by
  have hl := (List.getElem?_eq_some_iff.mp h1).1
  obtain ⟨z', e, h⟩ := ixF_row (o := o) h0 (show i < r.length by omega)
  rw [h1] at e
  rw [h, ← Option.some.inj e]
theorem join_ {n : Nat} {g t : List (List Int)} {x y z : Int} (hg : g.length = n) (x0 : 1 ≤ x) (x1 : x ≤ n) (y0 : 1 ≤ y) (y1 : y ≤ n) (hz : At2 g x y z) : run_Table_join [tabD false g t, .int x, .int y] = .ok (.int z) [some (tabD false g t), some (.int x), some (.int y)] := by
  obtain ⟨r, h1, h2⟩ := hz.ex
  refine defF_rt (e := [some (tabD false g t), some (.int x), some (.int y)]) (seqO_nx (e1 := [some (tabD false g t), some (.int x), some (.int y)]) (dropO_nx (methF_ok (rdF_ok rfl fz_tab rfl) (recv_tab (by decide)) (ds := [.int x]) (by simp [argV, rdF, D.fz, R.bind, args0]) (check_kind_ hg x0 x1))) (seqO_nx (e1 := [some (tabD false g t), some (.int x), some (.int y)]) (dropO_nx (methF_ok (rdF_ok rfl fz_tab rfl) (recv_tab (by decide)) (ds := [.int y]) (by simp [argV, rdF, D.fz, R.bind, args0]) (check_kind_ hg y0 y1))) (retO_rt (lift2_ok (lift2_ok (d := .tup (g.map tupR)) (d2 := .int (x - 1)) (e1 := [some (tabD false g t), some (.int x), some (.int y)]) (e2 := [some (tabD false g t), some (.int x), some (.int y)]) ?_ ?_ (ixF_t1 (by omega) h1)) (d2 := .int (y - 1)) (e2 := [some (tabD false g t), some (.int x), some (.int y)]) ?_ (ixF_t2 (by omega) h2))))) rfl
  · simp [toT, fldB, rdB, lookD, D.noOwn, noOwnL_tups]
  · simp [lift2, rdF, D.fz, R.bind, okC, subD]
  · simp [lift2, rdF, D.fz, R.bind, okC, subD]
theorem toll_ {n : Nat} {g t : List (List Int)} {x y z : Int} (hg : g.length = n) (x0 : 1 ≤ x) (x1 : x ≤ n) (y0 : 1 ≤ y) (y1 : y ≤ n) (hz : At2 t x y z) : run_Table_toll [tabD false g t, .int x, .int y] = .ok (.int z) [some (tabD false g t), some (.int x), some (.int y)] := by
  obtain ⟨r, h1, h2⟩ := hz.ex
  refine defF_rt (e := [some (tabD false g t), some (.int x), some (.int y)]) (seqO_nx (e1 := [some (tabD false g t), some (.int x), some (.int y)]) (dropO_nx (methF_ok (rdF_ok rfl fz_tab rfl) (recv_tab (by decide)) (ds := [.int x]) (by simp [argV, rdF, D.fz, R.bind, args0]) (check_kind_ hg x0 x1))) (seqO_nx (e1 := [some (tabD false g t), some (.int x), some (.int y)]) (dropO_nx (methF_ok (rdF_ok rfl fz_tab rfl) (recv_tab (by decide)) (ds := [.int y]) (by simp [argV, rdF, D.fz, R.bind, args0]) (check_kind_ hg y0 y1))) (retO_rt (lift2_ok (lift2_ok (d := .tup (t.map tupR)) (d2 := .int (x - 1)) (e1 := [some (tabD false g t), some (.int x), some (.int y)]) (e2 := [some (tabD false g t), some (.int x), some (.int y)]) ?_ ?_ (ixF_t1 (by omega) h1)) (d2 := .int (y - 1)) (e2 := [some (tabD false g t), some (.int x), some (.int y)]) ?_ (ixF_t2 (by omega) h2))))) rfl
  · have hne : ¬ ("prices" : Str) = "results" := by decide
    have hne2 : ¬ ("results" : Str) = "prices" := by decide
    simp [toT, fldB, rdB, lookD, D.noOwn, noOwnL_tups, hne, hne2]
  · simp [lift2, rdF, D.fz, R.bind, okC, subD]
  · simp [lift2, rdF, D.fz, R.bind, okC, subD]
/-! grids read, and the parts of a law, purely -/
def jn (g : List (List Int)) (x y : Int) : Int := ((g[(x - 1).toNat]?.getD [])[(y - 1).toNat]?).getD 0
theorem jn_at {n : Nat} {g : List (List Int)} {P : Int → Prop} (hg : SqG n g P) {x y : Int} (x0 : 1 ≤ x ∧ x ≤ n) (y0 : 1 ≤ y ∧ y ≤ n) : At2 g x y (jn g x y) ∧ P (jn g x y) := by
  obtain ⟨z, hz, pz⟩ := at2_ hg x0.1 x0.2 y0.1 y0.2
  obtain ⟨r, h1, h2⟩ := hz.ex
  have : jn g x y = z := by simp only [jn, h1, h2, Option.getD_some]
  rw [this]
  exact ⟨hz, pz⟩
theorem resultC_ {d : D} {c0 way n x y : Int} (s : Wel d c0) (hc : c0 < 800000000) (w0 : 0 ≤ way) (w1 : way < 10) (n1 : 1 ≤ n) (n5 : n ≤ 5) (x0 : 0 ≤ x) (x1 : x < n) (y0 : 0 ≤ y) (y1 : y < n) : ∃ r d', (0 ≤ r ∧ r < n) ∧ Wel d' (c0 + 1) ∧ run_Lresult [d, .int way, .int n, .int x, .int y] = .ok (.int r) [some d', some (.int way), some (.int n), some (.int x), some (.int y)] := by
  by_cases h : way < 3
  · obtain ⟨r, d', r0, r1, s1, e1⟩ := drawC_ (n := n) s (by omega) (by omega) (by omega)
    refine ⟨r, d', ⟨r0, r1⟩, s1, eq_of_Wr fun Q hQ => ?_⟩
    rw [ws_Lresult]
    simp_arith [wb_Lresult, e1]
    exact hQ
  · obtain ⟨z, hz, -⟩ := atI_in (xs := [0, x, y, max x y, (x + y) % n, x * y % n, x - x % 2 + y % 2]) (i := way - 3) (by omega) (by simp; omega)
    have hz2 : L2.atI [D.int 0, .int x, .int y, .int (max x y), .int ((x + y) % n), .int (x * y % n), .int (x - x % 2 + y % 2)] (way - 3) = some (.int z) := by
      have := atI_map_ D.int [0, x, y, max x y, (x + y) % n, x * y % n, x - x % 2 + y % 2] (way - 3)
      rw [hz] at this
      exact this
    refine ⟨z % n, d, ⟨Int.emod_nonneg _ (by omega), Int.emod_lt_of_pos _ (by omega)⟩, s.mono (by omega), eq_of_Wr fun Q hQ => ?_⟩
    rw [ws_Lresult]
    simp_arith [wb_Lresult, hz2]
    exact hQ
def Pos (t : List (List Int)) (p q : Nat) : Prop := ∃ r, t[p]? = some r ∧ ∃ z, r[q]? = some z ∧ 1 ≤ z
theorem pos_put {n : Nat} {t : List (List Int)} {P : Int → Prop} {r : List Int} {i j : Nat} {v : Int} (h : SqG n t P) (hr : t[i]? = some r) (hj : j < n) (hv : 1 ≤ v) : Pos (t.set i (r.set j v)) i j := by
  have hl := (List.getElem?_eq_some_iff.mp hr).1
  have h2 := (h.2 r (List.mem_of_getElem? hr)).1
  exact ⟨r.set j v, by simp [hl], v, by simp [h2, hj], hv⟩
theorem pos_keep {t : List (List Int)} {r : List Int} {i j : Nat} {v : Int} (hr : t[i]? = some r) (hv : 1 ≤ v) {p q : Nat} (h : Pos t p q) : Pos (t.set i (r.set j v)) p q := by
  obtain ⟨r2, h1, z, h2, hz⟩ := h
  have hl := (List.getElem?_eq_some_iff.mp hr).1
  by_cases e : i = p
  · subst e
    rw [hr] at h1
    obtain rfl := Option.some.inj h1
    have hl2 := (List.getElem?_eq_some_iff.mp h2).1
    refine ⟨r.set j v, by simp [hl], ?_⟩
    by_cases e2 : j = q
    · subst e2
      exact ⟨v, by simp [hl2], hv⟩
    · exact ⟨z, by rw [List.getElem?_set_ne e2]; exact h2, hz⟩
  · exact ⟨r2, by rw [List.getElem?_set_ne e]; exact h1, z, h2, hz⟩
theorem mul_rep {n : Nat} {a : Int} (h : n ≤ 1000) : mulD (.lst true [.int a]) (.int n) = some (.lst true ((List.replicate n a).map D.int)) := by
  have h1 : (-(2 ^ 63) : Int) ≤ n := by omega
  have h2 : (n : Int) < 2 ^ 63 := by omega
  have h3 : [D.int a].length * n ≤ 1000000 := by simp; omega
  have h4 : D.noOwnL [.int a] = true := rfl
  unfold mulD
  simp only [h1, h2, h3, h4, decide_true, Bool.and_self, if_true, Int.toNat_natCast]
  congr 2
  clear h h1 h2 h3
  induction n with
  | zero => rfl
  | succ n ih => rw [List.replicate_succ, List.replicate_succ, List.flatten_cons, ih]; rfl
theorem joinsC_ {d : D} {c0 : Int} (s : Wel d c0) (hc : c0 < 700000000) : ∃ (n : Nat) (g : List (List Int)) (d' : D), 1 ≤ n ∧ n ≤ 5 ∧ SqG n g (fun z => 1 ≤ z ∧ z ≤ n) ∧ Wel d' (c0 + 50) ∧ run_Ljoins [d, .int 5] = .ok (gridD true true g) [some d', some (.int 5)] := by
  have key : Wr (run_Ljoins [d, .int 5]) (fun r e => ∃ (n : Nat) (g : List (List Int)) (d' : D), 1 ≤ n ∧ n ≤ 5 ∧ SqG n g (fun z => 1 ≤ z ∧ z ≤ n) ∧ Wel d' (c0 + 50) ∧ r = gridD true true g ∧ e = [some d', some (.int 5)]) noX := by
    obtain ⟨a, d1, a0, a1, s1, e1⟩ := drawC_ (n := 5) s (by omega) (by omega) (by omega)
    obtain ⟨n, hn⟩ : ∃ n : Nat, 1 + a = n := ⟨(1 + a).toNat, by omega⟩
    obtain ⟨way, d2, w0, w1, s2, e2⟩ := drawC_ (n := 10) s1 (by omega) (by omega) (by omega)
    obtain ⟨ms, d3, hp, s3, e3⟩ := shuffled_ (o := true) (ns := (List.range n).map fun i : Nat => (i : Int)) s2 (by omega) (by simp; omega)
    have hml : ms.length = n := by rw [hp.length_eq]; simp
    have hmem : ∀ z ∈ ms, 0 ≤ z ∧ z < n := fun z hz => by
      have := hp.mem_iff.mp hz
      simp only [List.mem_map, List.mem_range] at this
      obtain ⟨i, hi, rfl⟩ := this
      omega
    have hnm : ∀ i : Int, 0 ≤ i → i < n → 0 ≤ ms.getD i.toNat 0 ∧ ms.getD i.toNat 0 < n := fun i h0 h1 => by
      have hl : i.toNat < ms.length := by omega
      have := hmem (ms.getD i.toNat 0) (by simp [hl])
      exact this
    have hat : ∀ i : Int, 0 ≤ i → i < n → L2.atI (ms.map D.int) i = some (.int (ms.getD i.toNat 0)) := fun i h0 h1 => by
      obtain ⟨z, hz, hz2⟩ := atI_in (xs := ms) h0 (by omega)
      rw [atI_map_, hz, List.getD_eq_getElem?_getD, hz2]
      rfl
    have e3' : run_Lshuffled [d2, .lst true ((List.range n).map fun i : Nat => D.int (i : Int))] = .ok (rowD_ true ms) [some d3, some (.lst false ((List.range n).map fun i : Nat => D.int (i : Int)))] := by
      have := e3
      simp only [rowD_, List.map_map] at this
      exact this
    rw [ws_Ljoins]
    simp_arith [wb_Ljoins, e1, hn, e2, Int.sub_zero, e3']
    refine W_comp (fun j acc e => acc = (List.replicate j (List.replicate n (0 : Int))).map (fun r => rowD_ true r) ∧ e = [some d3, some (.int 5), some (.int n), some (.int way), some (rowD_ true ms), none, none, none]) ⟨rfl, rfl⟩ ?_ ?_
    · rintro j dd acc e hd ⟨rfl, rfl⟩
      have mr := mul_rep (n := n) (a := 0) (by omega)
      simp_arith [wz_cb, wz_cbt, wz_cbS, mr]
      rw [List.replicate_succ']
      simp
    rintro acc e ⟨rfl, rfl⟩
    rw [wl_len]
    simp_arith [wb_Ljoins]
    refine W_for (fun i e => ∃ (ob : Bool) (t : List (List Int)) (d' : D) (o6 o7 : Option D), SqG n t (fun z => 0 ≤ z ∧ z ≤ n) ∧ (∀ a b : Nat, a < i → b < n → Pos t (ms.getD a 0).toNat (ms.getD b 0).toNat) ∧ Wel d' (c0 + 12 + 6 * i) ∧ e = [some d', some (.int 5), some (.int n), some (.int way), some (rowD_ ob ms), some (gridD true true t), o6, o7]) ⟨true, List.replicate n (List.replicate n 0), d3, none, none, ⟨by simp, fun r hr => ?_⟩, fun a b h => absurd h (Nat.not_lt_zero a), s3.mono (by simp; omega), rfl⟩ ?_ ?_
    · rw [List.eq_of_mem_replicate hr]
      exact ⟨by simp, fun z hz => by rw [List.eq_of_mem_replicate hz]; omega⟩
    · rintro i dd e hd ⟨ob, t, d4, o6, o7, ht, hpos, s4, rfl⟩
      have hi := (wl_get hd).1
      have hX := (wl_get hd).2
      subst hX
      simp_arith [wb_Ljoins]
      refine W_for (fun j e => ∃ (ob : Bool) (t : List (List Int)) (d' : D) (o7 : Option D), SqG n t (fun z => 0 ≤ z ∧ z ≤ n) ∧ (∀ a b : Nat, a < i → b < n → Pos t (ms.getD a 0).toNat (ms.getD b 0).toNat) ∧ (∀ b : Nat, b < j → Pos t (ms.getD i 0).toNat (ms.getD b 0).toNat) ∧ Wel d' (c0 + 12 + 6 * i + j) ∧ e = [some d', some (.int 5), some (.int n), some (.int way), some (rowD_ ob ms), some (gridD true true t), some (.int (i : Int)), o7]) ⟨ob, t, d4, o7, ht, hpos, fun b h => absurd h (Nat.not_lt_zero b), s4.mono (by omega), rfl⟩ ?_ ?_
      · rintro j dd e hd ⟨ob, t, d4, o7, ht, hpos, hpos2, s4, rfl⟩
        obtain ⟨hj, rfl⟩ := wl_get hd
        obtain ⟨r, d5, ⟨r0, r1⟩, s5, e5⟩ := resultC_ (way := way) (n := n) (x := i) (y := j) s4 (by omega) (by omega) (by omega) (by omega) (by omega) (by omega) (by omega) (by omega) (by omega)
        have ni := hnm i (by omega) (by omega)
        have nj := hnm j (by omega) (by omega)
        have nr := hnm r (by omega) (by omega)
        rw [Int.toNat_natCast] at ni nj
        generalize hp1 : ms.getD i 0 = p at *
        generalize hq1 : ms.getD j 0 = q at *
        have hlt : t.length = n := ht.1
        obtain ⟨row, hrow⟩ : ∃ row, t[p.toNat]? = some row := ⟨_, List.getElem?_eq_getElem (by omega)⟩
        have hrl := (ht.2 row (List.mem_of_getElem? hrow)).1
        have hrow2 : (t.map fun r => rowD_ true r)[p.toNat]? = some (.lst true (row.map D.int)) := by rw [List.getElem?_map, hrow]; rfl
        simp_arith [wb_Ljoins, e5, hat, hp1, hq1, hrow2]
        refine ⟨false, t.set p.toNat (row.set q.toNat (ms.getD r.toNat 0 + 1)), d5, some (.int j), sq_put ht hrow ⟨by omega, by omega⟩, fun a b ha hb => pos_keep hrow (by omega) (hpos a b ha hb), fun b hb => ?_, s5.mono (by omega), by simp [List.map_set, rowD_]⟩
        by_cases e : b = j
        · subst e
          rw [hq1]
          exact pos_put ht hrow (by omega) (by omega)
        · exact pos_keep hrow (by omega) (hpos2 b (by omega))
      · rintro e ⟨ob, t, d4, o7, ht, hpos, hpos2, s4, rfl⟩
        rw [wl_len] at hpos2 s4
        refine ⟨_, t, d4, _, o7, ht, fun a b ha hb => ?_, s4.mono (by omega), rfl⟩
        by_cases e : a = i
        · subst e; exact hpos2 b hb
        · exact hpos a b (by omega) hb
    · rintro e ⟨ob, t, d4, o6, o7, ht, hpos, s4, rfl⟩
      rw [wl_len] at hpos s4
      simp_arith [wb_Ljoins]
      refine ⟨n, t, d4, by omega, by omega, ⟨ht.1, fun r hr => ⟨(ht.2 r hr).1, fun z hz => ⟨?_, ((ht.2 r hr).2 z hz).2⟩⟩⟩, s4.mono (by omega), rfl, rfl⟩
      have sur : ∀ p : Nat, p < n → ∃ a : Nat, a < n ∧ (ms.getD a 0).toNat = p := fun p hp' => by
        have : (p : Int) ∈ ms := hp.mem_iff.mpr (List.mem_map.mpr ⟨p, List.mem_range.mpr hp', rfl⟩)
        obtain ⟨a, ha⟩ := List.getElem?_of_mem this
        refine ⟨a, ?_, by rw [List.getD_eq_getElem?_getD, ha]; rfl⟩
        have := (List.getElem?_eq_some_iff.mp ha).1
        omega
      obtain ⟨p, hp1⟩ := List.getElem?_of_mem hr
      obtain ⟨q, hq1⟩ := List.getElem?_of_mem hz
      have hpl := (List.getElem?_eq_some_iff.mp hp1).1
      have hql := (List.getElem?_eq_some_iff.mp hq1).1
      obtain ⟨a, ha, ea⟩ := sur p (by rw [← ht.1]; exact hpl)
      obtain ⟨b, hb, eb⟩ := sur q (by rw [← (ht.2 r hr).1]; exact hql)
      obtain ⟨r2, h1, z2, h2, hz2⟩ := hpos a b ha hb
      rw [ea, hp1] at h1
      obtain rfl := Option.some.inj h1
      rw [eb, hq1] at h2
      obtain rfl := Option.some.inj h2
      exact hz2
  obtain ⟨r, e, h, n, g, d', h1, h2, h3, h4, rfl, rfl⟩ := key.ok
  exact ⟨n, g, d', h1, h2, h3, h4, h⟩
/-! grids and tables for the symbolic steps -/
theorem gx1 {n : Nat} {g : List (List Int)} {P : Int → Prop} (hg : SqG n g P) : ∀ (o : Bool) (i : Int), 0 ≤ i → i < n → ixF (gridD o false g) (.int i) = some (rowD_ false (g.getD i.toNat [])) := fun o i h0 h1 => by
  have hl : i.toNat < g.length := by rw [hg.1]; omega
  rw [ixF_l1 (r := g.getD i.toNat []) h0 (by simp [hl])]
theorem gx2 {n : Nat} {g : List (List Int)} {P : Int → Prop} (hg : SqG n g P) : ∀ (o : Bool) (i j : Int), 0 ≤ i → i < n → 0 ≤ j → j < n → ixF (rowD_ o (g.getD i.toNat [])) (.int j) = some (.int (jn g (i + 1) (j + 1))) := fun o i j h0 h1 h2 h3 => by
  have hl : i.toNat < g.length := by rw [hg.1]; omega
  have hr : (g.getD i.toNat []).length = n := by
    have := hg.2 (g.getD i.toNat []) (by simp [hl])
    exact this.1
  have hj : j.toNat < (g.getD i.toNat []).length := by rw [hr]; omega
  rw [ixF_l2 (z := jn g (i + 1) (j + 1)) h2 ?_]
  have e1 : i + 1 - 1 = i := by omega
  have e2 : j + 1 - 1 = j := by omega
  simp only [jn, e1, e2]
  simp only [List.getD_eq_getElem?_getD] at hj ⊢
  simp [hj]
theorem tj {n : Nat} {g t : List (List Int)} {P : Int → Prop} (hg : SqG n g P) : ∀ x y : Int, 1 ≤ x → x ≤ n → 1 ≤ y → y ≤ n → run_Table_join [tabD false g t, .int x, .int y] = .ok (.int (jn g x y)) [some (tabD false g t), some (.int x), some (.int y)] := fun x y h0 h1 h2 h3 => join_ hg.1 h0 h1 h2 h3 (jn_at hg ⟨h0, h1⟩ ⟨h2, h3⟩).1
theorem tt {n : Nat} {g t : List (List Int)} {P P' : Int → Prop} (hg : SqG n g P') (ht : SqG n t P) : ∀ x y : Int, 1 ≤ x → x ≤ n → 1 ≤ y → y ≤ n → run_Table_toll [tabD false g t, .int x, .int y] = .ok (.int (jn t x y)) [some (tabD false g t), some (.int x), some (.int y)] := fun x y h0 h1 h2 h3 => toll_ hg.1 h0 h1 h2 h3 (jn_at ht ⟨h0, h1⟩ ⟨h2, h3⟩).1
theorem rtab {g t : List (List Int)} {o : Bool} {m : Str} (h : (["results", "prices"] : List Str).contains m = false) : (recv 0 m (tabD o g t) = true) = True := eq_true (recv_tab h)
theorem rj {g t : List (List Int)} {o : Bool} : (recv 0 "join" (tabD o g t) = true) = True := rtab (by decide)
theorem rt {g t : List (List Int)} {o : Bool} : (recv 0 "toll" (tabD o g t) = true) = True := rtab (by decide)
theorem rc {g t : List (List Int)} {o : Bool} : (recv 0 "count" (tabD o g t) = true) = True := rtab (by decide)
theorem jr {n : Nat} {g : List (List Int)} {P : Int → Prop} (hg : SqG n g P) {x y : Int} (h0 : 1 ≤ x ∧ x ≤ n) (h1 : 1 ≤ y ∧ y ≤ n) : P (jn g x y) := (jn_at hg h0 h1).2
theorem left_first_ {n : Nat} {g t : List (List Int)} {P : Int → Prop} {x y z : Int} (hg : SqG n g (fun z => 1 ≤ z ∧ z ≤ n)) (ht : SqG n t P) (hx : 1 ≤ x ∧ x ≤ n) (hy : 1 ≤ y ∧ y ≤ n) (hz : 1 ≤ z ∧ z ≤ n) :
    run_left_first [tabD false g t, .tup [.int x, .int y, .int z]] = .ok (.tup [.int (jn g (jn g x y) z), .int (jn t x y + jn t (jn g x y) z)]) [some (tabD false g t), some (.tup [.int x, .int y, .int z])] := by
  have h1 := jr hg hx hy
  refine eq_of_Wr fun Q hQ => ?_
  rw [ws_left_first]
  simp_arith [wb_left_first, fzL_tups, noOwnL_tups, tj hg, tt hg ht, rj, rt]
  exact hQ
theorem right_first_ {n : Nat} {g t : List (List Int)} {P : Int → Prop} {x y z : Int} (hg : SqG n g (fun z => 1 ≤ z ∧ z ≤ n)) (ht : SqG n t P) (hx : 1 ≤ x ∧ x ≤ n) (hy : 1 ≤ y ∧ y ≤ n) (hz : 1 ≤ z ∧ z ≤ n) :
    run_right_first [tabD false g t, .tup [.int x, .int y, .int z]] = .ok (.tup [.int (jn g x (jn g y z)), .int (jn t y z + jn t x (jn g y z))]) [some (tabD false g t), some (.tup [.int x, .int y, .int z])] := by
  have h1 := jr hg hy hz
  refine eq_of_Wr fun Q hQ => ?_
  rw [ws_right_first]
  simp_arith [wb_right_first, fzL_tups, noOwnL_tups, tj hg, tt hg ht, rj, rt]
  exact hQ
theorem between' {v lo hi : Int} (h0 : lo ≤ v) (h1 : v ≤ hi) : run_is_between [.int v, .int lo, .int hi] = .ok (.bl true) [some (.int v), some (.int lo), some (.int hi)] := between_ok h0 h1
theorem eqD_pair (a b c d : Int) : eqD (.tup [.int a, .int b]) (.tup [.int c, .int d]) = some (.bl (eqI a c && eqI b d)) := by
  simp [eqD, shp, D.okP, D.okPL, D.toP, D.toPL, SeqAt.shaped, PyData.canLay0, PyData.canLayAll0, PyData.depth, PyData.depthAll, PyData.eqv, PyData.eqvAll, eqI]
/-! three: what it answers -/
def triL (n : Nat) : List (List Int) := (List.range n).flatMap fun i => (List.range n).flatMap fun j => (List.range n).map fun k => [(1 : Int) + (i : Nat), 1 + (j : Nat), 1 + (k : Nat)]
theorem triL_mem {n : Nat} {r : List Int} : r ∈ triL n ↔ ∃ x y z : Int, r = [x, y, z] ∧ (1 ≤ x ∧ x ≤ n) ∧ (1 ≤ y ∧ y ≤ n) ∧ 1 ≤ z ∧ z ≤ n := by
  unfold triL
  simp only [List.mem_flatMap, List.mem_range, List.mem_map]
  constructor
  · rintro ⟨i, hi, j, hj, k, hk, rfl⟩
    exact ⟨_, _, _, rfl, by omega, by omega, by omega, by omega⟩
  · rintro ⟨x, y, z, rfl, hx, hy, hz⟩
    refine ⟨(x - 1).toNat, by omega, (y - 1).toNat, by omega, (z - 1).toNat, by omega, ?_⟩
    rw [show (1 : Int) + ((x - 1).toNat : Nat) = x by omega, show (1 : Int) + ((y - 1).toNat : Nat) = y by omega, show (1 : Int) + ((z - 1).toNat : Nat) = z by omega]
theorem triples_ : ∀ n : Nat, 1 ≤ n → n ≤ 5 → run_triples [.int n] = .ok (.lst true ((triL n).map tupR)) [some (.int n)]
  | 1, _, _ => by rfl
  | 2, _, _ => by rfl
  | 3, _, _ => by rfl
  | 4, _, _ => by rfl
  | 5, _, _ => by rfl
  | n + 6, _, h => by omega
/-- left's and right's way -/
def lwy (g t : List (List Int)) (x y z : Int) : Int × Int := (jn g (jn g x y) z, jn t x y + jn t (jn g x y) z)
def rwy (g t : List (List Int)) (x y z : Int) : Int × Int := (jn g x (jn g y z), jn t y z + jn t x (jn g y z))
def InK (n : Nat) (x : Int) : Prop := 1 ≤ x ∧ x ≤ n
/-- |z| at most b -/
def Bd (b z : Int) : Prop := -b ≤ z ∧ z ≤ b
theorem Bd.mono {b c z : Int} (h : Bd b z) (l : b ≤ c) : Bd c z := ⟨by have := h.1; omega, by have := h.2; omega⟩
theorem by_worths_ {n : Nat} {g : List (List Int)} {ws : List Int} {o1 o2 : Bool} {b : Int} (hg : SqG n g (fun z => 1 ≤ z ∧ z ≤ n)) (hw : ws.length = n) (hb : ∀ z ∈ ws, Bd b z) (n5 : n ≤ 5) : ∃ t, SqG n t (Bd (3 * b)) ∧ run_Lby_worths [gridD o1 o2 g, rowD_ false ws] = .ok (gridD true true t) [some (gridD false false g), some (rowD_ false ws)] := by
  have hat : ∀ i : Int, 0 ≤ i → i < n → L2.atI (ws.map D.int) i = some (.int (ws.getD i.toNat 0)) := fun i h0 h1 => by
    obtain ⟨z, hz, hz2⟩ := atI_in (xs := ws) h0 (by omega)
    rw [atI_map_, hz, List.getD_eq_getElem?_getD, hz2]
    rfl
  have hB : ∀ i : Int, 0 ≤ i → i < n → Bd b (ws.getD i.toNat 0) := fun i h0 h1 => hb _ (by
    have hl : i.toNat < ws.length := by omega
    simp [hl])
  have key : Wr (run_Lby_worths [gridD o1 o2 g, rowD_ false ws]) (fun r e => ∃ t, SqG n t (Bd (3 * b)) ∧ r = gridD true true t ∧ e = [some (gridD false false g), some (rowD_ false ws)]) noX := by
    rw [ws_Lby_worths]
    simp_arith [wb_Lby_worths]
    refine W_for (fun i e => ∃ t o3 o4, t.length = i ∧ (∀ r ∈ t, r.length = n ∧ ∀ z ∈ r, Bd (3 * b) z) ∧ e = [some (gridD false false g), some (rowD_ false ws), some (gridD true true t), o3, o4, none, none]) ⟨[], none, none, rfl, fun _ h => absurd h List.not_mem_nil, rfl⟩ ?_ ?_
    · rintro i dd e hd ⟨t, o3, o4, ht, hr, rfl⟩
      obtain ⟨x, hx, rfl⟩ := enumD_at hd
      rw [List.getElem?_map, Option.map_eq_some_iff] at hx
      obtain ⟨r, hx, rfl⟩ := hx
      have hi : i < n := by rw [← hg.1]; exact (List.getElem?_eq_some_iff.mp hx).1
      have hrr := hg.2 r (List.mem_of_getElem? hx)
      have hel : (enumD 0 (r.map D.int)).length ≤ 1000 := by rw [enumD_length, List.length_map, hrr.1]; omega
      simp_arith [wb_Lby_worths]
      refine W_comp (fun j acc e => ∃ zs : List Int, acc = zs.map D.int ∧ zs.length = j ∧ (∀ z ∈ zs, Bd (3 * b) z) ∧ e = [some (gridD false false g), some (rowD_ false ws), some (gridD true true t), some (.int (i : Int)), some (rowD_ false r), none, none]) ⟨[], rfl, rfl, fun _ h => absurd h List.not_mem_nil, rfl⟩ ?_ ?_
      · rintro j dd acc e hd ⟨zs, rfl, hl, hz, rfl⟩
        obtain ⟨x, hx, rfl⟩ := enumD_at hd
        rw [List.getElem?_map, Option.map_eq_some_iff] at hx
        obtain ⟨k, hx, rfl⟩ := hx
        have hj : j < n := by rw [← hrr.1]; exact (List.getElem?_eq_some_iff.mp hx).1
        have hk := hrr.2 k (List.mem_of_getElem? hx)
        have b1 := hB i (by omega) (by omega)
        have b2 := hB j (by omega) (by omega)
        have b3 := hB (k - 1) (by omega) (by omega)
        simp_arith [wz_cb, wz_cbt, wz_cbS, hat]
        exact ⟨zs ++ [ws.getD i 0 + ws.getD j 0 - ws.getD (k - 1).toNat 0], by simp, by simp [hl], fun z h => by
          rcases List.mem_append.mp h with h | h
          · exact hz z h
          · rw [List.mem_singleton] at h
            subst h
            simp only [Int.toNat_natCast] at b1 b2
            exact ⟨by have := b1.1; have := b2.1; have := b3.2; omega, by have := b1.2; have := b2.2; have := b3.1; omega⟩⟩
      · rintro acc e ⟨zs, rfl, hl, hz, rfl⟩
        rw [enumD_length, List.length_map] at hl
        simp_arith [wb_Lby_worths]
        exact ⟨t ++ [zs], some (.int i), some (rowD_ false r), by simp [ht], fun q hq => by
          rcases List.mem_append.mp hq with h | h
          · exact hr q h
          · rw [List.mem_singleton] at h
            subst h
            exact ⟨by rw [hl]; exact hrr.1, hz⟩, by simp [rowD_]⟩
    · rintro e ⟨t, o3, o4, ht, hr, rfl⟩
      simp_arith [wb_Lby_worths]
      exact ⟨t, ⟨by rw [ht, enumD_length, List.length_map, hg.1], hr⟩, rfl⟩
  obtain ⟨r, e, h, t, h1, rfl, rfl⟩ := key.ok
  exact ⟨t, h1, h⟩
theorem wide_ {d : D} {c0 : Int} (s : Wel d c0) (hc : c0 < 800000000) : ∃ (w : Int) (d' : D), 2 ≤ w ∧ w ≤ 10000000000 ∧ Wel d' (c0 + 1) ∧ run_Lone [d, .lst true [.int 2, .int 7, .int 100, .int 10000000000]] = .ok (.int w) [some d', some (.lst false [.int 2, .int 7, .int 100, .int 10000000000])] := by
  obtain ⟨x, d', hx, s1, e1⟩ := oneC_ (o := true) (xs := [.int 2, .int 7, .int 100, .int 10000000000]) s (by omega) (by simp) (by simp)
  simp only [List.mem_cons, List.not_mem_nil, or_false] at hx
  rcases hx with rfl | rfl | rfl | rfl
  · exact ⟨2, d', by omega, by omega, s1, e1⟩
  · exact ⟨7, d', by omega, by omega, s1, e1⟩
  · exact ⟨100, d', by omega, by omega, s1, e1⟩
  · exact ⟨10000000000, d', by omega, by omega, s1, e1⟩
theorem pow10 : powD (.int 10) (.int 10) = some (.int 10000000000) := by simp [powD]
theorem tollsC_ {d : D} {c0 m : Int} {n : Nat} {g : List (List Int)} {o1 o2 : Bool} (s : Wel d c0) (hc : c0 < 700000000) (hg : SqG n g (fun z => 1 ≤ z ∧ z ≤ n)) (n1 : 1 ≤ n) (n5 : n ≤ 5) (m0 : 2 ≤ m) (m1 : m ≤ 1000000) : ∃ (t : List (List Int)) (d' : D), SqG n t (fun z => -1000000000000 < z ∧ z < 1000000000000) ∧ Wel d' (c0 + 50) ∧ run_Ltolls [d, gridD o1 o2 g, .int m] = .ok (gridD true true t) [some d', some (gridD false false g), some (.int m)] := by
  have key : Wr (run_Ltolls [d, gridD o1 o2 g, .int m]) (fun r e => ∃ (t : List (List Int)) (d' : D), SqG n t (fun z => -1000000000000 < z ∧ z < 1000000000000) ∧ Wel d' (c0 + 50) ∧ r = gridD true true t ∧ e = [some d', some (gridD false false g), some (.int m)]) noX := by
    obtain ⟨way, d1, w0, w1, s1, e1⟩ := drawC_ (n := 6) s (by omega) (by omega) (by omega)
    obtain ⟨w, d2, v0, v1, s2, e2⟩ := wide_ s1 (by omega)
    have hlen : g.length = n := hg.1
    obtain ⟨bw, hbw, hbi⟩ : ∃ bw : Int, (bw = 0 ∨ bw = 1) ∧ intD (.bl (gtI way 1)) = some (.int bw) := by
      by_cases h : 1 < way
      · exact ⟨1, .inr rfl, by rw [wa_gt1 h]; rfl⟩
      · exact ⟨0, .inl rfl, by rw [wa_gt0 (by omega)]; rfl⟩
    rw [ws_Ltolls]
    simp_arith [wb_Ltolls, e1, e2, pow10, hlen]
    refine W_comp (fun j acc e => ∃ (zs : List Int) (d' : D), acc = zs.map D.int ∧ zs.length = j ∧ (∀ z ∈ zs, Bd w z) ∧ Wel d' (c0 + 2 + j) ∧ e = [some d', some (gridD false false g), some (.int m), some (.int n), some (.int way), some (.int w), none, none, none, none, none, none]) ⟨[], d2, rfl, rfl, fun _ h => absurd h List.not_mem_nil, s2.mono (by omega), rfl⟩ ?_ ?_
    · rintro j dd acc e hd ⟨zs, d', rfl, hl, hz, s', rfl⟩
      obtain ⟨hj, rfl⟩ := wl_get hd
      obtain ⟨q, d3, q0, q1, s3, e3⟩ := drawC_ (n := 2 * w) s' (by omega) (by omega) (by omega)
      simp_arith [wz_cb, wz_cbt, e3, hbi]
      refine ⟨zs ++ [(q - w) * bw], d3, by simp, by simp [hl], fun z h => ?_, s3.mono (by omega), rfl⟩
      rcases List.mem_append.mp h with h | h
      · exact hz z h
      · rw [List.mem_singleton] at h
        subst h
        rcases hbw with rfl | rfl
        · exact ⟨by omega, by omega⟩
        · exact ⟨by omega, by omega⟩
    rintro acc e ⟨ws, d3, rfl, hwl, hw, s3, rfl⟩
    rw [wl_len] at hwl s3
    obtain ⟨t, ht, e4⟩ := by_worths_ (o1 := false) (o2 := false) hg hwl hw n5
    have htl : t.length = n := ht.1
    have hBd : ∀ z : Int, Bd (3 * w) z → -1000000000000 < z - 10000000 ∧ z + 20000010 < 1000000000000 := fun z h => ⟨by have := h.1; omega, by have := h.2; omega⟩
    have hM : ∀ q : Int, 0 ≤ q → q < 7 → -3000000 ≤ m * (q - 3) ∧ m * (q - 3) ≤ 3000000 := fun q h0 h1 => by
      rcases (by omega : q = 0 ∨ q = 1 ∨ q = 2 ∨ q = 3 ∨ q = 4 ∨ q = 5 ∨ q = 6) with rfl | rfl | rfl | rfl | rfl | rfl | rfl <;> omega
    by_cases q1 : way = 1
    · simp_arith [wb_Ltolls, e4]
      refine W_comp (fun j acc e => ∃ (u : List (List Int)) (d' : D), acc = u.map (fun r => rowD_ true r) ∧ u.length = j ∧ (∀ r ∈ u, r.length = n ∧ ∀ z ∈ r, -1000000000000 < z ∧ z < 1000000000000) ∧ Wel d' (c0 + 7 + 6 * j) ∧ e = [some d', some (gridD false false g), some (.int m), some (.int n), some (.int way), some (.int w), some (rowD_ false ws), some (gridD true true t), none, none, none, none]) ⟨[], d3, rfl, rfl, fun _ h => absurd h List.not_mem_nil, s3.mono (by omega), rfl⟩ ?_ ?_
      · rintro j dd acc e hd ⟨u, d', rfl, hl, hz, s', rfl⟩
        have hj := (wl_get hd).1
        have hX := (wl_get hd).2
        subst hX
        simp_arith [wz_cb, wz_cbt]
        refine W_comp (fun k acc e => ∃ (zs : List Int) (d' : D), acc = zs.map D.int ∧ zs.length = k ∧ (∀ z ∈ zs, -1000000000000 < z ∧ z < 1000000000000) ∧ Wel d' (c0 + 7 + 6 * j + k) ∧ e = [some d', some (gridD false false g), some (.int m), some (.int n), some (.int way), some (.int w), some (rowD_ false ws), some (gridD true true t), some (.int (j : Int)), none, none, none]) ⟨[], d', rfl, rfl, fun _ h => absurd h List.not_mem_nil, s'.mono (by omega), rfl⟩ ?_ ?_
        · rintro k dd acc e hd ⟨zs, d', rfl, hl2, hz2, s', rfl⟩
          have hk := (wl_get hd).1
          have hX := (wl_get hd).2
          subst hX
          obtain ⟨q, d4, q0, q1, s4, e5⟩ := drawC_ (n := 2 * w) s' (by omega) (by omega) (by omega)
          simp_arith [wz_cb, wz_cbt, e5]
          refine ⟨zs ++ [q - w], d4, by simp, by simp [hl2], fun z h => ?_, s4.mono (by omega), rfl⟩
          rcases List.mem_append.mp h with h | h
          · exact hz2 z h
          · rw [List.mem_singleton] at h; omega
        · rintro acc e ⟨zs, d', rfl, hl2, hz2, s', rfl⟩
          rw [wl_len] at hl2 s'
          simp_arith [wz_cbS]
          refine ⟨u ++ [zs], d', by simp, by simp [hl], fun r h => ?_, s'.mono (by omega), rfl⟩
          rcases List.mem_append.mp h with h | h
          · exact hz r h
          · rw [List.mem_singleton] at h
            subst h
            exact ⟨hl2, hz2⟩
      · rintro acc e ⟨u, d', rfl, hl, hz, s', rfl⟩
        rw [wl_len] at hl s'
        simp_arith [wb_Ltolls]
        exact ⟨u, d', ⟨hl, hz⟩, s'.mono (by omega), rfl, rfl⟩
    · by_cases q4 : way = 4
      · simp_arith [wb_Ltolls, e4]
        refine W_compP (fun done acc e => ∃ (u : List (List Int)) (d' : D), acc = u.map (fun r => rowD_ true r) ∧ u.length = done.length ∧ (∀ r ∈ u, r.length = n ∧ ∀ z ∈ r, -1000000000000 < z ∧ z < 1000000000000) ∧ Wel d' (c0 + 7 + 6 * done.length) ∧ e = [some d', some (gridD false false g), some (.int m), some (.int n), some (.int way), some (.int w), some (rowD_ false ws), some (gridD false false t), none, none, none, none]) ⟨[], d3, rfl, rfl, fun _ h => absurd h List.not_mem_nil, s3.mono (by simp; omega), rfl⟩ ?_ ?_
        · rintro done r rest acc e hd ⟨u, d', rfl, hl, hz, s', rfl⟩
          have hr := ht.2 r (by rw [hd]; simp)
          have hrl := hr.1
          have hdl : done.length < n := by rw [← htl, hd]; simp
          simp_arith [wz_cb, wz_cbt]
          refine W_compP (fun don acc e => ∃ (zs : List Int) (d' : D), acc = zs.map D.int ∧ zs.length = don.length ∧ (∀ z ∈ zs, -1000000000000 < z ∧ z < 1000000000000) ∧ Wel d' (c0 + 7 + 6 * done.length + don.length) ∧ e = [some d', some (gridD false false g), some (.int m), some (.int n), some (.int way), some (.int w), some (rowD_ false ws), some (gridD false false t), none, none, some (rowD_ false r), none]) ⟨[], d', rfl, rfl, fun _ h => absurd h List.not_mem_nil, s'.mono (by simp), rfl⟩ ?_ ?_
          · rintro don z rest2 acc e hd2 ⟨zs, d', rfl, hl2, hz2, s', rfl⟩
            have hb := hBd z (hr.2 z (by rw [hd2]; simp))
            have hdl2 : don.length < n := by rw [← hrl, hd2]; simp
            obtain ⟨q, d4, q0, q1, s4, e5⟩ := drawC_ (n := 7) s' (by omega) (by omega) (by omega)
            have hm := hM q q0 q1
            simp_arith [wz_cb, wz_cbt, wz_cbS, e5]
            refine ⟨zs ++ [z + m * (q - 3)], d4, by simp, by simp [hl2], fun y h => ?_, s4.mono (by simp; omega), rfl⟩
            rcases List.mem_append.mp h with h | h
            · exact hz2 y h
            · rw [List.mem_singleton] at h; omega
          · rintro acc e ⟨zs, d', rfl, hl2, hz2, s', rfl⟩
            simp_arith [wz_cbS]
            refine ⟨u ++ [zs], d', by simp, by simp [hl], fun r h => ?_, s'.mono (by simp; omega), rfl⟩
            rcases List.mem_append.mp h with h | h
            · exact hz r h
            · rw [List.mem_singleton] at h
              subst h
              exact ⟨by rw [hl2]; exact hrl, hz2⟩
        · rintro acc e ⟨u, d', rfl, hl, hz, s', rfl⟩
          simp_arith [wb_Ltolls]
          exact ⟨u, d', ⟨by rw [hl]; exact htl, hz⟩, s'.mono (by omega), rfl, rfl⟩
      · by_cases q5 : way = 5
        · obtain ⟨x, d4, x0, x1, s4, e5⟩ := drawC_ (n := (n : Int)) s3 (by omega) (by omega) (by omega)
          obtain ⟨y, d5, y0, y1, s5, e6⟩ := drawC_ (n := (n : Int)) s4 (by omega) (by omega) (by omega)
          obtain ⟨q, d6, z0, z1, s6, e7⟩ := drawC_ (n := 2 * m) s5 (by omega) (by omega) (by omega)
          obtain ⟨row, hrow⟩ : ∃ row, t[x.toNat]? = some row := ⟨_, List.getElem?_eq_getElem (by omega)⟩
          have hr := ht.2 row (List.mem_of_getElem? hrow)
          have hrl := hr.1
          obtain ⟨z, hz⟩ : ∃ z, row[y.toNat]? = some z := ⟨_, List.getElem?_eq_getElem (by omega)⟩
          have hb := hBd z (hr.2 z (List.mem_of_getElem? hz))
          have hrow2 : (t.map fun r => rowD_ true r)[x.toNat]? = some (.lst true (row.map D.int)) := by rw [List.getElem?_map, hrow]; rfl
          have ha1 : L2.atI (t.map fun r => rowD_ true r) x = some (.lst true (row.map D.int)) := by
            obtain ⟨v, u1, u2⟩ := atI_in (xs := t) x0 (by omega)
            rw [hrow] at u2; rw [atI_map_, u1, ← Option.some.inj u2]; rfl
          have ha2 : L2.atI (row.map D.int) y = some (.int z) := by
            obtain ⟨v, u1, u2⟩ := atI_in (xs := row) y0 (by omega)
            rw [hz] at u2; rw [atI_map_, u1, ← Option.some.inj u2]; rfl
          have ht' : SqG n t (fun z => -1000000000000 < z ∧ z < 1000000000000) := ⟨ht.1, fun r hr => ⟨(ht.2 r hr).1, fun z hz => by have := hBd z ((ht.2 r hr).2 z hz); omega⟩⟩
          simp_arith [wb_Ltolls, e4, e5, e6, e7, ha1, ha2, hrow2]
          exact ⟨t.set x.toNat (row.set y.toNat (z + 1 + q)), d6, sq_put ht' hrow (by omega), s6.mono (by omega), by simp [List.map_set, rowD_], rfl⟩
        · simp_arith [wb_Ltolls, e4]
          exact ⟨t, d3, ⟨ht.1, fun r hr => ⟨(ht.2 r hr).1, fun z hz => by have := hBd z ((ht.2 r hr).2 z hz); omega⟩⟩, s3.mono (by omega), rfl, rfl⟩
  obtain ⟨r, e, h, t, d', h1, h2, rfl, rfl⟩ := key.ok
  exact ⟨t, d', h1, h2, h⟩
theorem copy_ {g : List (List Int)} {e0 : J.Env} {QD : D → J.Env → Prop} {X : XQ} {a b : Option D} (hl : g.length ≤ 100) (hQ : QD (gridD true true g) [a, b, none]) : Wr (compL (setG 2) yesB (lift1 listD (rdF 2)) [2] [] (g.map fun r => rowD_ false r) [a, b, none]) QD X := by
  refine W_compP (fun done acc e => acc = done.map (fun r => rowD_ true r) ∧ e = [a, b, none]) ⟨rfl, rfl⟩ ?_ ?_
  · rintro done r rest acc e - ⟨rfl, rfl⟩
    simp_arith [wz_cb, wz_cbt]
    simp
  · rintro acc e ⟨rfl, rfl⟩
    exact hQ
theorem tableC_ {n : Nat} {g t : List (List Int)} {o1 o2 o3 o4 : Bool} (hg : SqG n g (fun z => 1 ≤ z ∧ z ≤ n)) (ht : SqG n t (fun z => -1000000000000 < z ∧ z < 1000000000000)) (n1 : 1 ≤ n) (n5 : n ≤ 5) : run_Ltable [gridD o1 o2 g, gridD o3 o4 t] = .ok (tabD true g t) [some (gridD false false g), some (gridD false false t)] := by
  have hi := init_ (o1 := true) (o2 := true) hg ht n1 n5
  have g1 := hg.1
  have t1 := ht.1
  refine eq_of_Wr fun Q hQ => ?_
  rw [ws_Ltable]
  simp_arith [wb_Ltable]
  refine copy_ (e0 := []) (by omega) ?_
  simp_arith [wb_Ltable]
  refine copy_ (e0 := []) (by omega) ?_
  simp_arith [wb_Ltable, hi]
  exact hQ
theorem bothC_ {n : Nat} {g t : List (List Int)} {P : Int → Prop} {x y z : Int} {o1 o2 o3 o4 : Bool} (hg : SqG n g (fun z => 1 ≤ z ∧ z ≤ n)) (ht : SqG n t P) (hx : 1 ≤ x ∧ x ≤ n) (hy : 1 ≤ y ∧ y ≤ n) (hz : 1 ≤ z ∧ z ≤ n) :
    run_Lboth [gridD o1 o2 g, gridD o3 o4 t, .tup [.int x, .int y, .int z]] = .ok (.tup [.tup [.int (lwy g t x y z).1, .int (rwy g t x y z).1], .tup [.int (lwy g t x y z).2, .int (rwy g t x y z).2]]) [some (gridD false false g), some (gridD false false t), some (.tup [.int x, .int y, .int z])] := by
  have h1 := jr hg hx hy
  have h2 := jr hg hy hz
  refine eq_of_Wr fun Q hQ => ?_
  rw [ws_Lboth]
  simp_arith [wb_Lboth, gx1 hg, gx2 hg, gx1 ht, gx2 ht, -wa_ixL]
  exact hQ
theorem triplesC_ : ∀ n : Nat, 1 ≤ n → n ≤ 5 → run_Ltriples [.int n] = .ok (.lst true ((triL n).map tupR)) [some (.int n)]
  | 1, _, _ => by rfl
  | 2, _, _ => by rfl
  | 3, _, _ => by rfl
  | 4, _, _ => by rfl
  | 5, _, _ => by rfl
  | n + 6, _, h => by omega
/-! firm modulo a number -/
theorem check_modulus_ {m : Int} (m0 : 2 ≤ m) (m1 : m ≤ 1000000) : run_check_modulus [.int m] = .ok .non [some (.int m)] := by
  refine eq_of_Wr fun Q hQ => ?_
  rw [ws_check_modulus]
  simp_arith [wb_check_modulus, between' m0 m1]
  exact hQ
theorem both_modulo_ {n : Nat} {g t : List (List Int)} {P : Int → Prop} {x y z m : Int} (hg : SqG n g (fun z => 1 ≤ z ∧ z ≤ n)) (ht : SqG n t P) (hx : InK n x) (hy : InK n y) (hz : InK n z) (m0 : 2 ≤ m) :
    run_both_modulo [tabD false g t, .tup [.int x, .int y, .int z], .int m] = .ok (.tup [.tup [.int (lwy g t x y z).1, .int ((lwy g t x y z).2 % m)], .tup [.int (rwy g t x y z).1, .int ((rwy g t x y z).2 % m)]]) [some (tabD false g t), some (.tup [.int x, .int y, .int z]), some (.int m)] := by
  have hl : run_left_first [tabD false g t, .tup [.int x, .int y, .int z]] = .ok (.tup [.int (lwy g t x y z).1, .int (lwy g t x y z).2]) [some (tabD false g t), some (.tup [.int x, .int y, .int z])] := left_first_ hg ht hx hy hz
  have hr : run_right_first [tabD false g t, .tup [.int x, .int y, .int z]] = .ok (.tup [.int (rwy g t x y z).1, .int (rwy g t x y z).2]) [some (tabD false g t), some (.tup [.int x, .int y, .int z])] := right_first_ hg ht hx hy hz
  refine eq_of_Wr fun Q hQ => ?_
  rw [ws_both_modulo]
  simp_arith [wb_both_modulo, fzL_tups, noOwnL_tups, hl, hr]
  exact hQ
/-! both judges say the same -/
inductive Nm : D → Prop
  | non : Nm .non
  | bl (b : Bool) : Nm (.bl b)
  | int (i : Int) : Nm (.int i)
def nmB : D → Bool
  | .int _ => true
  | _ => false
def inB (n : Nat) : D → Bool
  | .int i => decide (1 ≤ i) && decide (i ≤ n)
  | _ => false
theorem Nm.fz {d : D} (h : Nm d) : d.fz = d := by cases h <;> rfl
theorem integerN {d : D} (h : Nm d) : run_is_integer [d] = .ok (.bl (nmB d)) [some d] := by
  cases h <;> simp [run_is_integer, frzF, defF, seqO, ifO, asgO, retO, retN, dropO, nilO, noO, bkO, ctO, asB, ofB, andB, orB, notB, ifE, lift1, lift2, toT, bop1, bop2, rdB, rdF, rdM, okC, R.bind, cmpD, isNonD, isNotNonD, ixD, ixF, L2.atI, ixN, D.noOwn, D.noOwnL, D.fz, D.fzL, setG, put1G, addD, subD, addB, modD, divD, powD, negD, lenD, intD, truB, truBB, truD, outsOf, argV, argR, args0, argApp, lkV, callF, relink, methF, recv, makeF, fldB, lookD, fldO, putN, putDs, lstF, tupF, parO, augO, appO, forO, chainF, isiD, ltI, leI, gtI, geI, List.range, List.range.loop, nmB]
theorem betweenN {d : D} {n : Nat} (h : Nm d) : run_is_between [d, .int 1, .int n] = .ok (.bl (inB n d)) [some d, some (.int 1), some (.int n)] := by
  cases h with
  | int i => exact between_
  | non => simp [run_is_between, run_is_integer, frzF, defF, seqO, ifO, asgO, retO, retN, dropO, nilO, noO, bkO, ctO, asB, ofB, andB, orB, notB, ifE, lift1, lift2, toT, bop1, bop2, rdB, rdF, rdM, okC, R.bind, cmpD, isNonD, isNotNonD, ixD, ixF, L2.atI, ixN, D.noOwn, D.noOwnL, D.fz, D.fzL, setG, put1G, addD, subD, addB, modD, divD, powD, negD, lenD, intD, truB, truBB, truD, outsOf, argV, argR, args0, argApp, lkV, callF, relink, methF, recv, makeF, fldB, lookD, fldO, putN, putDs, lstF, tupF, parO, augO, appO, forO, chainF, isiD, ltI, leI, gtI, geI, List.range, List.range.loop, inB]
  | bl b => simp [run_is_between, run_is_integer, frzF, defF, seqO, ifO, asgO, retO, retN, dropO, nilO, noO, bkO, ctO, asB, ofB, andB, orB, notB, ifE, lift1, lift2, toT, bop1, bop2, rdB, rdF, rdM, okC, R.bind, cmpD, isNonD, isNotNonD, ixD, ixF, L2.atI, ixN, D.noOwn, D.noOwnL, D.fz, D.fzL, setG, put1G, addD, subD, addB, modD, divD, powD, negD, lenD, intD, truB, truBB, truD, outsOf, argV, argR, args0, argApp, lkV, callF, relink, methF, recv, makeF, fldB, lookD, fldO, putN, putDs, lstF, tupF, parO, augO, appO, forO, chainF, isiD, ltI, leI, gtI, geI, List.range, List.range.loop, inB]
theorem allD3 {a b c : Bool} : allD (.lst true [.bl a, .bl b, .bl c]) = some (.bl (a && (b && c))) := by
  cases a <;> cases b <;> cases c <;> rfl
theorem is_triple3 {n : Nat} {g t : List (List Int)} {a b c : D} (hg : g.length = n) (ha : Nm a) (hb : Nm b) (hc : Nm c) : run_is_triple [tabD false g t, .tup [a, b, c]] = .ok (.bl (inB n a && (inB n b && inB n c))) [some (tabD false g t), some (.tup [a, b, c])] := by
  have h0 := count_ (t := t) hg (o := false)
  refine eq_of_Wr fun Q hQ => ?_
  rw [ws_is_triple]
  simp_arith [wb_is_triple, fzL_tups, noOwnL_tups, h0, rc, betweenN ha, betweenN hb, betweenN hc, allD3, ha.fz, hb.fz, hc.fz]
  exact hQ
/-- no tuple of three -/
inductive NTr : D → Prop
  | nt {d : D} (h : isiD "tuple" d = some (.bl false)) (f : d.fz = d) : NTr d
  | tp {xs : List D} (h : xs.length ≠ 3) (f : D.fzL xs = xs) : NTr (.tup xs)
theorem NTr.fz {d : D} (h : NTr d) : d.fz = d := by
  cases h with
  | nt _ f => exact f
  | tp _ f => rw [D.fz, f]
abbrev rtT : D := .tup [.str "result", .str "toll"]
inductive Wd4 : D → Prop
  | res : Wd4 (.str "result")
  | tol : Wd4 (.str "toll")
  | odd {d : D} (h1 : orK (inFD true d rtT) (inX true d rtT) = some (.bl true)) (h2 : orK (notInLD d (.lst true [.str "result", .str "toll"])) (inX true d (.lst true [.str "result", .str "toll"])) = some (.bl true)) (f : d.fz = d) : Wd4 d
theorem sR : PyData.strOk "result" = true := by decide +kernel
theorem sT : PyData.strOk "toll" = true := by decide +kernel
theorem sF : PyData.strOk "firm" = true := by decide +kernel
theorem eRT : (("result" : Str) == "toll") = false := by decide +kernel
theorem eTR : (("toll" : Str) == "result") = false := by decide +kernel
theorem eRF : (("result" : Str) == "firm") = false := by decide +kernel
theorem eTF : (("toll" : Str) == "firm") = false := by decide +kernel
theorem eFR : (("firm" : Str) == "result") = false := by decide +kernel
theorem eFT : (("firm" : Str) == "toll") = false := by decide +kernel
theorem in_res : orK (inFD true (.str "result") rtT) (inX true (.str "result") rtT) = some (.bl false) := rfl
theorem in_tol : orK (inFD true (.str "toll") rtT) (inX true (.str "toll") rtT) = some (.bl false) := rfl
theorem sw_rr : orK (eqD (.str "result") (.str "result")) (eqXD (.str "result") (.str "result")) = some (.bl true) := by simp [orK, eqD, neD, notInLD, inLD, shp, D.okP, D.okPL, D.toP, D.toPL, SeqAt.shaped, PyData.canLay0, PyData.canLayAll0, PyData.depth, PyData.depthAll, PyData.eqv, PyData.eqvAll, sR, sT, sF, eRT, eTR, eRF, eTF, eFR, eFT]
theorem sw_rt : orK (eqD (.str "result") (.str "toll")) (eqXD (.str "result") (.str "toll")) = some (.bl false) := by simp [orK, eqD, neD, notInLD, inLD, shp, D.okP, D.okPL, D.toP, D.toPL, SeqAt.shaped, PyData.canLay0, PyData.canLayAll0, PyData.depth, PyData.depthAll, PyData.eqv, PyData.eqvAll, sR, sT, sF, eRT, eTR, eRF, eTF, eFR, eFT]
theorem sw_tr : orK (eqD (.str "toll") (.str "result")) (eqXD (.str "toll") (.str "result")) = some (.bl false) := by simp [orK, eqD, neD, notInLD, inLD, shp, D.okP, D.okPL, D.toP, D.toPL, SeqAt.shaped, PyData.canLay0, PyData.canLayAll0, PyData.depth, PyData.depthAll, PyData.eqv, PyData.eqvAll, sR, sT, sF, eRT, eTR, eRF, eTF, eFR, eFT]
theorem sw_tt : orK (eqD (.str "toll") (.str "toll")) (eqXD (.str "toll") (.str "toll")) = some (.bl true) := by simp [orK, eqD, neD, notInLD, inLD, shp, D.okP, D.okPL, D.toP, D.toPL, SeqAt.shaped, PyData.canLay0, PyData.canLayAll0, PyData.depth, PyData.depthAll, PyData.eqv, PyData.eqvAll, sR, sT, sF, eRT, eTR, eRF, eTF, eFR, eFT]
theorem sw_ff : orK (eqD (.tup [.str "firm"]) (.tup [.str "firm"])) (eqXD (.tup [.str "firm"]) (.tup [.str "firm"])) = some (.bl true) := by simp [orK, eqD, neD, notInLD, inLD, shp, D.okP, D.okPL, D.toP, D.toPL, SeqAt.shaped, PyData.canLay0, PyData.canLayAll0, PyData.depth, PyData.depthAll, PyData.eqv, PyData.eqvAll, sR, sT, sF, eRT, eTR, eRF, eTF, eFR, eFT]
theorem sw_4 {w : Str} {x y z l r : Int} (h : w = "result" ∨ w = "toll") : orK (eqD (.tup [.str w, .tup [.int x, .int y, .int z], .int l, .int r]) (.tup [.str "firm"])) (eqXD (.tup [.str w, .tup [.int x, .int y, .int z], .int l, .int r]) (.tup [.str "firm"])) = some (.bl false) := by rcases h with rfl | rfl <;> simp [orK, eqD, neD, notInLD, inLD, shp, D.okP, D.okPL, D.toP, D.toPL, SeqAt.shaped, PyData.canLay0, PyData.canLayAll0, PyData.depth, PyData.depthAll, PyData.eqv, PyData.eqvAll, sR, sT, sF, eRT, eTR, eRF, eTF, eFR, eFT]
theorem sw_pair (a b c d : Int) : orK (eqD (.tup [.int a, .int b]) (.tup [.int c, .int d])) (eqXD (.tup [.int a, .int b]) (.tup [.int c, .int d])) = some (.bl (eqI a c && eqI b d)) := by
  rw [eqD_pair]; rfl
theorem Wd4.fz {w : D} (h : Wd4 w) : w.fz = w := by
  cases h with
  | res => rfl
  | tol => rfl
  | odd _ _ f => exact f
theorem nmI {i : Int} : nmB (.int i) = true := rfl
theorem Nm.no {d : D} (h : Nm d) : d.noOwn = true := by cases h <;> rfl
/-! the answer modulo a number, told exactly -/
def lwT (g t : List (List Int)) (a : List Int) : Int × Int := match a with | [x, y, z] => lwy g t x y z | _ => (0, 0)
def rwT (g t : List (List Int)) (a : List Int) : Int × Int := match a with | [x, y, z] => rwy g t x y z | _ => (0, 0)
def resP (g t : List (List Int)) (a : List Int) : Bool := !((lwT g t a).1 == (rwT g t a).1)
def tolP (g t : List (List Int)) (m : Int) (a : List Int) : Bool := !((lwT g t a).2 % m == (rwT g t a).2 % m)
def ansM (n : Nat) (g t : List (List Int)) (m : Int) : D := match (triL n).find? (resP g t) with
  | some a => .tup [.str "result", tupR a, .int (lwT g t a).1, .int (rwT g t a).1]
  | none => match (triL n).find? (tolP g t m) with
    | some a => .tup [.str "toll", tupR a, .int ((lwT g t a).2 % m), .int ((rwT g t a).2 % m)]
    | none => .tup [.str "firm"]
theorem find_at {α : Type} {p : α → Bool} {l done rest : List α} {a : α} (e : l = done ++ a :: rest) (h : ∀ b ∈ done, p b = false) (ha : p a = true) : l.find? p = some a := by
  subst e
  have : done.find? p = none := List.find?_eq_none.mpr fun b hb => by rw [h b hb]; simp
  rw [List.find?_append, this, List.find?_cons, ha]
  rfl
theorem find_no {α : Type} {p : α → Bool} {l : List α} (h : ∀ b ∈ l, p b = false) : l.find? p = none := List.find?_eq_none.mpr fun b hb => by rw [h b hb]; simp
theorem ans_res {n : Nat} {g t : List (List Int)} {m : Int} {done rest : List (List Int)} {a : List Int} (e : triL n = done ++ a :: rest) (h : ∀ b ∈ done, resP g t b = false) (ha : resP g t a = true) : ansM n g t m = .tup [.str "result", tupR a, .int (lwT g t a).1, .int (rwT g t a).1] := by
  unfold ansM
  rw [find_at e h ha]
theorem ans_tol {n : Nat} {g t : List (List Int)} {m : Int} {done rest : List (List Int)} {a : List Int} (h0 : ∀ b ∈ triL n, resP g t b = false) (e : triL n = done ++ a :: rest) (h : ∀ b ∈ done, tolP g t m b = false) (ha : tolP g t m a = true) : ansM n g t m = .tup [.str "toll", tupR a, .int ((lwT g t a).2 % m), .int ((rwT g t a).2 % m)] := by
  unfold ansM
  rw [find_no h0]
  dsimp only
  rw [find_at e h ha]
theorem ans_firm {n : Nat} {g t : List (List Int)} {m : Int} (h0 : ∀ b ∈ triL n, resP g t b = false) (h : ∀ b ∈ triL n, tolP g t m b = false) : ansM n g t m = .tup [.str "firm"] := by
  unfold ansM
  rw [find_no h0]
  dsimp only
  rw [find_no h]
theorem firm_eq {n : Nat} {g t : List (List Int)} {P : Int → Prop} {m : Int} (hg : SqG n g (fun z => 1 ≤ z ∧ z ≤ n)) (ht : SqG n t P) (n1 : 1 ≤ n) (n5 : n ≤ 5) (m0 : 2 ≤ m) (m1 : m ≤ 1000000) : run_firm_modulo [tabD false g t, .int m] = .ok (ansM n g t m) [some (tabD false g t), some (.int m)] := by
  have h3 := triples_ n n1 n5
  have hc := count_ (t := t) hg.1 (o := false)
  have hm := check_modulus_ m0 m1
  have hb := fun x y z (hx : InK n x) (hy : InK n y) (hz : InK n z) => both_modulo_ hg ht hx hy hz m0
  refine eq_of_WrH fun Q hQ => ?_
  rw [ws_firm_modulo]
  refine ⟨?_⟩
  simp_arith [wb_firm_modulo, fzL_tups, noOwnL_tups, rc, hc, h3, hm]
  refine (W_forPH (l := triL n) (f := tupR) (fun done e => (∀ a ∈ done, resP g t a = false) ∧ ∃ o4 o5 o6, e = [some (tabD false g t), some (.int m), some (.int 0), some (.str "result"), o4, o5, o6]) ⟨fun _ h => absurd h List.not_mem_nil, _, _, _, rfl⟩ ?_ ?_).h
  · rintro done a rest e hl ⟨hd, o4, o5, o6, rfl⟩
    have ha : a ∈ triL n := by rw [hl]; simp
    obtain ⟨x, y, z, rfl, hx, hy, hz⟩ := triL_mem.mp ha
    have hb' := hb x y z hx hy hz
    by_cases h : (lwy g t x y z).1 = (rwy g t x y z).1
    · refine ⟨?_⟩
      simp_arith [wb_firm_modulo, fzL_tups, noOwnL_tups, hb']
      refine ⟨fun b hm => ?_, _, _, _, rfl⟩
      rcases List.mem_append.mp hm with hm | hm
      · exact hd _ hm
      · rw [List.mem_singleton] at hm
        subst hm
        simp [resP, lwT, rwT, h]
    · rw [ans_res hl hd (by simp [resP, lwT, rwT, h])] at hQ
      refine ⟨?_⟩
      simp_arith [wb_firm_modulo, fzL_tups, noOwnL_tups, hb']
      exact hQ
  · rintro e ⟨hd, o4, o5, o6, rfl⟩
    refine ⟨?_⟩
    simp_arith [wb_firm_modulo, fzL_tups, noOwnL_tups, rc, hc, h3]
    refine (W_forPH (l := triL n) (f := tupR) (fun done e => (∀ a ∈ done, tolP g t m a = false) ∧ ∃ o4 o5 o6, e = [some (tabD false g t), some (.int m), some (.int 1), some (.str "toll"), o4, o5, o6]) ⟨fun _ h => absurd h List.not_mem_nil, _, _, _, rfl⟩ ?_ ?_).h
    · rintro done a rest e hl ⟨hd2, o4, o5, o6, rfl⟩
      have ha : a ∈ triL n := by rw [hl]; simp
      obtain ⟨x, y, z, rfl, hx, hy, hz⟩ := triL_mem.mp ha
      have hb' := hb x y z hx hy hz
      have eA : (lwT g t [x, y, z]).2 = (lwy g t x y z).2 := rfl
      have eB : (rwT g t [x, y, z]).2 = (rwy g t x y z).2 := rfl
      have an := fun h => ans_tol (m := m) hd hl hd2 h
      have tp : tolP g t m [x, y, z] = !((lwy g t x y z).2 % m == (rwy g t x y z).2 % m) := rfl
      rw [eA, eB] at an
      generalize (lwy g t x y z).2 % m = A at *
      generalize (rwy g t x y z).2 % m = B at *
      by_cases h : A = B
      · refine ⟨?_⟩
        simp_arith [wb_firm_modulo, fzL_tups, noOwnL_tups, hb']
        refine ⟨fun b hm => ?_, _, _, _, rfl⟩
        rcases List.mem_append.mp hm with hm | hm
        · exact hd2 _ hm
        · rw [List.mem_singleton] at hm
          subst hm
          rw [tp]; simp [h]
      · rw [an (by rw [tp]; simp [h])] at hQ
        refine ⟨?_⟩
        simp_arith [wb_firm_modulo, fzL_tups, noOwnL_tups, hb']
        exact hQ
    · rintro e ⟨hd2, o4, o5, o6, rfl⟩
      rw [ans_firm hd hd2] at hQ
      refine ⟨?_⟩
      simp_arith [wb_firm_modulo]
      exact hQ
theorem due_eq {n : Nat} {g t : List (List Int)} {P : Int → Prop} {m : Int} (hg : SqG n g (fun z => 1 ≤ z ∧ z ≤ n)) (ht : SqG n t P) (n1 : 1 ≤ n) (n5 : n ≤ 5) (m0 : 2 ≤ m) (m1 : m ≤ 1000000) : run_Ldue [gridD false false g, gridD false false t, .int m] = .ok (ansM n g t m) [some (gridD false false g), some (gridD false false t), some (.int m)] := by
  have h3 := triplesC_ n n1 n5
  have hlen : g.length = n := hg.1
  have hb := fun x y z (hx : InK n x) (hy : InK n y) (hz : InK n z) => bothC_ (o1 := false) (o2 := false) (o3 := false) (o4 := false) hg ht hx hy hz
  refine eq_of_WrH fun Q hQ => ?_
  rw [ws_Ldue]
  refine ⟨?_⟩
  simp_arith [wb_Ldue, fzL_tups, noOwnL_tups, hlen, h3]
  refine (W_forPH (l := triL n) (f := tupR) (fun done e => (∀ a ∈ done, resP g t a = false) ∧ ∃ o4 o5 o6, e = [some (gridD false false g), some (gridD false false t), some (.int m), some (.lst false ((triL n).map tupR)), o4, o5, o6, none]) ⟨fun _ h => absurd h List.not_mem_nil, _, _, _, rfl⟩ ?_ ?_).h
  · rintro done a rest e hl ⟨hd, o4, o5, o6, rfl⟩
    have ha : a ∈ triL n := by rw [hl]; simp
    obtain ⟨x, y, z, rfl, hx, hy, hz⟩ := triL_mem.mp ha
    have hb' := hb x y z hx hy hz
    by_cases h : (lwy g t x y z).1 = (rwy g t x y z).1
    · refine ⟨?_⟩
      simp_arith [wb_Ldue, fzL_tups, noOwnL_tups, hb']
      refine ⟨fun b hm => ?_, _, _, _, rfl⟩
      rcases List.mem_append.mp hm with hm | hm
      · exact hd _ hm
      · rw [List.mem_singleton] at hm
        subst hm
        simp [resP, lwT, rwT, h]
    · rw [ans_res hl hd (by simp [resP, lwT, rwT, h])] at hQ
      refine ⟨?_⟩
      simp_arith [wb_Ldue, fzL_tups, noOwnL_tups, hb']
      exact hQ
  · rintro e ⟨hd, o4, o5, o6, rfl⟩
    refine ⟨?_⟩
    simp_arith [wb_Ldue, fzL_tups, noOwnL_tups]
    refine (W_forPH (l := triL n) (f := tupR) (fun done e => (∀ a ∈ done, tolP g t m a = false) ∧ ∃ o4 o5 o6, e = [some (gridD false false g), some (gridD false false t), some (.int m), some (.lst false ((triL n).map tupR)), o4, o5, o6, none]) ⟨fun _ h => absurd h List.not_mem_nil, _, _, _, rfl⟩ ?_ ?_).h
    · rintro done a rest e hl ⟨hd2, o4, o5, o6, rfl⟩
      have ha : a ∈ triL n := by rw [hl]; simp
      obtain ⟨x, y, z, rfl, hx, hy, hz⟩ := triL_mem.mp ha
      have hb' := hb x y z hx hy hz
      have eA : (lwT g t [x, y, z]).2 = (lwy g t x y z).2 := rfl
      have eB : (rwT g t [x, y, z]).2 = (rwy g t x y z).2 := rfl
      have an := fun h => ans_tol (m := m) hd hl hd2 h
      have tp : tolP g t m [x, y, z] = !((lwy g t x y z).2 % m == (rwy g t x y z).2 % m) := rfl
      rw [eA, eB] at an
      generalize (lwy g t x y z).2 = A at *
      generalize (rwy g t x y z).2 = B at *
      by_cases h : A % m = B % m
      · refine ⟨?_⟩
        simp_arith [wb_Ldue, fzL_tups, noOwnL_tups, hb', wz_cb, wz_cbt]
        refine ⟨fun b hm => ?_, _, _, _, rfl⟩
        rcases List.mem_append.mp hm with hm | hm
        · exact hd2 _ hm
        · rw [List.mem_singleton] at hm
          subst hm
          rw [tp]; simp [h]
      · rw [an (by rw [tp]; simp [h])] at hQ
        refine ⟨?_⟩
        simp_arith [wb_Ldue, fzL_tups, noOwnL_tups, hb', wz_cb, wz_cbt]
        exact hQ
    · rintro e ⟨hd2, o4, o5, o6, rfl⟩
      rw [ans_firm hd hd2] at hQ
      refine ⟨?_⟩
      simp_arith [wb_Ldue]
      exact hQ
inductive AnsC (n : Nat) (g t : List (List Int)) (m : Int) : D → Prop
  | firm (h0 : ∀ b ∈ triL n, resP g t b = false) (h : ∀ b ∈ triL n, tolP g t m b = false) : AnsC n g t m (.tup [.str "firm"])
  | res {x y z : Int} (hx : InK n x) (hy : InK n y) (hz : InK n z) (h : (lwy g t x y z).1 ≠ (rwy g t x y z).1) : AnsC n g t m (.tup [.str "result", .tup [.int x, .int y, .int z], .int (lwy g t x y z).1, .int (rwy g t x y z).1])
  | tol {x y z : Int} (hx : InK n x) (hy : InK n y) (hz : InK n z) (h0 : ∀ b ∈ triL n, resP g t b = false) (h : (lwy g t x y z).2 % m ≠ (rwy g t x y z).2 % m) : AnsC n g t m (.tup [.str "toll", .tup [.int x, .int y, .int z], .int ((lwy g t x y z).2 % m), .int ((rwy g t x y z).2 % m)])
theorem ansC (n : Nat) (g t : List (List Int)) (m : Int) : AnsC n g t m (ansM n g t m) := by
  unfold ansM
  cases h1 : (triL n).find? (resP g t) with
  | some a =>
    have hm := List.mem_of_find?_eq_some h1
    have hp := List.find?_some h1
    obtain ⟨x, y, z, rfl, hx, hy, hz⟩ := triL_mem.mp hm
    exact .res hx hy hz fun e => by simp [resP, lwT, rwT, e] at hp
  | none =>
    have h0 : ∀ b ∈ triL n, resP g t b = false := fun b hb => by simpa using List.find?_eq_none.mp h1 b hb
    dsimp only
    cases h2 : (triL n).find? (tolP g t m) with
    | some a =>
      have hm := List.mem_of_find?_eq_some h2
      have hp := List.find?_some h2
      obtain ⟨x, y, z, rfl, hx, hy, hz⟩ := triL_mem.mp hm
      exact .tol hx hy hz h0 fun e => by simp [tolP, lwT, rwT, e] at hp
    | none => exact .firm h0 fun b hb => by simpa using List.find?_eq_none.mp h2 b hb
theorem same_res {n : Nat} {g t : List (List Int)} (h0 : ∀ b ∈ triL n, resP g t b = false) {x y z : Int} (hx : InK n x) (hy : InK n y) (hz : InK n z) : (lwy g t x y z).1 = (rwy g t x y z).1 := by
  have := h0 [x, y, z] (triL_mem.mpr ⟨x, y, z, rfl, hx, hy, hz⟩)
  simpa [resP, lwT, rwT] using this
theorem sw_l2 (a b c d : Int) : orK (eqD (.lst true [.int a, .int b]) (.lst false [.int c, .int d])) (eqXD (.lst true [.int a, .int b]) (.lst false [.int c, .int d])) = some (.bl (eqI a c && eqI b d)) := by
  simp [eqD, orK, shp, D.okP, D.okPL, D.toP, D.toPL, SeqAt.shaped, PyData.canLay0, PyData.canLayAll0, PyData.depth, PyData.depthAll, PyData.eqv, PyData.eqvAll, eqI]
theorem turn_ {n : Nat} {g t : List (List Int)} {P : Int → Prop} {m k : Int} (hg : SqG n g (fun z => 1 ≤ z ∧ z ≤ n)) (ht : SqG n t P) (n1 : 1 ≤ n) (n5 : n ≤ 5) (m0 : 2 ≤ m) (m1 : m ≤ 1000000) :
    ∃ b : Bool, (k = m → b = true) ∧ run_shows_firm_modulo [tabD false g t, .int m, ansM n g t k] = .ok (.bl b) [some (tabD false g t), some (.int m), some (ansM n g t k)] ∧
      run_Lis_true [gridD false false g, gridD false false t, .int m, ansM n g t k, ansM n g t m] = .ok (.bl b) [some (gridD false false g), some (gridD false false t), some (.int m), some (ansM n g t k), some (ansM n g t m)] := by
  have hm := check_modulus_ m0 m1
  have hlen : g.length = n := hg.1
  have fe := firm_eq hg ht n1 n5 m0 m1
  have ac := ansC n g t m
  have ak := ansC n g t k
  have hkm : k = m → ansM n g t m = ansM n g t k := fun e => by rw [e]
  generalize ansM n g t k = K at *
  generalize ansM n g t m = M at *
  have fM : M.fz = M := by cases ac <;> rfl
  cases ak with
  | firm h0 h =>
    have key : ∃ b, orK (eqD M (.tup [.str "firm"])) (eqXD M (.tup [.str "firm"])) = some (.bl b) := by
      cases ac with
      | firm => exact ⟨_, sw_ff⟩
      | res => exact ⟨_, sw_4 (.inl rfl)⟩
      | tol => exact ⟨_, sw_4 (.inr rfl)⟩
    obtain ⟨b, eb⟩ := key
    refine ⟨b, fun e => ?_, eq_of_WrH fun Q hQ => ?_, eq_of_WrH fun Q hQ => ?_⟩
    · rw [hkm e, sw_ff] at eb
      simpa using eb.symm
    · rw [ws_shows_firm_modulo]
      refine ⟨?_⟩
      simp_arith [wb_shows_firm_modulo, fzL_tups, noOwnL_tups, hm, sw_ff, fe, fM, eb]
      exact hQ
    · rw [ws_Lis_true]
      refine ⟨?_⟩
      simp_arith [wb_Lis_true, sw_ff, fM, eb]
      exact hQ
  | @res x y z hx hy hz h =>
    have it := is_triple3 (t := t) hlen (.int x) (.int y) (.int z)
    have hbC := bothC_ (o1 := false) (o2 := false) (o3 := false) (o4 := false) hg ht hx hy hz
    have hbM := both_modulo_ hg ht hx hy hz m0
    have i1 : inB n (.int x) = true := by simp [inB, hx.1, hx.2]
    have i2 : inB n (.int y) = true := by simp [inB, hy.1, hy.2]
    have i3 : inB n (.int z) = true := by simp [inB, hz.1, hz.2]
    rw [i1, i2, i3] at it
    have s4 := fun l r => sw_4 (w := "result") (x := x) (y := y) (z := z) (l := l) (r := r) (.inl rfl)
    generalize (lwy g t x y z).1 = A at *
    generalize (rwy g t x y z).1 = B at *
    have il := integerN (.int A)
    have ir := integerN (.int B)
    have e1 : eqI A A = true := by simp [eqI]
    have e2 : eqI B B = true := by simp [eqI]
    refine ⟨true, fun _ => rfl, eq_of_WrH fun Q hQ => ?_, eq_of_WrH fun Q hQ => ?_⟩
    · rw [ws_shows_firm_modulo]
      refine ⟨?_⟩
      simp_arith [wb_shows_firm_modulo, fzL_tups, noOwnL_tups, hm, in_res, it, il, ir, nmI, hbM, sw_rr, sw_rt, sw_pair, e1, e2]
      exact hQ
    · rw [ws_Lis_true]
      refine ⟨?_⟩
      simp_arith [wb_Lis_true, s4, hbC, sw_rr, fM, wz_cb, wz_cbt]
      exact hQ
  | @tol x y z hx hy hz h0 h =>
    have it := is_triple3 (t := t) hlen (.int x) (.int y) (.int z)
    have hbC := bothC_ (o1 := false) (o2 := false) (o3 := false) (o4 := false) hg ht hx hy hz
    have hbM := both_modulo_ hg ht hx hy hz m0
    have i1 : inB n (.int x) = true := by simp [inB, hx.1, hx.2]
    have i2 : inB n (.int y) = true := by simp [inB, hy.1, hy.2]
    have i3 : inB n (.int z) = true := by simp [inB, hz.1, hz.2]
    rw [i1, i2, i3] at it
    have s4 := fun l r => sw_4 (w := "toll") (x := x) (y := y) (z := z) (l := l) (r := r) (.inr rfl)
    rw [same_res h0 hx hy hz] at hbM hbC
    generalize (rwy g t x y z).1 = B at *
    generalize (lwy g t x y z).2 = C at *
    generalize (rwy g t x y z).2 = E at *
    have hu : k = m → C % k = C % m ∧ E % k = E % m := fun e => by rw [e]; exact ⟨rfl, rfl⟩
    generalize C % k = u at *
    generalize E % k = v at *
    have il := integerN (.int u)
    have ir := integerN (.int v)
    have l2 := sw_l2 u v
    have cu : cutD [D.str "toll", .tup [.int x, .int y, .int z], .int u, .int v] (some 2) none = [.int u, .int v] := rfl
    have lt : listD (.tup [.int u, .int v]) = some (.lst true [.int u, .int v]) := rfl
    cases hp : (eqI u (C % m) && eqI v (E % m)) with
    | false =>
      refine ⟨false, fun e => by simp [hu e, eqI] at hp, eq_of_WrH fun Q hQ => ?_, eq_of_WrH fun Q hQ => ?_⟩
      · rw [ws_shows_firm_modulo]
        refine ⟨?_⟩
        simp_arith [wb_shows_firm_modulo, fzL_tups, noOwnL_tups, hm, in_tol, it, il, ir, nmI, hbM, sw_tr, sw_tt, sw_pair, hp]
        exact hQ
      · rw [ws_Lis_true]
        refine ⟨?_⟩
        simp_arith [wb_Lis_true, s4, hbC, sw_tr, fM, wz_cb, wz_cbt, l2, cu, lt, hp]
        exact hQ
    | true =>
      have hne : C % m ≠ E % m := by
        simp [eqI] at hp
        omega
      refine ⟨true, fun _ => rfl, eq_of_WrH fun Q hQ => ?_, eq_of_WrH fun Q hQ => ?_⟩
      · rw [ws_shows_firm_modulo]
        refine ⟨?_⟩
        simp_arith [wb_shows_firm_modulo, fzL_tups, noOwnL_tups, hm, in_tol, it, il, ir, nmI, hbM, sw_tr, sw_tt, sw_pair, hp]
        exact hQ
      · rw [ws_Lis_true]
        refine ⟨?_⟩
        simp_arith [wb_Lis_true, s4, hbC, sw_tr, fM, wz_cb, wz_cbt, l2, cu, lt, hp]
        exact hQ
/-! values that are no modulus; the lambda's end -/
theorem all0 {p : D → Prop} : ∀ x ∈ ([] : List D), p x := fun _ h => absurd h List.not_mem_nil
theorem all1 {p : D → Prop} {a : D} {l : List D} (h : p a) (t : ∀ x ∈ l, p x) : ∀ x ∈ a :: l, p x := fun x hx => by
  rcases List.mem_cons.mp hx with rfl | hx
  · exact h
  · exact t x hx
theorem pick4 {d : D} {c0 : Int} {xs : List D} {p : D → Prop} (s : Wel d c0) (hc : c0 < 900000000) (hx : xs ≠ []) (hl : xs.length < 1000) (h : ∀ x ∈ xs, p x.fz) : ∃ x d', p x ∧ Wel d' (c0 + 1) ∧ run_Lone [d, .lst true xs] = .ok x [some d', some (.lst false (D.fzL xs))] := by
  obtain ⟨q, d', hq, s1, e1⟩ := oneC_ (o := true) s hc hx (by omega)
  exact ⟨_, d', h q hq, s1, e1⟩
structure Odd (v : D) : Prop where
  fz : v.fz = v
  no : v.noOwn = true
  nx : v.noX = true
  bt : ∃ o, run_is_between [v, .int 2, .int 1000000] = .ok (.bl false) o
  rp : ∃ s, reprZ v = some (.str s) ∧ PyData.strOk s = true
theorem btI {i : Int} (h : i < 2 ∨ 1000000 < i) : ∃ o, run_is_between [.int i, .int 2, .int 1000000] = .ok (.bl false) o := by
  have e : (decide (2 ≤ i) && decide (i ≤ 1000000)) = false := by
    rcases h with h | h
    · rw [decide_eq_false (by omega)]; rfl
    · rw [decide_eq_false (p := i ≤ 1000000) (by omega), Bool.and_false]
  have b := between_ (v := i) (lo := 2) (hi := 1000000)
  rw [e] at b
  exact ⟨_, b⟩
theorem btN {v : D} (hi : run_is_integer [v] = .ok (.bl false) [some v]) (fz : v.fz = v) : ∃ o, run_is_between [v, .int 2, .int 1000000] = .ok (.bl false) o := by
  have key : Hid (Wr (run_is_between [v, .int 2, .int 1000000]) (fun r _ => r = .bl false) noX) := by
    rw [ws_is_between]
    refine ⟨?_⟩
    simp_arith [wb_is_between, hi, fz]
  obtain ⟨r, e, h, rfl⟩ := key.h.ok
  exact ⟨e, h⟩
theorem smI9 {i : Int} (h0 : -9000000000000000 < i) (h1 : i < 9000000000000000) : smI i = true := by
  unfold smI
  exact decide_eq_true (by omega)
theorem oddI {i : Int} (h : i < 2 ∨ 1000000 < i) (h0 : -9000000000000000 < i) (h1 : i < 9000000000000000) (hs : PyData.strOk (D.toZ (.int i)).shown = true) : Odd (.int i) := ⟨rfl, rfl, rfl, btI h, _, reprZ_ok rfl (by simp only [D.toZ, smP]; exact smI9 h0 h1) (by simp [D.toZ, nodP]) (by simp [D.toZ, PyData.depth]), hs⟩
theorem int_bl (b : Bool) : run_is_integer [.bl b] = .ok (.bl false) [some (.bl b)] := by
  cases b <;> rfl
theorem odds : ∀ x ∈ [D.int 1, .int 0, .int (-3), .int 1000001, .bl true, .non, .str "2", .tup [.int 2], .lst true [.int 3]], Odd x.fz := by
  refine all1 (oddI (by omega) (by omega) (by omega) (by decide +kernel)) (all1 (oddI (by omega) (by omega) (by omega) (by decide +kernel)) (all1 (oddI (by omega) (by omega) (by omega) (by decide +kernel)) (all1 (oddI (by omega) (by omega) (by omega) (by decide +kernel)) (all1 ?_ (all1 ?_ (all1 ?_ (all1 ?_ (all1 ?_ all0))))))))
  · exact ⟨rfl, rfl, rfl, btN (int_bl true) rfl, _, reprZ_ok rfl rfl (by simp [D.fz, D.toZ, nodP]) (by simp [D.fz, D.toZ, PyData.depth]), by decide +kernel⟩
  · exact ⟨rfl, rfl, rfl, btN rfl rfl, _, reprZ_ok rfl rfl (by simp [D.fz, D.toZ, nodP]) (by simp [D.fz, D.toZ, PyData.depth]), by decide +kernel⟩
  · exact ⟨rfl, rfl, rfl, btN rfl rfl, _, reprZ_ok rfl (by decide +kernel) (by simp [D.fz, D.toZ, nodP]) (by simp [D.fz, D.toZ, PyData.depth]), by decide +kernel⟩
  · exact ⟨rfl, rfl, rfl, btN rfl rfl, _, reprZ_ok rfl (by decide +kernel) (by simp [D.fz, D.fzL, D.toZ, D.toZL, nodP, nodPL]) (by simp [D.fz, D.fzL, D.toZ, D.toZL, PyData.depth, PyData.depthAll]), by decide +kernel⟩
  · exact ⟨rfl, rfl, rfl, btN rfl rfl, _, reprZ_ok rfl (by decide +kernel) (by simp [D.fz, D.fzL, D.toZ, D.toZL, nodP, nodPL]) (by simp [D.fz, D.fzL, D.toZ, D.toZL, PyData.depth, PyData.depthAll]), by decide +kernel⟩
theorem odd_mod {v : D} (h : Odd v) : run_check_modulus [v] = .ex 20 ["modulus", "why"] [v, .str "modulus"] [some v] := by
  obtain ⟨o, hb⟩ := h.bt
  have fz := h.fz
  have no := h.no
  refine ex_of_Wr fun X hX => ?_
  rw [ws_check_modulus]
  simp_arith [wb_check_modulus, fz, no, hb]
  exact hX
theorem odd_firm {g t : List (List Int)} {v : D} (h : Odd v) : run_firm_modulo [tabD false g t, v] = .ex 20 ["modulus", "why"] [v, .str "modulus"] [some (tabD false g t), some v] := by
  have hm := odd_mod h
  have fz := h.fz
  have no := h.no
  refine ex_of_Wr fun X hX => ?_
  rw [ws_firm_modulo]
  simp_arith [wb_firm_modulo, fzL_tups, noOwnL_tups, fz, no, hm]
  exact hX
theorem odd_shows {g t : List (List Int)} {v p : D} (h : Odd v) (fp : p.fz = p) (np : p.noOwn = true) : run_shows_firm_modulo [tabD false g t, v, p] = .ex 20 ["modulus", "why"] [v, .str "modulus"] [some (tabD false g t), some v, some p] := by
  have hm := odd_mod h
  have fz := h.fz
  have no := h.no
  refine ex_of_Wr fun X hX => ?_
  rw [ws_shows_firm_modulo]
  simp_arith [wb_shows_firm_modulo, fzL_tups, noOwnL_tups, fz, no, fp, np, hm]
  exact hX
def lmQ (QD : D → J.Env → Prop) (env : J.Env) : D → J.Env → Prop := fun _ _ => QD (.str "none") env
def lmX (QD : D → J.Env → Prop) (env : J.Env) : XQ := fun c ns vs _ => ([(20, true)] : List (Nat × Bool)).lookup c = some true ∧ D.noXL vs = true ∧ ∃ s e, ph_Lrefused c ns vs [none, some .exc] = .rt (.str s) e ∧ QD (.str s) env
theorem wz_lam {bf : J.Env → R D} {env : J.Env} {QD : D → J.Env → Prop} {X : XQ} (h : Wr (bf (fzE env)) (lmQ QD env) (lmX QD env)) : Wr (lamF [(20, true)] ph_Lrefused bf env) QD X := by
  unfold lamF
  generalize bf (fzE env) = z at h
  match z, h with
  | .ok d e, h => exact h
  | .ex c ns vs e, h =>
    obtain ⟨h1, h2, s, e2, h3, h4⟩ := h
    dsimp only
    rw [if_pos ⟨h1, h2⟩, h3]
    exact h4
theorem lm_mod {QD : D → J.Env → Prop} {env e : J.Env} {v : D} {s : Str} (h : reprZ v = some (.str s)) (nx : v.noX = true) (hq : QD (.str s) env) : lmX QD env 20 ["modulus", "why"] [v, .str "modulus"] e := by
  refine ⟨rfl, by simp [D.noXL, nx, D.noX], s, [none, some .exc], ?_, hq⟩
  have hl : lookD ["modulus", "why"] [v, .str "modulus"] "modulus" = some v := rfl
  simp [ph_Lrefused, retO, ifE, asB, isxF, R.bind, lift1, xfF, hl, h]
theorem ans_fz {n : Nat} {g t : List (List Int)} {m : Int} : (ansM n g t m).fz = ansM n g t m ∧ (ansM n g t m).noOwn = true := by
  have := ansC n g t m
  generalize ansM n g t m = K at *
  cases this <;> exact ⟨rfl, rfl⟩
theorem ans_rp {n : Nat} {g t : List (List Int)} {m : Int} (hg : SqG n g (fun z => 1 ≤ z ∧ z ≤ n)) (n5 : n ≤ 5) (m0 : 2 ≤ m) (m1 : m ≤ 1000000) : ∃ s, reprZ (ansM n g t m) = some (.str s) := by
  have := ansC n g t m
  generalize ansM n g t m = K at *
  have tR : smS "result" = true := by decide +kernel
  have tT : smS "toll" = true := by decide +kernel
  have key : ∀ {W : Str} {x y z l r : Int}, smS W = true → InK n x → InK n y → InK n z → 0 ≤ l ∧ l < 1000010 → 0 ≤ r ∧ r < 1000010 → ∃ s, reprZ (.tup [.str W, .tup [.int x, .int y, .int z], .int l, .int r]) = some (.str s) := by
    intro W x y z l r hW hx hy hz hl hr
    refine ⟨_, reprZ_ok rfl ?_ (by simp [D.toZ, D.toZL, nodP, nodPL]) (by simp [D.toZ, D.toZL, PyData.depth, PyData.depthAll])⟩
    have a := smI9 (i := x) (by have := hx.1; omega) (by have := hx.2; omega)
    have b := smI9 (i := y) (by have := hy.1; omega) (by have := hy.2; omega)
    have c := smI9 (i := z) (by have := hz.1; omega) (by have := hz.2; omega)
    have d := smI9 (i := l) (by omega) (by omega)
    have e := smI9 (i := r) (by omega) (by omega)
    simp only [D.toZ, D.toZL, smP, smPL, hW, a, b, c, d, e, Bool.and_self]
  cases this with
  | firm => exact ⟨_, reprZ_ok rfl (by decide +kernel) (by simp [D.toZ, D.toZL, nodP, nodPL]) (by simp [D.toZ, D.toZL, PyData.depth, PyData.depthAll])⟩
  | res hx hy hz h =>
    have k1 : InK n _ := jr hg (jr hg hx hy) hz
    have k2 : InK n _ := jr hg hx (jr hg hy hz)
    exact key tR hx hy hz ⟨by have := k1.1; simp only [lwy]; omega, by have := k1.2; simp only [lwy]; omega⟩ ⟨by have := k2.1; simp only [rwy]; omega, by have := k2.2; simp only [rwy]; omega⟩
  | @tol x y z hx hy hz h0 h =>
    exact key tT hx hy hz ⟨Int.emod_nonneg _ (by omega), by have := Int.emod_lt_of_pos (lwy g t x y z).2 (show 0 < m by omega); omega⟩ ⟨Int.emod_nonneg _ (by omega), by have := Int.emod_lt_of_pos (rwy g t x y z).2 (show 0 < m by omega); omega⟩
theorem neW_str {s : Str} : orK (neD (.str s) (.str s)) (neSD (.str s) (.str s)) = some (.bl false) := by
  unfold neD
  by_cases h : shp (.str s) = true
  · rw [h]
    have : PyData.canLay0 (D.toP (.str s)) = true := by
      unfold shp at h
      rw [Bool.and_eq_true] at h
      have h2 := h.2
      unfold SeqAt.shaped at h2
      rw [Bool.and_eq_true] at h2
      exact h2.1
    rw [SeqAt.eqv_refl _ this]
    rfl
  · rw [Bool.eq_false_iff.mpr h]
    simp [neSD, orK]
theorem fe3 {o : Option D} {e : J.Env} : fzE (o :: e) = Option.map D.fz o :: fzE e := rfl
theorem shp_strs {s : Str} (h : PyData.strOk s = true) {o : Bool} : shp (.lst o [.str s, .str s]) = true := by
  simp [shp, D.okP, D.okPL, D.toP, D.toPL, SeqAt.shaped, PyData.canLay0, PyData.canLayAll0, PyData.depth, PyData.depthAll, h]
theorem eq_strs {s : Str} (h : PyData.strOk s = true) {o o2 : Bool} : orK (eqD (.lst o [.str s, .str s]) (.lst o2 [.str s, .str s])) (eqXD (.lst o [.str s, .str s]) (.lst o2 [.str s, .str s])) = some (.bl true) := by
  have hc : PyData.canLay0 (D.toP (.lst o [.str s, .str s])) = true := by simp [D.toP, D.toPL, PyData.canLay0, PyData.canLayAll0, h]
  unfold eqD
  rw [shp_strs h, shp_strs h, show D.toP (.lst o2 [.str s, .str s]) = D.toP (.lst o [.str s, .str s]) from rfl, SeqAt.eqv_refl _ hc]
  rfl
theorem right_ {d : D} {c0 : Int} (s : Wel d c0) (hc : c0 < 1000) : ∃ d', Wel d' (c0 + 200) ∧ run_Lright [d] = .ok (.bl true) [some d'] := by
  obtain ⟨n, g, d1, n1, n5, hg, s1, e1⟩ := joinsC_ s (by omega)
  obtain ⟨q, d2, q0, q1, s2, e2⟩ := drawC_ (n := 40) s1 (by omega) (by omega) (by omega)
  obtain ⟨x, d3, ⟨m, rfl, m0, m1⟩, s3, e3⟩ := pick4 (p := fun x => ∃ m, x = .int m ∧ 2 ≤ m ∧ m ≤ 1000000) (xs := [.int 2, .int 3, .int 4, .int 6, .int 10, .int (2 + q), .int 1000000]) s2 (by omega) (by simp) (by simp) (all1 ⟨2, rfl, by omega, by omega⟩ (all1 ⟨3, rfl, by omega, by omega⟩ (all1 ⟨4, rfl, by omega, by omega⟩ (all1 ⟨6, rfl, by omega, by omega⟩ (all1 ⟨10, rfl, by omega, by omega⟩ (all1 ⟨2 + q, rfl, by omega, by omega⟩ (all1 ⟨1000000, rfl, by omega, by omega⟩ all0)))))))
  obtain ⟨t, d4, ht, s4, e4⟩ := tollsC_ (m := m) (o1 := false) (o2 := false) s3 (by omega) hg n1 n5 (by omega) (by omega)
  have e5 := tableC_ (o1 := false) (o2 := false) (o3 := false) (o4 := false) hg ht n1 n5
  have e6 := due_eq hg ht n1 n5 m0 m1
  have e7 := firm_eq hg ht n1 n5 m0 m1
  obtain ⟨b, hb, e8, -⟩ := turn_ (k := m) hg ht n1 n5 m0 m1
  obtain rfl := hb rfl
  obtain ⟨sA, rA⟩ := ans_rp (t := t) hg n5 m0 m1
  obtain ⟨fA, nA⟩ := ans_fz (n := n) (g := g) (t := t) (m := m)
  obtain ⟨v, d5, hv, s5, e9⟩ := pick4 s4 (by omega) (by simp) (by simp) odds
  have e10 := odd_firm (g := g) (t := t) hv
  have e11 := odd_shows (g := g) (t := t) hv fA nA
  obtain ⟨sv, rv, hs⟩ := hv.rp
  have fv := hv.fz
  have nv := hv.no
  have nx := hv.nx
  have p6 : powD (.int 10) (.int 6) = some (.int 1000000) := by simp [powD]
  have ml : mulD (.lst true [.str sv]) (.int 2) = some (.lst true [.str sv, .str sv]) := by simp [mulD, D.noOwnL, D.noOwn]
  have nS : orK (neD (.str sA) (.str sA)) (some (.bl (!(sA == sA)))) = some (.bl false) := neW_str
  generalize ansM n g t m = A at *
  refine ⟨d5, s5.mono (by omega), eq_of_WrH fun Q hQ => ?_⟩
  rw [ws_Lright]
  refine ⟨?_⟩
  have bb : (true != true) = false := rfl
  simp_arith [wb_Lright, fzL_tups, noOwnL_tups, e1, e2, e3, e4, e5, e6, e7, e8, e9, fA, nA, rA, nS, p6, fv, nv, bb]
  refine wz_lam ?_
  simp_arith [wb_Lright, fzL_tups, noOwnL_tups, e10, fA, nA, fv, nv, fe3, Option.map_some, Option.map_none]
  refine lm_mod rv nx ?_
  simp_arith [wb_Lright, fzL_tups, noOwnL_tups, fA, nA, fv, nv]
  refine wz_lam ?_
  simp_arith [wb_Lright, fzL_tups, noOwnL_tups, e11, fA, nA, fv, nv, fe3, Option.map_some, Option.map_none]
  refine lm_mod rv nx ?_
  simp_arith [wb_Lright, fzL_tups, noOwnL_tups, fA, nA, fv, nv, rv, ml, eq_strs hs]
  exact hQ
theorem fzL_ans {n : Nat} {g t : List (List Int)} : ∀ ms : List Int, D.fzL (ms.map (ansM n g t)) = ms.map (ansM n g t) ∧ D.noOwnL (ms.map (ansM n g t)) = true
  | [] => ⟨rfl, rfl⟩
  | m :: ms => by
    obtain ⟨a, b⟩ := fzL_ans ms (n := n) (g := g) (t := t)
    obtain ⟨c, d⟩ := ans_fz (n := n) (g := g) (t := t) (m := m)
    exact ⟨by simp only [List.map_cons, D.fzL, a, c], by simp only [List.map_cons, D.noOwnL, b, d, Bool.and_self]⟩
theorem bl_eq {b : Bool} : orK (neD (.bl b) (.bl b)) (neSD (.bl b) (.bl b)) = some (.bl false) := by
  cases b <;> simp [orK, eqD, neD, notInLD, inLD, shp, D.okP, D.okPL, D.toP, D.toPL, SeqAt.shaped, PyData.canLay0, PyData.canLayAll0, PyData.depth, PyData.depthAll, PyData.eqv, PyData.eqvAll]
theorem step_ {d6 st TL TL0 TB TB0 MS MS0 DU DU0 : D} {n : Nat} {g t : List (List Int)} {P : Int → Prop} {ms : List Int} {m at_ k : Int} {o9 o10 o11 o12 : Option D} {Q : Out → Prop} (hg : SqG n g (fun z => 1 ≤ z ∧ z ≤ n)) (ht : SqG n t P) (n1 : 1 ≤ n) (n5 : n ≤ 5) (m0 : 2 ≤ m) (m1 : m ≤ 1000000) (hm : ∀ x ∈ ms, 2 ≤ x ∧ x ≤ 1000000)
    (fL : TL.fz = TL0) (fB : TB.fz = TB0) (fM : MS.fz = MS0) (fD : DU.fz = DU0) (gL : TL0.fz = TL0) (gB : TB0.fz = TB0) (gM : MS0.fz = MS0) (gD : DU0.fz = DU0)
    (x3 : ixF TL0 (.int k) = some (gridD false false t)) (x4 : ixF TB0 (.int k) = some (tabD false g t)) (x5 : ixF MS0 (.int at_) = some (.int m)) (x6 : ixF DU0 (.int k) = some (.lst false (ms.map (ansM n g t)))) (x7 : ixF (.lst false (ms.map (ansM n g t))) (.int at_) = some (ansM n g t m))
    (hQ : ∀ (TL TB MS DU : D) (o9 o10 o11 o12 : Option D), TL.fz = TL0 → TB.fz = TB0 → MS.fz = MS0 → DU.fz = DU0 → Hid (Q (.nx [some d6, some (gridD false false g), some st, some TL, some TB, some MS, some DU, some (.int at_), some (.int k), o9, o10, o11, o12]))) :
    Hid (Wo (bk_Lby_turns_right_4 [some d6, some (gridD false false g), some st, some TL, some TB, some MS, some DU, some (.int at_), some (.int k), o9, o10, o11, o12]) Q) := by
  obtain ⟨b0, b1, b2, b3, b4, -⟩ := wb_Lby_turns_right
  have e1 := firm_eq hg ht n1 n5 m0 m1
  obtain ⟨sA, rA⟩ := ans_rp (t := t) hg n5 m0 m1
  obtain ⟨fA, nA⟩ := ans_fz (n := n) (g := g) (t := t) (m := m)
  have nS : orK (neD (.str sA) (.str sA)) (some (.bl (!(sA == sA)))) = some (.bl false) := neW_str
  have fml := fzL_ans (n := n) (g := g) (t := t) ms
  refine ⟨?_⟩
  simp_arith [b3, b4, fL, fB, fM, fD, gL, gB, gM, gD, x3, x4, x5, x6, x7, e1, fA, nA, rA, nS, fml.1, fml.2, fzL_tups, noOwnL_tups, -wz_forC]
  refine (W_forPH (l := ms) (f := ansM n g t) (fun done e => ∃ (TL TB MS DU : D) (o9 o10 o11 o12 : Option D), TL.fz = TL0 ∧ TB.fz = TB0 ∧ MS.fz = MS0 ∧ DU.fz = DU0 ∧ e = [some d6, some (gridD false false g), some st, some TL, some TB, some MS, some DU, some (.int at_), some (.int k), o9, o10, o11, o12]) ⟨_, _, _, _, _, _, _, _, by assumption, by assumption, by assumption, by assumption, rfl⟩ ?_ ?_).h
  · rintro done mm rest e hl ⟨TL, TB, MS, DU, o9, o10, o11, o12, fL, fB, fM, fD, rfl⟩
    have hx := hm mm (by rw [hl]; simp)
    obtain ⟨b, -, e2, e3⟩ := turn_ (k := mm) hg ht n1 n5 m0 m1
    obtain ⟨fK, nK⟩ := ans_fz (n := n) (g := g) (t := t) (m := mm)
    refine ⟨?_⟩
    simp_arith [b0, b1, b2, fL, fB, fM, fD, gL, gB, gM, gD, x3, x4, x5, x6, x7, e2, e3, fA, nA, fK, nK, bl_eq, fzL_tups, noOwnL_tups]
    exact ⟨_, _, _, _, _, _, _, _, by assumption, by assumption, by assumption, by assumption, rfl⟩
  · rintro e ⟨TL, TB, MS, DU, o9, o10, o11, o12, fL, fB, fM, fD, rfl⟩
    exact hQ _ _ _ _ _ _ _ _ fL fB fM fD
theorem fz_tab4 {o : Bool} {g t : List (List Int)} : (tabD o g t).fz = tabD false g t := by simp only [D.fz, D.fzL, fzL_tups]
theorem noOwn_tab4 (g t : List (List Int)) : (tabD false g t).noOwn = true := by
  simp only [D.noOwn, D.noOwnL, noOwnL_tups]
  rfl
theorem ixF_at {d e x : D} (h : ixD d e = some x) (n : x.noOwn = true) : ixF d e = some x := by
  unfold ixF
  rw [h]
  exact if_pos n
theorem turns_ {d : D} {c0 : Int} {n : Nat} {g : List (List Int)} {o1 o2 : Bool} (s : Wel d c0) (hc : c0 < 1000) (hg : SqG n g (fun z => 1 ≤ z ∧ z ≤ n)) (n1 : 1 ≤ n) (n5 : n ≤ 5) : ∃ d', run_Lby_turns_right [d, gridD o1 o2 g] = .ok (.bl true) [some d', some (gridD false false g)] := by
  have key : Hid (Wr (run_Lby_turns_right [d, gridD o1 o2 g]) (fun r e => r = .bl true ∧ ∃ d', e = [some d', some (gridD false false g)]) noX) := by
    obtain ⟨q, d1, q0, q1, s1, e1⟩ := drawC_ (n := 40) s (by omega) (by omega) (by omega)
    obtain ⟨t0, d2, ht0, s2, e2⟩ := tollsC_ (m := 2 + q) (o1 := false) (o2 := false) s1 (by omega) hg n1 n5 (by omega) (by omega)
    obtain ⟨t1, d3, ht1, s3, e3⟩ := tollsC_ (m := 2 + q) (o1 := false) (o2 := false) s2 (by omega) hg n1 n5 (by omega) (by omega)
    have e4 := tableC_ (o1 := false) (o2 := false) (o3 := false) (o4 := false) hg ht0 n1 n5
    have e5 := tableC_ (o1 := false) (o2 := false) (o3 := false) (o4 := false) hg ht1 n1 n5
    obtain ⟨r, d4, r0, r1, s4, e6⟩ := drawC_ (n := 4) s3 (by omega) (by omega) (by omega)
    obtain ⟨u, d5, u0, u1, s5, e7⟩ := drawC_ (n := 40) s4 (by omega) (by omega) (by omega)
    have r2 : (List.range 2).map (fun i : Nat => D.int (i : Int)) = [.int 0, .int 1] := rfl
    obtain ⟨ms, d6, pm, s6, e8⟩ := shuffled_ (o := true) (ns := [2 + q, (2 + q) * (2 + r), 2 + u]) s5 (by omega) (by simp)
    have e8 : run_Lshuffled [d5, .lst true [.int (2 + q), .int ((2 + q) * (2 + r)), .int (2 + u)]] = .ok (rowD_ true ms) [some d6, some (rowD_ false [2 + q, (2 + q) * (2 + r), 2 + u])] := e8
    have hms : ∀ x ∈ ms, 2 ≤ x ∧ x ≤ 1000000 := fun x hx => by
      have := pm.mem_iff.mp hx
      have hp : 2 ≤ (2 + q) * (2 + r) ∧ (2 + q) * (2 + r) ≤ 1000000 := by
        rcases (by omega : r = 0 ∨ r = 1 ∨ r = 2 ∨ r = 3) with rfl | rfl | rfl | rfl <;> omega
      simp only [List.mem_cons, List.not_mem_nil, or_false] at this
      rcases this with rfl | rfl | rfl
      · omega
      · exact hp
      · omega
    have hl := pm.length_eq
    obtain ⟨a, b, c, rfl⟩ : ∃ a b c, ms = [a, b, c] := by
      match ms, hl with
      | [a, b, c], _ => exact ⟨a, b, c, rfl⟩
    have ha := hms a (by simp)
    have hb := hms b (by simp)
    have hcc := hms c (by simp)
    have u0a := due_eq hg ht0 n1 n5 ha.1 ha.2
    have u0b := due_eq hg ht0 n1 n5 hb.1 hb.2
    have u0c := due_eq hg ht0 n1 n5 hcc.1 hcc.2
    have u1a := due_eq hg ht1 n1 n5 ha.1 ha.2
    have u1b := due_eq hg ht1 n1 n5 hb.1 hb.2
    have u1c := due_eq hg ht1 n1 n5 hcc.1 hcc.2
    rw [ws_Lby_turns_right]
    refine ⟨?_⟩
    simp_arith [wb_Lby_turns_right, e1, e2, e3, e4, e5, e6, e7, e8, u0a, u0b, u0c, u1a, u1b, u1c, r2, wz_cb, wz_cbt, -wz_forC]
    have H : ∀ at_ ∈ ([0, 1, 2, 2, 1, 0] : List Int), ∃ m, 2 ≤ m ∧ m ≤ 1000000 ∧ ixF (.lst false [.int a, .int b, .int c]) (.int at_) = some (.int m) ∧ ∀ t : List (List Int), ixF (.lst false ([a, b, c].map (ansM n g t))) (.int at_) = some (ansM n g t m) := by
      have no := fun t m => (ans_fz (n := n) (g := g) (t := t) (m := m)).2
      intro x hx
      simp only [List.mem_cons, List.not_mem_nil, or_false] at hx
      rcases hx with rfl | rfl | rfl | rfl | rfl | rfl
      · exact ⟨a, ha.1, ha.2, rfl, fun t => ixF_at rfl (no t a)⟩
      · exact ⟨b, hb.1, hb.2, rfl, fun t => ixF_at rfl (no t b)⟩
      · exact ⟨c, hcc.1, hcc.2, rfl, fun t => ixF_at rfl (no t c)⟩
      · exact ⟨c, hcc.1, hcc.2, rfl, fun t => ixF_at rfl (no t c)⟩
      · exact ⟨b, hb.1, hb.2, rfl, fun t => ixF_at rfl (no t b)⟩
      · exact ⟨a, ha.1, ha.2, rfl, fun t => ixF_at rfl (no t a)⟩
    have no := fun t m => (ans_fz (n := n) (g := g) (t := t) (m := m)).2
    have fz := fun t m => (ans_fz (n := n) (g := g) (t := t) (m := m)).1
    have nl := fun t => (fzL_ans (n := n) (g := g) (t := t) [a, b, c]).2
    have fl := fun t => (fzL_ans (n := n) (g := g) (t := t) [a, b, c]).1
    have gL : (D.lst false [gridD false false t0, gridD false false t1]).fz = .lst false [gridD false false t0, gridD false false t1] := by
      show D.lst false [(gridD false false t0).fz, (gridD false false t1).fz] = _
      rw [fz_grid, fz_grid]
    have gB : (D.lst false [tabD false g t0, tabD false g t1]).fz = .lst false [tabD false g t0, tabD false g t1] := by
      show D.lst false [(tabD false g t0).fz, (tabD false g t1).fz] = _
      rw [fz_tab4, fz_tab4]
    have gD : (D.lst false [.lst false ([a, b, c].map (ansM n g t0)), .lst false ([a, b, c].map (ansM n g t1))]).fz = .lst false [.lst false ([a, b, c].map (ansM n g t0)), .lst false ([a, b, c].map (ansM n g t1))] := by simp only [D.fz, D.fzL, fl]
    have iL : ∀ o, (D.lst o [.lst o [ansM n g t0 a, ansM n g t0 b, ansM n g t0 c], .lst o [ansM n g t1 a, ansM n g t1 b, ansM n g t1 c]]).fz = .lst false [.lst false ([a, b, c].map (ansM n g t0)), .lst false ([a, b, c].map (ansM n g t1))] := fun o => by simp only [D.fz, D.fzL, fz, List.map_cons, List.map_nil]
    have iB : (D.lst true [tabD true g t0, tabD true g t1]).fz = .lst false [tabD false g t0, tabD false g t1] := by
      show D.lst false [(tabD true g t0).fz, (tabD true g t1).fz] = _
      rw [fz_tab4, fz_tab4]
    obtain ⟨b0, b1, b2, b3, b4, b5, b6, -⟩ := wb_Lby_turns_right
    refine (W_forPH (l := [0, 1, 2, 2, 1, 0]) (f := D.int) (fun _ e => ∃ (TL TB MS DU : D) (o7 o8 o9 o10 o11 o12 : Option D), TL.fz = .lst false [gridD false false t0, gridD false false t1] ∧ TB.fz = .lst false [tabD false g t0, tabD false g t1] ∧ MS.fz = .lst false [.int a, .int b, .int c] ∧ DU.fz = .lst false [.lst false ([a, b, c].map (ansM n g t0)), .lst false ([a, b, c].map (ansM n g t1))] ∧ e = [some d6, some (gridD false false g), some (.int (2 + q)), some TL, some TB, some MS, some DU, o7, o8, o9, o10, o11, o12]) ⟨_, _, _, _, _, _, _, _, _, _, gL, iB, rfl, iL true, rfl⟩ ?_ ?_).h
    · rintro done at_ rest e hl ⟨TL, TB, MS, DU, o7, o8, o9, o10, o11, o12, fL, fB, fM, fD, rfl⟩
      obtain ⟨m, m0, m1, x5, x7⟩ := H at_ (by rw [hl]; simp)
      refine ⟨?_⟩
      simp_arith [b5, -wz_forC]
      refine (W_forPH (l := List.range 2) (f := fun i : Nat => D.int (i : Int)) (fun _ e => ∃ (TL TB MS DU : D) (o8 o9 o10 o11 o12 : Option D), TL.fz = .lst false [gridD false false t0, gridD false false t1] ∧ TB.fz = .lst false [tabD false g t0, tabD false g t1] ∧ MS.fz = .lst false [.int a, .int b, .int c] ∧ DU.fz = .lst false [.lst false ([a, b, c].map (ansM n g t0)), .lst false ([a, b, c].map (ansM n g t1))] ∧ e = [some d6, some (gridD false false g), some (.int (2 + q)), some TL, some TB, some MS, some DU, some (.int at_), o8, o9, o10, o11, o12]) ⟨_, _, _, _, _, _, _, _, _, fL, fB, fM, fD, rfl⟩ ?_ ?_).h
      · rintro dn k rest2 e hk ⟨TL, TB, MS, DU, o8, o9, o10, o11, o12, fL, fB, fM, fD, rfl⟩
        have hk2 : k ∈ List.range 2 := by rw [hk]; simp
        rw [List.mem_range] at hk2
        rcases (by omega : k = 0 ∨ k = 1) with rfl | rfl
        · refine ⟨?_⟩
          simp_arith [-wz_forC]
          exact (step_ hg ht0 n1 n5 m0 m1 hms fL fB fM fD gL gB rfl gD (ixF_at rfl (noOwn_grid _)) (ixF_at rfl (noOwn_tab4 _ _)) x5 (ixF_at rfl (by simp only [D.noOwn, nl]; rfl)) (x7 t0) fun TL TB MS DU o9 o10 o11 o12 h1 h2 h3 h4 => ⟨⟨_, _, _, _, _, _, _, _, _, h1, h2, h3, h4, rfl⟩⟩).h
        · refine ⟨?_⟩
          simp_arith [-wz_forC]
          exact (step_ hg ht1 n1 n5 m0 m1 hms fL fB fM fD gL gB rfl gD (ixF_at rfl (noOwn_grid _)) (ixF_at rfl (noOwn_tab4 _ _)) x5 (ixF_at rfl (by simp only [D.noOwn, nl]; rfl)) (x7 t1) fun TL TB MS DU o9 o10 o11 o12 h1 h2 h3 h4 => ⟨⟨_, _, _, _, _, _, _, _, _, h1, h2, h3, h4, rfl⟩⟩).h
      · rintro e ⟨TL, TB, MS, DU, o8, o9, o10, o11, o12, fL, fB, fM, fD, rfl⟩
        exact ⟨⟨TL, TB, MS, DU, _, _, _, _, _, _, fL, fB, fM, fD, rfl⟩⟩
    · rintro e ⟨TL, TB, MS, DU, o7, o8, o9, o10, o11, o12, fL, fB, fM, fD, rfl⟩
      refine ⟨?_⟩
      simp_arith
      exact ⟨_, rfl⟩
  obtain ⟨a, e, h, rfl, d', rfl⟩ := key.h.ok
  exact ⟨d', h⟩
theorem law_true : ∀ ns : List Int, ns.length ≤ 63 → ∃ outs, run_law [.scr (ns.map .int)] = .ok (.bl true) outs := by
  intro ns h63
  have key : Hid (Wr (run_law [.scr (ns.map .int)]) (fun r _ => r = .bl true) noX) := by
    obtain ⟨cs, hcs, hl, -⟩ := cut_ints (l := ns) (a := none) (b := some 4)
    have c1 : addD (.lst true (cs.map D.int)) (.lst true [.int 0]) = some (.lst true ((cs ++ [0]).map D.int)) := by
      have : (cs.map D.int).length + 1 ≤ 1000000 := by rw [List.length_map]; omega
      simp [addD, noOwnL_ints, D.noOwnL, D.noOwn]
      simpa using this
    rw [ws_law]
    refine ⟨?_⟩
    simp_arith [wb_law, hcs, c1, -wa_addL, -wz_forC]
    refine (W_forH (fun _ e => ∃ o1 o2 o3, e = [some (.scr (ns.map .int)), o1, o2, o3]) ⟨_, _, _, rfl⟩ ?_ ?_).h
    · rintro i d e hd ⟨o1, o2, o3, rfl⟩
      obtain ⟨x, hx, rfl⟩ := enumD_at hd
      rw [List.getElem?_map, Option.map_eq_some_iff] at hx
      obtain ⟨c, -, rfl⟩ := hx
      rw [Int.zero_add]
      obtain ⟨d1, s1, e1⟩ := right_ (d := welO c c 0) (c0 := 0) ⟨c, c, 0, rfl, by omega, by omega⟩ (by omega)
      obtain ⟨n, g, d2, n1, n5, hg, s2, e2⟩ := joinsC_ s1 (by omega)
      obtain ⟨o, e3⟩ := turns_ (o1 := true) (o2 := true) s2 (by omega) hg n1 n5
      by_cases h : (i : Int) = 0
      · refine ⟨?_⟩
        simp_arith [wb_law, well_, e1, e2, e3]
        exact ⟨_, _, _, rfl⟩
      · refine ⟨?_⟩
        simp_arith [wb_law, well_, e1, e2, e3]
        exact ⟨_, _, _, rfl⟩
    · rintro e ⟨o1, o2, o3, rfl⟩
      refine ⟨?_⟩
      simp_arith [wb_law]
  obtain ⟨a, e, h, rfl⟩ := key.h.ok
  exact ⟨e, h⟩
/-! what the top has written, and the law's own head -/
theorem all_mk {l : PySem.W.OpenLaw} {w : World} {K : PySem.W.Frag} {h : Heap} {mg : Str → Option Value} {fa C_Table C_TollError C_BadModulus f_Lwell f_Lmixed f_Ldraw f_Lshuffled f_Lresult f_Ljoins f_Lone f_Lby_worths f_Ltolls f_is_integer f_is_between f_check_grid f_check_joins f_Table___init__ f_Ltable f_Ltriples f_Lboth f_Ldue f_check_modulus f_triples f_Table_count f_Table_check_kind f_Table_join f_Table_toll f_left_first f_right_first f_both_modulo f_firm_modulo f_is_triple f_shows_firm_modulo f_Lrefused f_Lright f_Lis_true f_Lby_turns_right f_law f_TollError___init__ f_BadModulus___init__ : Addr} (X : K.In h) (G : h.Ns mainGlobals mg) (hfa : mg "law" = some (.ref fa))
    {od_Lwell an_Lwell : Option Addr} {sl_Lwell : Array (Option Value)} {oc_Lwell kV_Lwell dc_Lwell pm_Lwell cd_Lwell ct_Lwell : Value}
    {od_Lmixed an_Lmixed : Option Addr} {sl_Lmixed : Array (Option Value)} {oc_Lmixed kV_Lmixed dc_Lmixed pm_Lmixed cd_Lmixed ct_Lmixed : Value}
    {od_Ldraw an_Ldraw : Option Addr} {sl_Ldraw : Array (Option Value)} {oc_Ldraw kV_Ldraw dc_Ldraw pm_Ldraw cd_Ldraw ct_Ldraw : Value}
    {od_Lshuffled an_Lshuffled : Option Addr} {sl_Lshuffled : Array (Option Value)} {oc_Lshuffled kV_Lshuffled dc_Lshuffled pm_Lshuffled cd_Lshuffled ct_Lshuffled : Value}
    {od_Lresult an_Lresult : Option Addr} {sl_Lresult : Array (Option Value)} {oc_Lresult kV_Lresult dc_Lresult pm_Lresult cd_Lresult ct_Lresult : Value}
    {od_Ljoins an_Ljoins : Option Addr} {sl_Ljoins : Array (Option Value)} {oc_Ljoins kV_Ljoins dc_Ljoins pm_Ljoins cd_Ljoins ct_Ljoins : Value}
    {od_Lone an_Lone : Option Addr} {sl_Lone : Array (Option Value)} {oc_Lone kV_Lone dc_Lone pm_Lone cd_Lone ct_Lone : Value}
    {od_Lby_worths an_Lby_worths : Option Addr} {sl_Lby_worths : Array (Option Value)} {oc_Lby_worths kV_Lby_worths dc_Lby_worths pm_Lby_worths cd_Lby_worths ct_Lby_worths : Value}
    {od_Ltolls an_Ltolls : Option Addr} {sl_Ltolls : Array (Option Value)} {oc_Ltolls kV_Ltolls dc_Ltolls pm_Ltolls cd_Ltolls ct_Ltolls : Value}
    {od_is_integer an_is_integer : Option Addr} {sl_is_integer : Array (Option Value)} {oc_is_integer kV_is_integer dc_is_integer pm_is_integer cd_is_integer ct_is_integer : Value}
    {od_is_between an_is_between : Option Addr} {sl_is_between : Array (Option Value)} {oc_is_between kV_is_between dc_is_between pm_is_between cd_is_between ct_is_between : Value}
    {od_check_grid an_check_grid : Option Addr} {sl_check_grid : Array (Option Value)} {oc_check_grid kV_check_grid dc_check_grid pm_check_grid cd_check_grid ct_check_grid : Value}
    {od_check_joins an_check_joins : Option Addr} {sl_check_joins : Array (Option Value)} {oc_check_joins kV_check_joins dc_check_joins pm_check_joins cd_check_joins ct_check_joins : Value}
    {od_Table___init__ an_Table___init__ : Option Addr} {sl_Table___init__ : Array (Option Value)} {oc_Table___init__ kV_Table___init__ dc_Table___init__ pm_Table___init__ cd_Table___init__ ct_Table___init__ : Value}
    {od_Ltable an_Ltable : Option Addr} {sl_Ltable : Array (Option Value)} {oc_Ltable kV_Ltable dc_Ltable pm_Ltable cd_Ltable ct_Ltable : Value}
    {od_Ltriples an_Ltriples : Option Addr} {sl_Ltriples : Array (Option Value)} {oc_Ltriples kV_Ltriples dc_Ltriples pm_Ltriples cd_Ltriples ct_Ltriples : Value}
    {od_Lboth an_Lboth : Option Addr} {sl_Lboth : Array (Option Value)} {oc_Lboth kV_Lboth dc_Lboth pm_Lboth cd_Lboth ct_Lboth : Value}
    {od_Ldue an_Ldue : Option Addr} {sl_Ldue : Array (Option Value)} {oc_Ldue kV_Ldue dc_Ldue pm_Ldue cd_Ldue ct_Ldue : Value}
    {od_check_modulus an_check_modulus : Option Addr} {sl_check_modulus : Array (Option Value)} {oc_check_modulus kV_check_modulus dc_check_modulus pm_check_modulus cd_check_modulus ct_check_modulus : Value}
    {od_triples an_triples : Option Addr} {sl_triples : Array (Option Value)} {oc_triples kV_triples dc_triples pm_triples cd_triples ct_triples : Value}
    {od_Table_count an_Table_count : Option Addr} {sl_Table_count : Array (Option Value)} {oc_Table_count kV_Table_count dc_Table_count pm_Table_count cd_Table_count ct_Table_count : Value}
    {od_Table_check_kind an_Table_check_kind : Option Addr} {sl_Table_check_kind : Array (Option Value)} {oc_Table_check_kind kV_Table_check_kind dc_Table_check_kind pm_Table_check_kind cd_Table_check_kind ct_Table_check_kind : Value}
    {od_Table_join an_Table_join : Option Addr} {sl_Table_join : Array (Option Value)} {oc_Table_join kV_Table_join dc_Table_join pm_Table_join cd_Table_join ct_Table_join : Value}
    {od_Table_toll an_Table_toll : Option Addr} {sl_Table_toll : Array (Option Value)} {oc_Table_toll kV_Table_toll dc_Table_toll pm_Table_toll cd_Table_toll ct_Table_toll : Value}
    {od_left_first an_left_first : Option Addr} {sl_left_first : Array (Option Value)} {oc_left_first kV_left_first dc_left_first pm_left_first cd_left_first ct_left_first : Value}
    {od_right_first an_right_first : Option Addr} {sl_right_first : Array (Option Value)} {oc_right_first kV_right_first dc_right_first pm_right_first cd_right_first ct_right_first : Value}
    {od_both_modulo an_both_modulo : Option Addr} {sl_both_modulo : Array (Option Value)} {oc_both_modulo kV_both_modulo dc_both_modulo pm_both_modulo cd_both_modulo ct_both_modulo : Value}
    {od_firm_modulo an_firm_modulo : Option Addr} {sl_firm_modulo : Array (Option Value)} {oc_firm_modulo kV_firm_modulo dc_firm_modulo pm_firm_modulo cd_firm_modulo ct_firm_modulo : Value}
    {od_is_triple an_is_triple : Option Addr} {sl_is_triple : Array (Option Value)} {oc_is_triple kV_is_triple dc_is_triple pm_is_triple cd_is_triple ct_is_triple : Value}
    {od_shows_firm_modulo an_shows_firm_modulo : Option Addr} {sl_shows_firm_modulo : Array (Option Value)} {oc_shows_firm_modulo kV_shows_firm_modulo dc_shows_firm_modulo pm_shows_firm_modulo cd_shows_firm_modulo ct_shows_firm_modulo : Value}
    {od_Lrefused an_Lrefused : Option Addr} {sl_Lrefused : Array (Option Value)} {oc_Lrefused kV_Lrefused dc_Lrefused pm_Lrefused cd_Lrefused ct_Lrefused : Value}
    {od_Lright an_Lright : Option Addr} {sl_Lright : Array (Option Value)} {oc_Lright kV_Lright dc_Lright pm_Lright ct_Lright : Value} {cc_ T_ : Addr}
    {od_Lis_true an_Lis_true : Option Addr} {sl_Lis_true : Array (Option Value)} {oc_Lis_true kV_Lis_true dc_Lis_true pm_Lis_true cd_Lis_true ct_Lis_true : Value}
    {od_Lby_turns_right an_Lby_turns_right : Option Addr} {sl_Lby_turns_right : Array (Option Value)} {oc_Lby_turns_right kV_Lby_turns_right dc_Lby_turns_right pm_Lby_turns_right cd_Lby_turns_right ct_Lby_turns_right : Value}
    {od_law an_law : Option Addr} {sl_law : Array (Option Value)} {oc_law kV_law dc_law pm_law cd_law ct_law : Value}
    {nm_TollError qn_TollError : Str} {N_TollError : Addr} {bs_TollError bm_TollError : List Value} {sn_TollError sub_TollError ab_TollError col_TollError dd_TollError g0_TollError g1_TollError g2_TollError g3_TollError g5_TollError : _}
    {nm_BadModulus qn_BadModulus : Str} {N_BadModulus : Addr} {bs_BadModulus bm_BadModulus : List Value} {sn_BadModulus sub_BadModulus ab_BadModulus col_BadModulus dd_BadModulus g0_BadModulus g1_BadModulus g2_BadModulus g3_BadModulus g5_BadModulus : _}
    {od_TollError___init__ an_TollError___init__ : Option Addr} {sl_TollError___init__ : Array (Option Value)} {oc_TollError___init__ kV_TollError___init__ dc_TollError___init__ pm_TollError___init__ cd_TollError___init__ ct_TollError___init__ : Value}
    {Tu_TollError___init__ : Addr} {ocT_TollError___init__ : Value} {odT_TollError___init__ : Option Addr} {nT_TollError___init__ : Nat} {slT_TollError___init__ : Array (Option Value)} {tT_TollError___init__ : _}
    {od_BadModulus___init__ an_BadModulus___init__ : Option Addr} {sl_BadModulus___init__ : Array (Option Value)} {oc_BadModulus___init__ kV_BadModulus___init__ dc_BadModulus___init__ pm_BadModulus___init__ cd_BadModulus___init__ ct_BadModulus___init__ : Value}
    {t_MOST_KINDS : _}
    {t_TOLL_BOUND : _}
    {t_LEAST_MODULUS : _}
    {t_MOST_MODULUS : _}
    (a_Lwell : PySem.W.nsIn K mainGlobals "_law_well" = some (some (.ref f_Lwell)))
    (l_Lwell : K.lookup f_Lwell = some ⟨oc_Lwell, od_Lwell, .func (PySem.W.fnOf "_law_well" "_law_well" (defArgs s_Lwell) (defBody s_Lwell) (defScope s_Lwell) .none kV_Lwell dc_Lwell pm_Lwell an_Lwell cd_Lwell ct_Lwell), sl_Lwell⟩) (e_Lwell : PySem.W.codeIn K cd_Lwell "_law_well" = true) (k_Lwell : PySem.W.keepIn K (.ref f_Lwell) = true)
    (a_Lmixed : PySem.W.nsIn K mainGlobals "_law_mixed" = some (some (.ref f_Lmixed)))
    (l_Lmixed : K.lookup f_Lmixed = some ⟨oc_Lmixed, od_Lmixed, .func (PySem.W.fnOf "_law_mixed" "_law_mixed" (defArgs s_Lmixed) (defBody s_Lmixed) (defScope s_Lmixed) .none kV_Lmixed dc_Lmixed pm_Lmixed an_Lmixed cd_Lmixed ct_Lmixed), sl_Lmixed⟩) (e_Lmixed : PySem.W.codeIn K cd_Lmixed "_law_mixed" = true) (k_Lmixed : PySem.W.keepIn K (.ref f_Lmixed) = true)
    (a_Ldraw : PySem.W.nsIn K mainGlobals "_law_draw" = some (some (.ref f_Ldraw)))
    (l_Ldraw : K.lookup f_Ldraw = some ⟨oc_Ldraw, od_Ldraw, .func (PySem.W.fnOf "_law_draw" "_law_draw" (defArgs s_Ldraw) (defBody s_Ldraw) (defScope s_Ldraw) .none kV_Ldraw dc_Ldraw pm_Ldraw an_Ldraw cd_Ldraw ct_Ldraw), sl_Ldraw⟩) (e_Ldraw : PySem.W.codeIn K cd_Ldraw "_law_draw" = true) (k_Ldraw : PySem.W.keepIn K (.ref f_Ldraw) = true)
    (a_Lshuffled : PySem.W.nsIn K mainGlobals "_law_shuffled" = some (some (.ref f_Lshuffled)))
    (l_Lshuffled : K.lookup f_Lshuffled = some ⟨oc_Lshuffled, od_Lshuffled, .func (PySem.W.fnOf "_law_shuffled" "_law_shuffled" (defArgs s_Lshuffled) (defBody s_Lshuffled) (defScope s_Lshuffled) .none kV_Lshuffled dc_Lshuffled pm_Lshuffled an_Lshuffled cd_Lshuffled ct_Lshuffled), sl_Lshuffled⟩) (e_Lshuffled : PySem.W.codeIn K cd_Lshuffled "_law_shuffled" = true) (k_Lshuffled : PySem.W.keepIn K (.ref f_Lshuffled) = true)
    (a_Lresult : PySem.W.nsIn K mainGlobals "_law_result" = some (some (.ref f_Lresult)))
    (l_Lresult : K.lookup f_Lresult = some ⟨oc_Lresult, od_Lresult, .func (PySem.W.fnOf "_law_result" "_law_result" (defArgs s_Lresult) (defBody s_Lresult) (defScope s_Lresult) .none kV_Lresult dc_Lresult pm_Lresult an_Lresult cd_Lresult ct_Lresult), sl_Lresult⟩) (e_Lresult : PySem.W.codeIn K cd_Lresult "_law_result" = true) (k_Lresult : PySem.W.keepIn K (.ref f_Lresult) = true)
    (a_Ljoins : PySem.W.nsIn K mainGlobals "_law_joins" = some (some (.ref f_Ljoins)))
    (l_Ljoins : K.lookup f_Ljoins = some ⟨oc_Ljoins, od_Ljoins, .func (PySem.W.fnOf "_law_joins" "_law_joins" (defArgs s_Ljoins) (defBody s_Ljoins) (defScope s_Ljoins) .none kV_Ljoins dc_Ljoins pm_Ljoins an_Ljoins cd_Ljoins ct_Ljoins), sl_Ljoins⟩) (e_Ljoins : PySem.W.codeIn K cd_Ljoins "_law_joins" = true) (k_Ljoins : PySem.W.keepIn K (.ref f_Ljoins) = true)
    (a_Lone : PySem.W.nsIn K mainGlobals "_law_one" = some (some (.ref f_Lone)))
    (l_Lone : K.lookup f_Lone = some ⟨oc_Lone, od_Lone, .func (PySem.W.fnOf "_law_one" "_law_one" (defArgs s_Lone) (defBody s_Lone) (defScope s_Lone) .none kV_Lone dc_Lone pm_Lone an_Lone cd_Lone ct_Lone), sl_Lone⟩) (e_Lone : PySem.W.codeIn K cd_Lone "_law_one" = true) (k_Lone : PySem.W.keepIn K (.ref f_Lone) = true)
    (a_Lby_worths : PySem.W.nsIn K mainGlobals "_law_by_worths" = some (some (.ref f_Lby_worths)))
    (l_Lby_worths : K.lookup f_Lby_worths = some ⟨oc_Lby_worths, od_Lby_worths, .func (PySem.W.fnOf "_law_by_worths" "_law_by_worths" (defArgs s_Lby_worths) (defBody s_Lby_worths) (defScope s_Lby_worths) .none kV_Lby_worths dc_Lby_worths pm_Lby_worths an_Lby_worths cd_Lby_worths ct_Lby_worths), sl_Lby_worths⟩) (e_Lby_worths : PySem.W.codeIn K cd_Lby_worths "_law_by_worths" = true) (k_Lby_worths : PySem.W.keepIn K (.ref f_Lby_worths) = true)
    (a_Ltolls : PySem.W.nsIn K mainGlobals "_law_tolls" = some (some (.ref f_Ltolls)))
    (l_Ltolls : K.lookup f_Ltolls = some ⟨oc_Ltolls, od_Ltolls, .func (PySem.W.fnOf "_law_tolls" "_law_tolls" (defArgs s_Ltolls) (defBody s_Ltolls) (defScope s_Ltolls) .none kV_Ltolls dc_Ltolls pm_Ltolls an_Ltolls cd_Ltolls ct_Ltolls), sl_Ltolls⟩) (e_Ltolls : PySem.W.codeIn K cd_Ltolls "_law_tolls" = true) (k_Ltolls : PySem.W.keepIn K (.ref f_Ltolls) = true)
    (a_is_integer : PySem.W.nsIn K mainGlobals "is_integer" = some (some (.ref f_is_integer)))
    (l_is_integer : K.lookup f_is_integer = some ⟨oc_is_integer, od_is_integer, .func (PySem.W.fnOf "is_integer" "is_integer" (defArgs s_is_integer) (defBody s_is_integer) (defScope s_is_integer) .none kV_is_integer dc_is_integer pm_is_integer an_is_integer cd_is_integer ct_is_integer), sl_is_integer⟩) (e_is_integer : PySem.W.codeIn K cd_is_integer "is_integer" = true) (k_is_integer : PySem.W.keepIn K (.ref f_is_integer) = true)
    (a_is_between : PySem.W.nsIn K mainGlobals "is_between" = some (some (.ref f_is_between)))
    (l_is_between : K.lookup f_is_between = some ⟨oc_is_between, od_is_between, .func (PySem.W.fnOf "is_between" "is_between" (defArgs s_is_between) (defBody s_is_between) (defScope s_is_between) .none kV_is_between dc_is_between pm_is_between an_is_between cd_is_between ct_is_between), sl_is_between⟩) (e_is_between : PySem.W.codeIn K cd_is_between "is_between" = true) (k_is_between : PySem.W.keepIn K (.ref f_is_between) = true)
    (a_check_grid : PySem.W.nsIn K mainGlobals "check_grid" = some (some (.ref f_check_grid)))
    (l_check_grid : K.lookup f_check_grid = some ⟨oc_check_grid, od_check_grid, .func (PySem.W.fnOf "check_grid" "check_grid" (defArgs s_check_grid) (defBody s_check_grid) (defScope s_check_grid) .none kV_check_grid dc_check_grid pm_check_grid an_check_grid cd_check_grid ct_check_grid), sl_check_grid⟩) (e_check_grid : PySem.W.codeIn K cd_check_grid "check_grid" = true) (k_check_grid : PySem.W.keepIn K (.ref f_check_grid) = true)
    (a_check_joins : PySem.W.nsIn K mainGlobals "check_joins" = some (some (.ref f_check_joins)))
    (l_check_joins : K.lookup f_check_joins = some ⟨oc_check_joins, od_check_joins, .func (PySem.W.fnOf "check_joins" "check_joins" (defArgs s_check_joins) (defBody s_check_joins) (defScope s_check_joins) .none kV_check_joins dc_check_joins pm_check_joins an_check_joins cd_check_joins ct_check_joins), sl_check_joins⟩) (e_check_joins : PySem.W.codeIn K cd_check_joins "check_joins" = true) (k_check_joins : PySem.W.keepIn K (.ref f_check_joins) = true)
    (a_Table___init__ : PySem.W.findIn K (.ref C_Table) "__init__" = some (some (.ref f_Table___init__))) (i_Table___init__ : PySem.W.isFn K (.ref f_Table___init__) = true)
    (l_Table___init__ : K.lookup f_Table___init__ = some ⟨oc_Table___init__, od_Table___init__, .func (PySem.W.fnOf "__init__" "Table.__init__" (defArgs s_Table___init__) (defBody s_Table___init__) (defScope s_Table___init__) .none kV_Table___init__ dc_Table___init__ pm_Table___init__ an_Table___init__ cd_Table___init__ ct_Table___init__), sl_Table___init__⟩) (e_Table___init__ : PySem.W.codeIn K cd_Table___init__ "Table.__init__" = true) (k_Table___init__ : PySem.W.keepIn K (.ref f_Table___init__) = true)
    (a_Ltable : PySem.W.nsIn K mainGlobals "_law_table" = some (some (.ref f_Ltable)))
    (l_Ltable : K.lookup f_Ltable = some ⟨oc_Ltable, od_Ltable, .func (PySem.W.fnOf "_law_table" "_law_table" (defArgs s_Ltable) (defBody s_Ltable) (defScope s_Ltable) .none kV_Ltable dc_Ltable pm_Ltable an_Ltable cd_Ltable ct_Ltable), sl_Ltable⟩) (e_Ltable : PySem.W.codeIn K cd_Ltable "_law_table" = true) (k_Ltable : PySem.W.keepIn K (.ref f_Ltable) = true)
    (a_Ltriples : PySem.W.nsIn K mainGlobals "_law_triples" = some (some (.ref f_Ltriples)))
    (l_Ltriples : K.lookup f_Ltriples = some ⟨oc_Ltriples, od_Ltriples, .func (PySem.W.fnOf "_law_triples" "_law_triples" (defArgs s_Ltriples) (defBody s_Ltriples) (defScope s_Ltriples) .none kV_Ltriples dc_Ltriples pm_Ltriples an_Ltriples cd_Ltriples ct_Ltriples), sl_Ltriples⟩) (e_Ltriples : PySem.W.codeIn K cd_Ltriples "_law_triples" = true) (k_Ltriples : PySem.W.keepIn K (.ref f_Ltriples) = true)
    (a_Lboth : PySem.W.nsIn K mainGlobals "_law_both" = some (some (.ref f_Lboth)))
    (l_Lboth : K.lookup f_Lboth = some ⟨oc_Lboth, od_Lboth, .func (PySem.W.fnOf "_law_both" "_law_both" (defArgs s_Lboth) (defBody s_Lboth) (defScope s_Lboth) .none kV_Lboth dc_Lboth pm_Lboth an_Lboth cd_Lboth ct_Lboth), sl_Lboth⟩) (e_Lboth : PySem.W.codeIn K cd_Lboth "_law_both" = true) (k_Lboth : PySem.W.keepIn K (.ref f_Lboth) = true)
    (a_Ldue : PySem.W.nsIn K mainGlobals "_law_due" = some (some (.ref f_Ldue)))
    (l_Ldue : K.lookup f_Ldue = some ⟨oc_Ldue, od_Ldue, .func (PySem.W.fnOf "_law_due" "_law_due" (defArgs s_Ldue) (defBody s_Ldue) (defScope s_Ldue) .none kV_Ldue dc_Ldue pm_Ldue an_Ldue cd_Ldue ct_Ldue), sl_Ldue⟩) (e_Ldue : PySem.W.codeIn K cd_Ldue "_law_due" = true) (k_Ldue : PySem.W.keepIn K (.ref f_Ldue) = true)
    (a_check_modulus : PySem.W.nsIn K mainGlobals "check_modulus" = some (some (.ref f_check_modulus)))
    (l_check_modulus : K.lookup f_check_modulus = some ⟨oc_check_modulus, od_check_modulus, .func (PySem.W.fnOf "check_modulus" "check_modulus" (defArgs s_check_modulus) (defBody s_check_modulus) (defScope s_check_modulus) .none kV_check_modulus dc_check_modulus pm_check_modulus an_check_modulus cd_check_modulus ct_check_modulus), sl_check_modulus⟩) (e_check_modulus : PySem.W.codeIn K cd_check_modulus "check_modulus" = true) (k_check_modulus : PySem.W.keepIn K (.ref f_check_modulus) = true)
    (a_triples : PySem.W.nsIn K mainGlobals "triples" = some (some (.ref f_triples)))
    (l_triples : K.lookup f_triples = some ⟨oc_triples, od_triples, .func (PySem.W.fnOf "triples" "triples" (defArgs s_triples) (defBody s_triples) (defScope s_triples) .none kV_triples dc_triples pm_triples an_triples cd_triples ct_triples), sl_triples⟩) (e_triples : PySem.W.codeIn K cd_triples "triples" = true) (k_triples : PySem.W.keepIn K (.ref f_triples) = true)
    (a_Table_count : PySem.W.findIn K (.ref C_Table) "count" = some (some (.ref f_Table_count))) (i_Table_count : PySem.W.isFn K (.ref f_Table_count) = true)
    (l_Table_count : K.lookup f_Table_count = some ⟨oc_Table_count, od_Table_count, .func (PySem.W.fnOf "count" "Table.count" (defArgs s_Table_count) (defBody s_Table_count) (defScope s_Table_count) .none kV_Table_count dc_Table_count pm_Table_count an_Table_count cd_Table_count ct_Table_count), sl_Table_count⟩) (e_Table_count : PySem.W.codeIn K cd_Table_count "Table.count" = true) (k_Table_count : PySem.W.keepIn K (.ref f_Table_count) = true)
    (a_Table_check_kind : PySem.W.findIn K (.ref C_Table) "check_kind" = some (some (.ref f_Table_check_kind))) (i_Table_check_kind : PySem.W.isFn K (.ref f_Table_check_kind) = true)
    (l_Table_check_kind : K.lookup f_Table_check_kind = some ⟨oc_Table_check_kind, od_Table_check_kind, .func (PySem.W.fnOf "check_kind" "Table.check_kind" (defArgs s_Table_check_kind) (defBody s_Table_check_kind) (defScope s_Table_check_kind) .none kV_Table_check_kind dc_Table_check_kind pm_Table_check_kind an_Table_check_kind cd_Table_check_kind ct_Table_check_kind), sl_Table_check_kind⟩) (e_Table_check_kind : PySem.W.codeIn K cd_Table_check_kind "Table.check_kind" = true) (k_Table_check_kind : PySem.W.keepIn K (.ref f_Table_check_kind) = true)
    (a_Table_join : PySem.W.findIn K (.ref C_Table) "join" = some (some (.ref f_Table_join))) (i_Table_join : PySem.W.isFn K (.ref f_Table_join) = true)
    (l_Table_join : K.lookup f_Table_join = some ⟨oc_Table_join, od_Table_join, .func (PySem.W.fnOf "join" "Table.join" (defArgs s_Table_join) (defBody s_Table_join) (defScope s_Table_join) .none kV_Table_join dc_Table_join pm_Table_join an_Table_join cd_Table_join ct_Table_join), sl_Table_join⟩) (e_Table_join : PySem.W.codeIn K cd_Table_join "Table.join" = true) (k_Table_join : PySem.W.keepIn K (.ref f_Table_join) = true)
    (a_Table_toll : PySem.W.findIn K (.ref C_Table) "toll" = some (some (.ref f_Table_toll))) (i_Table_toll : PySem.W.isFn K (.ref f_Table_toll) = true)
    (l_Table_toll : K.lookup f_Table_toll = some ⟨oc_Table_toll, od_Table_toll, .func (PySem.W.fnOf "toll" "Table.toll" (defArgs s_Table_toll) (defBody s_Table_toll) (defScope s_Table_toll) .none kV_Table_toll dc_Table_toll pm_Table_toll an_Table_toll cd_Table_toll ct_Table_toll), sl_Table_toll⟩) (e_Table_toll : PySem.W.codeIn K cd_Table_toll "Table.toll" = true) (k_Table_toll : PySem.W.keepIn K (.ref f_Table_toll) = true)
    (a_left_first : PySem.W.nsIn K mainGlobals "left_first" = some (some (.ref f_left_first)))
    (l_left_first : K.lookup f_left_first = some ⟨oc_left_first, od_left_first, .func (PySem.W.fnOf "left_first" "left_first" (defArgs s_left_first) (defBody s_left_first) (defScope s_left_first) .none kV_left_first dc_left_first pm_left_first an_left_first cd_left_first ct_left_first), sl_left_first⟩) (e_left_first : PySem.W.codeIn K cd_left_first "left_first" = true) (k_left_first : PySem.W.keepIn K (.ref f_left_first) = true)
    (a_right_first : PySem.W.nsIn K mainGlobals "right_first" = some (some (.ref f_right_first)))
    (l_right_first : K.lookup f_right_first = some ⟨oc_right_first, od_right_first, .func (PySem.W.fnOf "right_first" "right_first" (defArgs s_right_first) (defBody s_right_first) (defScope s_right_first) .none kV_right_first dc_right_first pm_right_first an_right_first cd_right_first ct_right_first), sl_right_first⟩) (e_right_first : PySem.W.codeIn K cd_right_first "right_first" = true) (k_right_first : PySem.W.keepIn K (.ref f_right_first) = true)
    (a_both_modulo : PySem.W.nsIn K mainGlobals "both_modulo" = some (some (.ref f_both_modulo)))
    (l_both_modulo : K.lookup f_both_modulo = some ⟨oc_both_modulo, od_both_modulo, .func (PySem.W.fnOf "both_modulo" "both_modulo" (defArgs s_both_modulo) (defBody s_both_modulo) (defScope s_both_modulo) .none kV_both_modulo dc_both_modulo pm_both_modulo an_both_modulo cd_both_modulo ct_both_modulo), sl_both_modulo⟩) (e_both_modulo : PySem.W.codeIn K cd_both_modulo "both_modulo" = true) (k_both_modulo : PySem.W.keepIn K (.ref f_both_modulo) = true)
    (a_firm_modulo : PySem.W.nsIn K mainGlobals "firm_modulo" = some (some (.ref f_firm_modulo)))
    (l_firm_modulo : K.lookup f_firm_modulo = some ⟨oc_firm_modulo, od_firm_modulo, .func (PySem.W.fnOf "firm_modulo" "firm_modulo" (defArgs s_firm_modulo) (defBody s_firm_modulo) (defScope s_firm_modulo) .none kV_firm_modulo dc_firm_modulo pm_firm_modulo an_firm_modulo cd_firm_modulo ct_firm_modulo), sl_firm_modulo⟩) (e_firm_modulo : PySem.W.codeIn K cd_firm_modulo "firm_modulo" = true) (k_firm_modulo : PySem.W.keepIn K (.ref f_firm_modulo) = true)
    (a_is_triple : PySem.W.nsIn K mainGlobals "is_triple" = some (some (.ref f_is_triple)))
    (l_is_triple : K.lookup f_is_triple = some ⟨oc_is_triple, od_is_triple, .func (PySem.W.fnOf "is_triple" "is_triple" (defArgs s_is_triple) (defBody s_is_triple) (defScope s_is_triple) .none kV_is_triple dc_is_triple pm_is_triple an_is_triple cd_is_triple ct_is_triple), sl_is_triple⟩) (e_is_triple : PySem.W.codeIn K cd_is_triple "is_triple" = true) (k_is_triple : PySem.W.keepIn K (.ref f_is_triple) = true)
    (a_shows_firm_modulo : PySem.W.nsIn K mainGlobals "shows_firm_modulo" = some (some (.ref f_shows_firm_modulo)))
    (l_shows_firm_modulo : K.lookup f_shows_firm_modulo = some ⟨oc_shows_firm_modulo, od_shows_firm_modulo, .func (PySem.W.fnOf "shows_firm_modulo" "shows_firm_modulo" (defArgs s_shows_firm_modulo) (defBody s_shows_firm_modulo) (defScope s_shows_firm_modulo) .none kV_shows_firm_modulo dc_shows_firm_modulo pm_shows_firm_modulo an_shows_firm_modulo cd_shows_firm_modulo ct_shows_firm_modulo), sl_shows_firm_modulo⟩) (e_shows_firm_modulo : PySem.W.codeIn K cd_shows_firm_modulo "shows_firm_modulo" = true) (k_shows_firm_modulo : PySem.W.keepIn K (.ref f_shows_firm_modulo) = true)
    (a_Lrefused : PySem.W.nsIn K mainGlobals "_law_refused" = some (some (.ref f_Lrefused)))
    (l_Lrefused : K.lookup f_Lrefused = some ⟨oc_Lrefused, od_Lrefused, .func (PySem.W.fnOf "_law_refused" "_law_refused" (defArgs s_Lrefused) (defBody s_Lrefused) (defScope s_Lrefused) .none kV_Lrefused dc_Lrefused pm_Lrefused an_Lrefused cd_Lrefused ct_Lrefused), sl_Lrefused⟩) (e_Lrefused : PySem.W.codeIn K cd_Lrefused "_law_refused" = true) (k_Lrefused : PySem.W.keepIn K (.ref f_Lrefused) = true)
    (a_Lright : PySem.W.nsIn K mainGlobals "_law_right" = some (some (.ref f_Lright)))
    (l_Lright : K.lookup f_Lright = some ⟨oc_Lright, od_Lright, .func (PySem.W.fnOf "_law_right" "_law_right" (defArgs s_Lright) (defBody s_Lright) (defScope s_Lright) .none kV_Lright dc_Lright pm_Lright an_Lright (.ref cc_) ct_Lright), sl_Lright⟩) (e_Lright : PySem.W.codeIn K (.ref cc_) "_law_right" = true) (k_Lright : PySem.W.keepIn K (.ref f_Lright) = true)
    (a_Lis_true : PySem.W.nsIn K mainGlobals "_law_is_true" = some (some (.ref f_Lis_true)))
    (l_Lis_true : K.lookup f_Lis_true = some ⟨oc_Lis_true, od_Lis_true, .func (PySem.W.fnOf "_law_is_true" "_law_is_true" (defArgs s_Lis_true) (defBody s_Lis_true) (defScope s_Lis_true) .none kV_Lis_true dc_Lis_true pm_Lis_true an_Lis_true cd_Lis_true ct_Lis_true), sl_Lis_true⟩) (e_Lis_true : PySem.W.codeIn K cd_Lis_true "_law_is_true" = true) (k_Lis_true : PySem.W.keepIn K (.ref f_Lis_true) = true)
    (a_Lby_turns_right : PySem.W.nsIn K mainGlobals "_law_by_turns_right" = some (some (.ref f_Lby_turns_right)))
    (l_Lby_turns_right : K.lookup f_Lby_turns_right = some ⟨oc_Lby_turns_right, od_Lby_turns_right, .func (PySem.W.fnOf "_law_by_turns_right" "_law_by_turns_right" (defArgs s_Lby_turns_right) (defBody s_Lby_turns_right) (defScope s_Lby_turns_right) .none kV_Lby_turns_right dc_Lby_turns_right pm_Lby_turns_right an_Lby_turns_right cd_Lby_turns_right ct_Lby_turns_right), sl_Lby_turns_right⟩) (e_Lby_turns_right : PySem.W.codeIn K cd_Lby_turns_right "_law_by_turns_right" = true) (k_Lby_turns_right : PySem.W.keepIn K (.ref f_Lby_turns_right) = true)
    (a_law : PySem.W.nsIn K mainGlobals "law" = some (some (.ref f_law)))
    (l_law : K.lookup f_law = some ⟨oc_law, od_law, .func (PySem.W.fnOf "law" "law" (defArgs s_law) (defBody s_law) (defScope s_law) .none kV_law dc_law pm_law an_law cd_law ct_law), sl_law⟩) (e_law : PySem.W.codeIn K cd_law "law" = true) (k_law : PySem.W.keepIn K (.ref f_law) = true)
    (aC_Table : PySem.W.nsIn K mainGlobals "Table" = some (some (.ref C_Table))) (pg_Table : PySem.W.plainGet K C_Table Str.empty = true) (hd_Table : PySem.W.hasDictIn K C_Table = true) (po_Table : PySem.W.plainOver K C_Table = true) (sa_Table : PySem.W.findIn K (.ref C_Table) "__setattr__" = some (some (.builtin "object.__setattr__")))
    (n_Table_results : PySem.W.findIn K (.ref C_Table) "results" = some none)
    (n_Table_prices : PySem.W.findIn K (.ref C_Table) "prices" = some none)
    (mk_Table : PySem.W.makesIn K C_Table = true) (kc_Table : PySem.W.keepIn K (.ref C_Table) = true)
    (aC_TollError : PySem.W.nsIn K mainGlobals "TollError" = some (some (.ref C_TollError))) (lx_TollError : K.lookup C_TollError = some (excClassObj nm_TollError qn_TollError C_TollError N_TollError bs_TollError bm_TollError true sn_TollError sub_TollError ab_TollError col_TollError dd_TollError g0_TollError g1_TollError g2_TollError g3_TollError g5_TollError "ValueError.__new__")) (rb_TollError : PySem.HandSPX.refsVE bm_TollError = true) (sx_TollError : PySem.W.findIn K (.ref C_TollError) "__setattr__" = some (some (.builtin "object.__setattr__"))) (ex_TollError : PySem.W.subIn K (.ref C_TollError) (.type "BaseException") = some true) (tx_TollError : PySem.W.typeIn K (.ref C_TollError) = some (.type "type")) (kx_TollError : PySem.W.keepIn K (.ref C_TollError) = true)
    (rd_TollError : PySem.W.readsIn K C_TollError (.type "type") = true) (gt_TollError : PySem.W.specialIn K (.ref C_TollError) "__getattribute__" = some (some (.builtin "type.__getattribute__"))) (cv_TollError : PySem.W.findCls K (.ref C_TollError) (.type "type") "__init__" = some (.val (.ref f_TollError___init__)))
    (ic_TollError : PySem.W.isClsIn K C_TollError = true)
    (aC_BadModulus : PySem.W.nsIn K mainGlobals "BadModulus" = some (some (.ref C_BadModulus))) (lx_BadModulus : K.lookup C_BadModulus = some (excClassObj nm_BadModulus qn_BadModulus C_BadModulus N_BadModulus bs_BadModulus bm_BadModulus true sn_BadModulus sub_BadModulus ab_BadModulus col_BadModulus dd_BadModulus g0_BadModulus g1_BadModulus g2_BadModulus g3_BadModulus g5_BadModulus "ValueError.__new__")) (rb_BadModulus : PySem.HandSPX.refsVE bm_BadModulus = true) (sx_BadModulus : PySem.W.findIn K (.ref C_BadModulus) "__setattr__" = some (some (.builtin "object.__setattr__"))) (ex_BadModulus : PySem.W.subIn K (.ref C_BadModulus) (.type "BaseException") = some true) (tx_BadModulus : PySem.W.typeIn K (.ref C_BadModulus) = some (.type "type")) (kx_BadModulus : PySem.W.keepIn K (.ref C_BadModulus) = true)
    (ga_BadModulus : PySem.W.findIn K (.ref C_BadModulus) "__getattribute__" = some (some (.builtin "BaseException.__getattribute__"))) (gg_BadModulus : PySem.W.findIn K (.ref C_BadModulus) "__getattr__" = some none) (hx_BadModulus : PySem.W.hasDictIn K C_BadModulus = true)
    (sb_BadModulus_TollError : PySem.W.subIn K (.ref C_BadModulus) (.ref C_TollError) = some true)
    (xa_BadModulus_why : PySem.W.findIn K (.ref C_BadModulus) "why" = some none)
    (xa_BadModulus_modulus : PySem.W.findIn K (.ref C_BadModulus) "modulus" = some none)
    (a_TollError___init__ : PySem.W.findIn K (.ref C_TollError) "__init__" = some (some (.ref f_TollError___init__))) (i_TollError___init__ : PySem.W.typeIn K (.ref f_TollError___init__) = some (.type "function"))
    (l_TollError___init__ : K.lookup f_TollError___init__ = some ⟨oc_TollError___init__, od_TollError___init__, .func (PySem.W.fnOf "__init__" "TollError.__init__" (defArgs s_TollError___init__) (defBody s_TollError___init__) (defScope s_TollError___init__) (.ref Tu_TollError___init__) kV_TollError___init__ dc_TollError___init__ pm_TollError___init__ an_TollError___init__ cd_TollError___init__ ct_TollError___init__), sl_TollError___init__⟩) (e_TollError___init__ : PySem.W.codeIn K cd_TollError___init__ "TollError.__init__" = true) (k_TollError___init__ : PySem.W.keepIn K (.ref f_TollError___init__) = true)
    (lT_TollError___init__ : K.lookup Tu_TollError___init__ = some ⟨ocT_TollError___init__, odT_TollError___init__, .seq #[.str "invalid" tT_TollError___init__] nT_TollError___init__, slT_TollError___init__⟩)
    (a_BadModulus___init__ : PySem.W.findIn K (.ref C_BadModulus) "__init__" = some (some (.ref f_BadModulus___init__))) (i_BadModulus___init__ : PySem.W.typeIn K (.ref f_BadModulus___init__) = some (.type "function"))
    (l_BadModulus___init__ : K.lookup f_BadModulus___init__ = some ⟨oc_BadModulus___init__, od_BadModulus___init__, .func (PySem.W.fnOf "__init__" "BadModulus.__init__" (defArgs s_BadModulus___init__) (defBody s_BadModulus___init__) (defScope s_BadModulus___init__) .none kV_BadModulus___init__ dc_BadModulus___init__ pm_BadModulus___init__ an_BadModulus___init__ cd_BadModulus___init__ ct_BadModulus___init__), sl_BadModulus___init__⟩) (e_BadModulus___init__ : PySem.W.codeIn K cd_BadModulus___init__ "BadModulus.__init__" = true) (k_BadModulus___init__ : PySem.W.keepIn K (.ref f_BadModulus___init__) = true)
    (ss_BadModulus : PySem.W.subIn K (.ref C_BadModulus) (.ref C_BadModulus) = some true)
    (ic_BadModulus : PySem.W.isClsIn K C_BadModulus = true)
    (sb_BadModulus_BadModulus : PySem.W.subIn K (.ref C_BadModulus) (.ref C_BadModulus) = some true)
    (dc_BadModulus : PySem.W.findIn K (.ref C_BadModulus) "__class__" = some (some (.builtin "object.__class__"))) (mo_BadModulus : PySem.W.mroIn K C_BadModulus (.type "object") = some true)
    (oc_g : PySem.W.specialIn K (.builtin "object.__class__") "__get__" = some (some (.builtin "getset_descriptor.__get__"))) (oc_t : PySem.W.takesIn K (.builtin "object.__class__") = some true)
    (v_VE : PySem.W.findCls K (.type "ValueError") (.type "type") "__init__" = some (.val (.builtin "ValueError.__init__")))
    (z_all : PySem.W.nsIn K mainGlobals "all" = some none)
    (z_bool : PySem.W.nsIn K mainGlobals "bool" = some none)
    (z_enumerate : PySem.W.nsIn K mainGlobals "enumerate" = some none)
    (z_int : PySem.W.nsIn K mainGlobals "int" = some none)
    (z_isinstance : PySem.W.nsIn K mainGlobals "isinstance" = some none)
    (z_len : PySem.W.nsIn K mainGlobals "len" = some none)
    (z_list : PySem.W.nsIn K mainGlobals "list" = some none)
    (z_max : PySem.W.nsIn K mainGlobals "max" = some none)
    (z_range : PySem.W.nsIn K mainGlobals "range" = some none)
    (z_repr : PySem.W.nsIn K mainGlobals "repr" = some none)
    (z_tuple : PySem.W.nsIn K mainGlobals "tuple" = some none)
    (z_ValueError : PySem.W.nsIn K mainGlobals "ValueError" = some none)
    (q_MOST_KINDS : PySem.W.nsIn K mainGlobals "MOST_KINDS" = some (some (.int 5 t_MOST_KINDS)))
    (q_TOLL_BOUND : PySem.W.nsIn K mainGlobals "TOLL_BOUND" = some (some (.int 1000000000000 t_TOLL_BOUND)))
    (q_LEAST_MODULUS : PySem.W.nsIn K mainGlobals "LEAST_MODULUS" = some (some (.int 2 t_LEAST_MODULUS)))
    (q_MOST_MODULUS : PySem.W.nsIn K mainGlobals "MOST_MODULUS" = some (some (.int 1000000 t_MOST_MODULUS)))
    : ∃ fd : FuncData, (∀ (s : Shared) (u : Value), BindsTo s fd ⟨[u], []⟩ [("_law_script", u)]) ∧ ∀ base : Heap, K.In base → base.Ns mainGlobals mg → LamX.TabB base mg cc_ T_ → FnG l.prog w K mg base 12 fa fd P_law (spLaw K [T_]) := by
  have e := hfa.symm.trans (PySem.W.mg_of X G a_law)
  cases e
  have B : Bi mg := ⟨PySem.W.mg_none_of X G z_all, PySem.W.mg_none_of X G z_bool, PySem.W.mg_none_of X G z_enumerate, PySem.W.mg_none_of X G z_int, PySem.W.mg_none_of X G z_isinstance, PySem.W.mg_none_of X G z_len, PySem.W.mg_none_of X G z_list, PySem.W.mg_none_of X G z_max, PySem.W.mg_none_of X G z_range, PySem.W.mg_none_of X G z_repr, PySem.W.mg_none_of X G z_tuple, PySem.W.mg_none_of X G z_ValueError, ⟨_, PySem.W.mg_of X G q_MOST_KINDS⟩, ⟨_, PySem.W.mg_of X G q_TOLL_BOUND⟩, ⟨_, PySem.W.mg_of X G q_LEAST_MODULUS⟩, ⟨_, PySem.W.mg_of X G q_MOST_MODULUS⟩⟩
  have T_Table : ClsT K mg "Table" C_Table := ⟨⟨pg_Table, hd_Table, po_Table, sa_Table⟩, PySem.W.mg_of X G aC_Table⟩
  have A_Table : ∀ f ∈ (["results", "prices"] : List Str), NoAttr K C_Table f := fun f hf => by
    simp only [List.mem_cons, List.not_mem_nil, or_false] at hf
    rcases hf with rfl | rfl
    · exact n_Table_results
    · exact n_Table_prices
  have F_Lwell := fun_mk (st := s_Lwell) l_Lwell e_Lwell k_Lwell
  have F_Lmixed := fun_mk (st := s_Lmixed) l_Lmixed e_Lmixed k_Lmixed
  have F_Ldraw := fun_mk (st := s_Ldraw) l_Ldraw e_Ldraw k_Ldraw
  have F_Lshuffled := fun_mk (st := s_Lshuffled) l_Lshuffled e_Lshuffled k_Lshuffled
  have F_Lresult := fun_mk (st := s_Lresult) l_Lresult e_Lresult k_Lresult
  have F_Ljoins := fun_mk (st := s_Ljoins) l_Ljoins e_Ljoins k_Ljoins
  have F_Lone := fun_mk (st := s_Lone) l_Lone e_Lone k_Lone
  have F_Lby_worths := fun_mk (st := s_Lby_worths) l_Lby_worths e_Lby_worths k_Lby_worths
  have F_Ltolls := fun_mk (st := s_Ltolls) l_Ltolls e_Ltolls k_Ltolls
  have F_is_integer := fun_mk (st := s_is_integer) l_is_integer e_is_integer k_is_integer
  have F_is_between := fun_mk (st := s_is_between) l_is_between e_is_between k_is_between
  have F_check_grid := fun_mk (st := s_check_grid) l_check_grid e_check_grid k_check_grid
  have F_check_joins := fun_mk (st := s_check_joins) l_check_joins e_check_joins k_check_joins
  have F_Table___init__ := fun_mk (st := s_Table___init__) l_Table___init__ e_Table___init__ k_Table___init__
  have F_Ltable := fun_mk (st := s_Ltable) l_Ltable e_Ltable k_Ltable
  have F_Ltriples := fun_mk (st := s_Ltriples) l_Ltriples e_Ltriples k_Ltriples
  have F_Lboth := fun_mk (st := s_Lboth) l_Lboth e_Lboth k_Lboth
  have F_Ldue := fun_mk (st := s_Ldue) l_Ldue e_Ldue k_Ldue
  have F_check_modulus := fun_mk (st := s_check_modulus) l_check_modulus e_check_modulus k_check_modulus
  have F_triples := fun_mk (st := s_triples) l_triples e_triples k_triples
  have F_Table_count := fun_mk (st := s_Table_count) l_Table_count e_Table_count k_Table_count
  have F_Table_check_kind := fun_mk (st := s_Table_check_kind) l_Table_check_kind e_Table_check_kind k_Table_check_kind
  have F_Table_join := fun_mk (st := s_Table_join) l_Table_join e_Table_join k_Table_join
  have F_Table_toll := fun_mk (st := s_Table_toll) l_Table_toll e_Table_toll k_Table_toll
  have F_left_first := fun_mk (st := s_left_first) l_left_first e_left_first k_left_first
  have F_right_first := fun_mk (st := s_right_first) l_right_first e_right_first k_right_first
  have F_both_modulo := fun_mk (st := s_both_modulo) l_both_modulo e_both_modulo k_both_modulo
  have F_firm_modulo := fun_mk (st := s_firm_modulo) l_firm_modulo e_firm_modulo k_firm_modulo
  have F_is_triple := fun_mk (st := s_is_triple) l_is_triple e_is_triple k_is_triple
  have F_shows_firm_modulo := fun_mk (st := s_shows_firm_modulo) l_shows_firm_modulo e_shows_firm_modulo k_shows_firm_modulo
  have F_Lrefused := fun_mk (st := s_Lrefused) l_Lrefused e_Lrefused k_Lrefused
  have F_Lright := fun_mk (st := s_Lright) l_Lright e_Lright k_Lright
  have F_Lis_true := fun_mk (st := s_Lis_true) l_Lis_true e_Lis_true k_Lis_true
  have F_Lby_turns_right := fun_mk (st := s_Lby_turns_right) l_Lby_turns_right e_Lby_turns_right k_Lby_turns_right
  have F_law := fun_mk (st := s_law) l_law e_law k_law
  have F_TollError___init__ := fundS_mk (st := s_TollError___init__) l_TollError___init__ e_TollError___init__ k_TollError___init__ lT_TollError___init__
  have F_BadModulus___init__ := fun_mk (st := s_BadModulus___init__) l_BadModulus___init__ e_BadModulus___init__ k_BadModulus___init__
  have b_BadModulus___init__ := F_BadModulus___init__.binds (ps := P_BadModulus___init__) fun _ _ _ _ _ _ us hl => match us, hl with | [_, _], _ => rfl
  have ox_TollError := oex_mk lx_TollError rb_TollError sx_TollError ex_TollError tx_TollError kx_TollError
  have ox_BadModulus := oex_mk lx_BadModulus rb_BadModulus sx_BadModulus ex_BadModulus tx_BadModulus kx_BadModulus
  have xc_BadModulus : XfC K C_BadModulus := ⟨ga_BadModulus, gg_BadModulus, ex_BadModulus, hx_BadModulus⟩
  have X_TollError : ExT K mg "TollError" C_TollError := ⟨ox_TollError, PySem.W.mg_of X G aC_TollError, ⟨rd_TollError, gt_TollError⟩⟩
  have b_Lwell := F_Lwell.binds (ps := P_Lwell) fun _ _ _ _ _ _ us hl => match us, hl with | [_], _ => rfl
  have b_Lmixed := F_Lmixed.binds (ps := P_Lmixed) fun _ _ _ _ _ _ us hl => match us, hl with | [_, _], _ => rfl
  have b_Ldraw := F_Ldraw.binds (ps := P_Ldraw) fun _ _ _ _ _ _ us hl => match us, hl with | [_, _], _ => rfl
  have b_Lshuffled := F_Lshuffled.binds (ps := P_Lshuffled) fun _ _ _ _ _ _ us hl => match us, hl with | [_, _], _ => rfl
  have b_Lresult := F_Lresult.binds (ps := P_Lresult) fun _ _ _ _ _ _ us hl => match us, hl with | [_, _, _, _, _], _ => rfl
  have b_Ljoins := F_Ljoins.binds (ps := P_Ljoins) fun _ _ _ _ _ _ us hl => match us, hl with | [_, _], _ => rfl
  have b_Lone := F_Lone.binds (ps := P_Lone) fun _ _ _ _ _ _ us hl => match us, hl with | [_, _], _ => rfl
  have b_Lby_worths := F_Lby_worths.binds (ps := P_Lby_worths) fun _ _ _ _ _ _ us hl => match us, hl with | [_, _], _ => rfl
  have b_Ltolls := F_Ltolls.binds (ps := P_Ltolls) fun _ _ _ _ _ _ us hl => match us, hl with | [_, _, _], _ => rfl
  have b_is_integer := F_is_integer.binds (ps := P_is_integer) fun _ _ _ _ _ _ us hl => match us, hl with | [_], _ => rfl
  have b_check_joins := F_check_joins.binds (ps := P_check_joins) fun _ _ _ _ _ _ us hl => match us, hl with | [_], _ => rfl
  have b_Table___init__ := F_Table___init__.binds (ps := P_Table___init__) fun _ _ _ _ _ _ us hl => match us, hl with | [_, _, _], _ => rfl
  have b_Ltable := F_Ltable.binds (ps := P_Ltable) fun _ _ _ _ _ _ us hl => match us, hl with | [_, _], _ => rfl
  have b_Ltriples := F_Ltriples.binds (ps := P_Ltriples) fun _ _ _ _ _ _ us hl => match us, hl with | [_], _ => rfl
  have b_Lboth := F_Lboth.binds (ps := P_Lboth) fun _ _ _ _ _ _ us hl => match us, hl with | [_, _, _], _ => rfl
  have b_Ldue := F_Ldue.binds (ps := P_Ldue) fun _ _ _ _ _ _ us hl => match us, hl with | [_, _, _], _ => rfl
  have b_check_modulus := F_check_modulus.binds (ps := P_check_modulus) fun _ _ _ _ _ _ us hl => match us, hl with | [_], _ => rfl
  have b_triples := F_triples.binds (ps := P_triples) fun _ _ _ _ _ _ us hl => match us, hl with | [_], _ => rfl
  have b_Table_count := F_Table_count.binds (ps := P_Table_count) fun _ _ _ _ _ _ us hl => match us, hl with | [_], _ => rfl
  have b_Table_check_kind := F_Table_check_kind.binds (ps := P_Table_check_kind) fun _ _ _ _ _ _ us hl => match us, hl with | [_, _], _ => rfl
  have b_Table_join := F_Table_join.binds (ps := P_Table_join) fun _ _ _ _ _ _ us hl => match us, hl with | [_, _, _], _ => rfl
  have b_Table_toll := F_Table_toll.binds (ps := P_Table_toll) fun _ _ _ _ _ _ us hl => match us, hl with | [_, _, _], _ => rfl
  have b_left_first := F_left_first.binds (ps := P_left_first) fun _ _ _ _ _ _ us hl => match us, hl with | [_, _], _ => rfl
  have b_right_first := F_right_first.binds (ps := P_right_first) fun _ _ _ _ _ _ us hl => match us, hl with | [_, _], _ => rfl
  have b_both_modulo := F_both_modulo.binds (ps := P_both_modulo) fun _ _ _ _ _ _ us hl => match us, hl with | [_, _, _], _ => rfl
  have b_firm_modulo := F_firm_modulo.binds (ps := P_firm_modulo) fun _ _ _ _ _ _ us hl => match us, hl with | [_, _], _ => rfl
  have b_is_triple := F_is_triple.binds (ps := P_is_triple) fun _ _ _ _ _ _ us hl => match us, hl with | [_, _], _ => rfl
  have b_shows_firm_modulo := F_shows_firm_modulo.binds (ps := P_shows_firm_modulo) fun _ _ _ _ _ _ us hl => match us, hl with | [_, _, _], _ => rfl
  have b_Lrefused := F_Lrefused.binds (ps := P_Lrefused) fun _ _ _ _ _ _ us hl => match us, hl with | [_], _ => rfl
  have b_Lright := F_Lright.binds (ps := P_Lright) fun _ _ _ _ _ _ us hl => match us, hl with | [_], _ => rfl
  have b_Lis_true := F_Lis_true.binds (ps := P_Lis_true) fun _ _ _ _ _ _ us hl => match us, hl with | [_, _, _, _, _], _ => rfl
  have b_Lby_turns_right := F_Lby_turns_right.binds (ps := P_Lby_turns_right) fun _ _ _ _ _ _ us hl => match us, hl with | [_, _], _ => rfl
  have b_law := F_law.binds (ps := P_law) fun _ _ _ _ _ _ us hl => match us, hl with | [_], _ => rfl
  refine ⟨PySem.W.fnOf "law" "law" (defArgs s_law) (defBody s_law) (defScope s_law) .none kV_law dc_law pm_law an_law cd_law ct_law, fun s v => .of_eq rfl, fun base _ _ TB_ => ?_⟩
  let C : CT := ({ cl := fun n => match n with | 0 => C_Table | 20 => C_BadModulus | 10 => C_TollError | _ => (0 : Addr), t := [T_] } : CT)
  let t_TollError : ∀ base : Heap, XCal l.prog w K mg base C_TollError 1 P_TollError___init__ (spTE K) := fun base => ⟨f_TollError___init__, _, ok_TollError___init__ F_TollError___init__ B v_VE, k_TollError___init__, binds_TollError___init__ F_TollError___init__, ⟨cv_TollError, rfl⟩, a_TollError___init__, i_TollError___init__⟩
  let x_BadModulus : XCalU l.prog w K mg base C 20 "BadModulus" 3 P_BadModulus___init__ okv1 ["modulus", "why"] (fl1 "modulus") [] [] := ⟨f_BadModulus___init__, _, ok_BadModulus___init__ F_BadModulus___init__ B X_TollError (t_TollError base) ox_BadModulus xa_BadModulus_why xa_BadModulus_modulus, b_BadModulus___init__, .nil, ox_BadModulus, PySem.W.mg_of X G aC_BadModulus, a_BadModulus___init__, i_BadModulus___init__⟩
  have em_TollError : ∀ (k : Nat) (b : Bool), ([(20, true)] : List (Nat × Bool)).lookup k = some b → PySem.W.exmOne K (.ref (C k)) (.ref (C 10)) = some b := look_all (all_cons (P := fun k b => PySem.W.exmOne K (.ref (C k)) (.ref (C 10)) = some b) (k := 20) (exm_mk ex_TollError ic_TollError tx_TollError sb_BadModulus_TollError) (all_nil))
  have xf_TollError : ∀ (k : Nat), ([(20, true)] : List (Nat × Bool)).lookup k = some true → XfC K (C k) ∧ ∀ f ∈ (["why", "modulus"] : List Str), PySem.W.findIn K (.ref (C k)) f = some none := fun k hk => look_all (P := fun k b => b = true → XfC K (C k) ∧ ∀ f ∈ (["why", "modulus"] : List Str), PySem.W.findIn K (.ref (C k)) f = some none) (all_cons (P := fun k b => b = true → XfC K (C k) ∧ ∀ f ∈ (["why", "modulus"] : List Str), PySem.W.findIn K (.ref (C k)) f = some none) (k := 20) (b := true) (fun _ => ⟨xc_BadModulus, fun f hf => by
    simp only [List.mem_cons, List.not_mem_nil, or_false] at hf
    rcases hf with rfl | rfl
    · exact xa_BadModulus_why
    · exact xa_BadModulus_modulus
    ⟩) (all_nil)) k true hk rfl
  have ki_BadModulus : ∀ (k : Nat) (b : Bool), ([(20, true)] : List (Nat × Bool)).lookup k = some b → PySem.W.kitOne K (.ref (C k)) (.ref (C 20)) = some b := look_all (all_cons (P := fun k b => PySem.W.kitOne K (.ref (C k)) (.ref (C 20)) = some b) (k := 20) (kit_mk ic_BadModulus tx_BadModulus sb_BadModulus_BadModulus ss_BadModulus) (all_nil))
  have ec_TollError : ∀ (k : Nat), ([(20, true)] : List (Nat × Bool)).lookup k = some true → ExcC K (C k) := fun k hk => look_all (P := fun k b => b = true → ExcC K (C k)) (all_cons (P := fun k b => b = true → ExcC K (C k)) (k := 20) (b := true) (fun _ => ⟨ga_BadModulus, gg_BadModulus, ex_BadModulus, hx_BadModulus, dc_BadModulus, oc_g, oc_t, mo_BadModulus⟩) (all_nil)) k true hk rfl
  let c_Lwell : CalU l.prog w K mg base C "_law_well" 1 P_Lwell 1 run_Lwell := ⟨f_Lwell, _, ok_Lwell (P := l.prog) (w := w) (base := base) (C := C) F_Lwell B T_Table A_Table, PySem.W.mg_of X G a_Lwell, k_Lwell, b_Lwell, Pure.defF⟩
  let c_Lmixed : CalU l.prog w K mg base C "_law_mixed" 1 P_Lmixed 2 run_Lmixed := ⟨f_Lmixed, _, ok_Lmixed (P := l.prog) (w := w) (base := base) (C := C) F_Lmixed B T_Table A_Table, PySem.W.mg_of X G a_Lmixed, k_Lmixed, b_Lmixed, Pure.defF⟩
  let c_Ldraw : CalU l.prog w K mg base C "_law_draw" 2 P_Ldraw 2 run_Ldraw := ⟨f_Ldraw, _, ok_Ldraw (P := l.prog) (w := w) (base := base) (C := C) F_Ldraw B T_Table A_Table c_Lmixed, PySem.W.mg_of X G a_Ldraw, k_Ldraw, b_Ldraw, Pure.defF⟩
  let c_Lshuffled : CalU l.prog w K mg base C "_law_shuffled" 3 P_Lshuffled 2 run_Lshuffled := ⟨f_Lshuffled, _, ok_Lshuffled (P := l.prog) (w := w) (base := base) (C := C) F_Lshuffled B T_Table A_Table c_Ldraw, PySem.W.mg_of X G a_Lshuffled, k_Lshuffled, b_Lshuffled, Pure.defF⟩
  let c_Lresult : CalU l.prog w K mg base C "_law_result" 3 P_Lresult 5 run_Lresult := ⟨f_Lresult, _, ok_Lresult (P := l.prog) (w := w) (base := base) (C := C) F_Lresult B T_Table A_Table c_Ldraw, PySem.W.mg_of X G a_Lresult, k_Lresult, b_Lresult, Pure.defF⟩
  let c_Ljoins : CalU l.prog w K mg base C "_law_joins" 4 P_Ljoins 2 run_Ljoins := ⟨f_Ljoins, _, ok_Ljoins (P := l.prog) (w := w) (base := base) (C := C) F_Ljoins B T_Table A_Table c_Ldraw c_Lshuffled c_Lresult, PySem.W.mg_of X G a_Ljoins, k_Ljoins, b_Ljoins, Pure.defF⟩
  let c_Lone : CalU l.prog w K mg base C "_law_one" 3 P_Lone 2 run_Lone := ⟨f_Lone, _, ok_Lone (P := l.prog) (w := w) (base := base) (C := C) F_Lone B T_Table A_Table c_Ldraw, PySem.W.mg_of X G a_Lone, k_Lone, b_Lone, Pure.defF⟩
  let c_Lby_worths : CalU l.prog w K mg base C "_law_by_worths" 1 P_Lby_worths 2 run_Lby_worths := ⟨f_Lby_worths, _, ok_Lby_worths (P := l.prog) (w := w) (base := base) (C := C) F_Lby_worths B T_Table A_Table, PySem.W.mg_of X G a_Lby_worths, k_Lby_worths, b_Lby_worths, Pure.defF⟩
  let c_Ltolls : CalU l.prog w K mg base C "_law_tolls" 4 P_Ltolls 3 run_Ltolls := ⟨f_Ltolls, _, ok_Ltolls (P := l.prog) (w := w) (base := base) (C := C) F_Ltolls B T_Table A_Table c_Ldraw c_Lone c_Lby_worths, PySem.W.mg_of X G a_Ltolls, k_Ltolls, b_Ltolls, Pure.defF⟩
  let c_is_integer : CalU l.prog w K mg base C "is_integer" 1 P_is_integer 1 run_is_integer := ⟨f_is_integer, _, ok_is_integer (P := l.prog) (w := w) (base := base) (C := C) F_is_integer B T_Table A_Table, PySem.W.mg_of X G a_is_integer, k_is_integer, b_is_integer, Pure.defF⟩
  let c_is_between : CalKU l.prog w K mg base C "is_between" 2 P_is_between ["low", "high"] 3 run_is_between (gapp 1) (gapp 1) := ⟨f_is_between, _, ok_is_between (P := l.prog) (w := w) (base := base) (C := C) F_is_between B T_Table A_Table c_is_integer, PySem.W.mg_of X G a_is_between, k_is_between, (kbp12 F_is_between rfl (fun _ _ _ _ _ _ _ _ _ => rfl)), Pure.defF⟩
  let c_check_grid : CalKU l.prog w K mg base C "check_grid" 3 P_check_grid ["size", "low", "high"] 6 run_check_grid (gapp 3) (gapp 3) := ⟨f_check_grid, _, ok_check_grid (P := l.prog) (w := w) (base := base) (C := C) F_check_grid B T_Table A_Table c_is_between, PySem.W.mg_of X G a_check_grid, k_check_grid, (kbp33 F_check_grid rfl (fun _ _ _ _ _ _ _ _ _ _ _ _ => rfl)), Pure.defF⟩
  let c_check_joins : CalU l.prog w K mg base C "check_joins" 4 P_check_joins 1 run_check_joins := ⟨f_check_joins, _, ok_check_joins (P := l.prog) (w := w) (base := base) (C := C) F_check_joins B T_Table A_Table c_check_grid, PySem.W.mg_of X G a_check_joins, k_check_joins, b_check_joins, Pure.defF⟩
  let c_Table___init__ : ICalU l.prog w K mg base C 0 5 P_Table___init__ 2 run_Table___init__ := ⟨f_Table___init__, _, ok_Table___init__ (P := l.prog) (w := w) (base := base) (C := C) F_Table___init__ B T_Table A_Table c_check_joins c_check_grid, ⟨mk_Table, a_Table___init__, i_Table___init__, kc_Table⟩, b_Table___init__, Pure.defF⟩
  let c_Ltable : CalU l.prog w K mg base C "_law_table" 7 P_Ltable 2 run_Ltable := ⟨f_Ltable, _, ok_Ltable (P := l.prog) (w := w) (base := base) (C := C) F_Ltable B T_Table A_Table c_Table___init__, PySem.W.mg_of X G a_Ltable, k_Ltable, b_Ltable, Pure.defF⟩
  let c_Ltriples : CalU l.prog w K mg base C "_law_triples" 1 P_Ltriples 1 run_Ltriples := ⟨f_Ltriples, _, ok_Ltriples (P := l.prog) (w := w) (base := base) (C := C) F_Ltriples B T_Table A_Table, PySem.W.mg_of X G a_Ltriples, k_Ltriples, b_Ltriples, Pure.defF⟩
  let c_Lboth : CalU l.prog w K mg base C "_law_both" 1 P_Lboth 3 run_Lboth := ⟨f_Lboth, _, ok_Lboth (P := l.prog) (w := w) (base := base) (C := C) F_Lboth B T_Table A_Table, PySem.W.mg_of X G a_Lboth, k_Lboth, b_Lboth, Pure.defF⟩
  let c_Ldue : CalU l.prog w K mg base C "_law_due" 2 P_Ldue 3 run_Ldue := ⟨f_Ldue, _, ok_Ldue (P := l.prog) (w := w) (base := base) (C := C) F_Ldue B T_Table A_Table c_Ltriples c_Lboth, PySem.W.mg_of X G a_Ldue, k_Ldue, b_Ldue, Pure.defF⟩
  let c_check_modulus : CalU l.prog w K mg base C "check_modulus" 6 P_check_modulus 1 run_check_modulus := ⟨f_check_modulus, _, ok_check_modulus (P := l.prog) (w := w) (base := base) (C := C) F_check_modulus B T_Table A_Table c_is_between x_BadModulus, PySem.W.mg_of X G a_check_modulus, k_check_modulus, b_check_modulus, Pure.defF⟩
  let c_triples : CalU l.prog w K mg base C "triples" 1 P_triples 1 run_triples := ⟨f_triples, _, ok_triples (P := l.prog) (w := w) (base := base) (C := C) F_triples B T_Table A_Table, PySem.W.mg_of X G a_triples, k_triples, b_triples, Pure.defF⟩
  let c_Table_count : MCalU l.prog w K mg base C 0 "count" 1 P_Table_count 0 run_Table_count := ⟨f_Table_count, _, ok_Table_count (P := l.prog) (w := w) (base := base) (C := C) F_Table_count B T_Table A_Table, ⟨a_Table_count, i_Table_count, k_Table_count⟩, b_Table_count, Pure.defF⟩
  let c_Table_check_kind : MCalU l.prog w K mg base C 0 "check_kind" 3 P_Table_check_kind 1 run_Table_check_kind := ⟨f_Table_check_kind, _, ok_Table_check_kind (P := l.prog) (w := w) (base := base) (C := C) F_Table_check_kind B T_Table A_Table c_is_between c_Table_count, ⟨a_Table_check_kind, i_Table_check_kind, k_Table_check_kind⟩, b_Table_check_kind, Pure.defF⟩
  let c_Table_join : MCalU l.prog w K mg base C 0 "join" 4 P_Table_join 2 run_Table_join := ⟨f_Table_join, _, ok_Table_join (P := l.prog) (w := w) (base := base) (C := C) F_Table_join B T_Table A_Table c_Table_check_kind, ⟨a_Table_join, i_Table_join, k_Table_join⟩, b_Table_join, Pure.defF⟩
  let c_Table_toll : MCalU l.prog w K mg base C 0 "toll" 4 P_Table_toll 2 run_Table_toll := ⟨f_Table_toll, _, ok_Table_toll (P := l.prog) (w := w) (base := base) (C := C) F_Table_toll B T_Table A_Table c_Table_check_kind, ⟨a_Table_toll, i_Table_toll, k_Table_toll⟩, b_Table_toll, Pure.defF⟩
  let c_left_first : CalU l.prog w K mg base C "left_first" 5 P_left_first 2 run_left_first := ⟨f_left_first, _, ok_left_first (P := l.prog) (w := w) (base := base) (C := C) F_left_first B T_Table A_Table c_Table_join c_Table_toll, PySem.W.mg_of X G a_left_first, k_left_first, b_left_first, Pure.defF⟩
  let c_right_first : CalU l.prog w K mg base C "right_first" 5 P_right_first 2 run_right_first := ⟨f_right_first, _, ok_right_first (P := l.prog) (w := w) (base := base) (C := C) F_right_first B T_Table A_Table c_Table_join c_Table_toll, PySem.W.mg_of X G a_right_first, k_right_first, b_right_first, Pure.defF⟩
  let c_both_modulo : CalU l.prog w K mg base C "both_modulo" 6 P_both_modulo 3 run_both_modulo := ⟨f_both_modulo, _, ok_both_modulo (P := l.prog) (w := w) (base := base) (C := C) F_both_modulo B T_Table A_Table c_left_first c_right_first, PySem.W.mg_of X G a_both_modulo, k_both_modulo, b_both_modulo, Pure.defF⟩
  let c_firm_modulo : CalU l.prog w K mg base C "firm_modulo" 7 P_firm_modulo 2 run_firm_modulo := ⟨f_firm_modulo, _, ok_firm_modulo (P := l.prog) (w := w) (base := base) (C := C) F_firm_modulo B T_Table A_Table c_check_modulus c_triples c_Table_count c_both_modulo, PySem.W.mg_of X G a_firm_modulo, k_firm_modulo, b_firm_modulo, Pure.defF⟩
  let c_is_triple : CalU l.prog w K mg base C "is_triple" 3 P_is_triple 2 run_is_triple := ⟨f_is_triple, _, ok_is_triple (P := l.prog) (w := w) (base := base) (C := C) F_is_triple B T_Table A_Table c_is_between c_Table_count, PySem.W.mg_of X G a_is_triple, k_is_triple, b_is_triple, Pure.defF⟩
  let c_shows_firm_modulo : CalU l.prog w K mg base C "shows_firm_modulo" 8 P_shows_firm_modulo 3 run_shows_firm_modulo := ⟨f_shows_firm_modulo, _, ok_shows_firm_modulo (P := l.prog) (w := w) (base := base) (C := C) F_shows_firm_modulo B T_Table A_Table c_check_modulus c_both_modulo c_is_triple c_is_integer c_firm_modulo, PySem.W.mg_of X G a_shows_firm_modulo, k_shows_firm_modulo, b_shows_firm_modulo, Pure.defF⟩
  let c_Lrefused : CalL l.prog w K mg base C "_law_refused" 1 [(20, true)] (.ref (C 10)) ph_Lrefused := ok_Lrefused (P := l.prog) (w := w) (base := base) (C := C) F_Lrefused (PySem.W.mg_of X G a_Lrefused) b_Lrefused B T_Table A_Table (PySem.W.mg_of X G aC_BadModulus) ki_BadModulus ec_TollError (PySem.W.mg_of X G aC_TollError) em_TollError xf_TollError
  let c_Lright : CalU l.prog w K mg base C "_law_right" 11 P_Lright 1 run_Lright := ⟨f_Lright, _, ok_Lright (P := l.prog) (w := w) (base := base) (C := C) F_Lright B T_Table A_Table c_Ljoins c_Lone c_Ltolls c_Ltable c_Ldue c_firm_modulo c_shows_firm_modulo c_Lrefused c_Ldraw rfl TB_ (List.mem_singleton.mpr rfl), PySem.W.mg_of X G a_Lright, k_Lright, b_Lright, Pure.defF⟩
  let c_Lis_true : CalU l.prog w K mg base C "_law_is_true" 2 P_Lis_true 5 run_Lis_true := ⟨f_Lis_true, _, ok_Lis_true (P := l.prog) (w := w) (base := base) (C := C) F_Lis_true B T_Table A_Table c_Lboth, PySem.W.mg_of X G a_Lis_true, k_Lis_true, b_Lis_true, Pure.defF⟩
  let c_Lby_turns_right : CalU l.prog w K mg base C "_law_by_turns_right" 9 P_Lby_turns_right 2 run_Lby_turns_right := ⟨f_Lby_turns_right, _, ok_Lby_turns_right (P := l.prog) (w := w) (base := base) (C := C) F_Lby_turns_right B T_Table A_Table c_Lshuffled c_Ldraw c_Ltolls c_Ltable c_Ldue c_shows_firm_modulo c_firm_modulo c_Lis_true, PySem.W.mg_of X G a_Lby_turns_right, k_Lby_turns_right, b_Lby_turns_right, Pure.defF⟩
  exact law_fng rfl law_true (ok_law (P := l.prog) (w := w) (base := base) (C := C) F_law B T_Table A_Table c_Lwell c_Lright c_Lby_turns_right c_Ljoins)
theorem walk_law {l : PySem.W.OpenLaw} {q : Program} {loose : List Str} {XP : (Str → Option Value) → Heap → Prop} {YP : World → Heap → Prop} {d : DefRec} {K : Params → PySem.W.Frag} {c T : Addr} (hn : l.most = some 63) (hdf : d.params.defaults = [])
    (hY : ∀ (w : World) (h : Heap), YP w h → (K w.params).In h) (hTab : ∀ (w : World) (h : Heap), YP w h → h.get? T = some (PySem.W.tabObj #[])) (nT : ∀ w : World, (K w.params).lookup T = none)
    (F : ∀ (w : World) (mg : Str → Option Value) (fa : Addr) (h : Heap), (K w.params).In h → h.Ns mainGlobals mg → mg d.name = some (.ref fa) →
      ∃ fd : FuncData, (∀ (s : Shared) (u : Value), BindsTo s fd ⟨[u], []⟩ [("_law_script", u)]) ∧ ∀ base : Heap, (K w.params).In base → base.Ns mainGlobals mg → LamX.TabB base mg c T → FnG l.prog w (K w.params) mg base 12 fa fd P_law (spLaw (K w.params) [T])) (hC : ∀ w : World, PySem.W.codeHdIn (K w.params) c T = true) :
    PySem.W.WalkO q loose XP YP l.row.toRowW d [] (fun f vs => PySem.call f vs) :=
  J.walk_goT (n := 63) (k := 12) (x := "_law_script") (sp := fun w => spLaw (K w.params) [T]) hn (by decide) hdf ⟨rfl, by decide, by decide⟩ hY hTab hC nT F fun _ _ a ns hl hT hS => ⟨a, ns, rfl, hS, hl, fun p hp => by rw [List.mem_singleton.mp hp]; exact hT, fun _ => rfl⟩
end J
open PySem PySem.W PyProof.Rows
set_option maxRecDepth 100000 in
set_option maxHeartbeats 0 in
theorem PySem.Challenge.cw_jointoll_k40_firm_modulo_holds : PySem.Challenge.rw_jointoll_k40_firm_modulo.Holds := by
  w_on; o_law; k_head; (case hw => w_witness2)
  k_fill
  refine' J.walk_law (l := PySem.Challenge.rw_jointoll_k40_firm_modulo) (c := _) rfl rfl (fun w h Y => PySem.W.km_in_of Y) (fun w h Y => PySem.W.km_tabs_of Y _ (List.mem_singleton.mpr rfl)) ?nT ?F ?hC
  case F =>
    intro w mg fa h KX G hmg
    refine' J.all_mk KX G hmg ?a_Lwell ?l_Lwell ?e_Lwell ?k_Lwell ?a_Lmixed ?l_Lmixed ?e_Lmixed ?k_Lmixed ?a_Ldraw ?l_Ldraw ?e_Ldraw ?k_Ldraw ?a_Lshuffled ?l_Lshuffled ?e_Lshuffled ?k_Lshuffled ?a_Lresult ?l_Lresult ?e_Lresult ?k_Lresult ?a_Ljoins ?l_Ljoins ?e_Ljoins ?k_Ljoins ?a_Lone ?l_Lone ?e_Lone ?k_Lone ?a_Lby_worths ?l_Lby_worths ?e_Lby_worths ?k_Lby_worths ?a_Ltolls ?l_Ltolls ?e_Ltolls ?k_Ltolls ?a_is_integer ?l_is_integer ?e_is_integer ?k_is_integer ?a_is_between ?l_is_between ?e_is_between ?k_is_between ?a_check_grid ?l_check_grid ?e_check_grid ?k_check_grid ?a_check_joins ?l_check_joins ?e_check_joins ?k_check_joins ?a_Table___init__ ?i_Table___init__ ?l_Table___init__ ?e_Table___init__ ?k_Table___init__ ?a_Ltable ?l_Ltable ?e_Ltable ?k_Ltable ?a_Ltriples ?l_Ltriples ?e_Ltriples ?k_Ltriples ?a_Lboth ?l_Lboth ?e_Lboth ?k_Lboth ?a_Ldue ?l_Ldue ?e_Ldue ?k_Ldue ?a_check_modulus ?l_check_modulus ?e_check_modulus ?k_check_modulus ?a_triples ?l_triples ?e_triples ?k_triples ?a_Table_count ?i_Table_count ?l_Table_count ?e_Table_count ?k_Table_count ?a_Table_check_kind ?i_Table_check_kind ?l_Table_check_kind ?e_Table_check_kind ?k_Table_check_kind ?a_Table_join ?i_Table_join ?l_Table_join ?e_Table_join ?k_Table_join ?a_Table_toll ?i_Table_toll ?l_Table_toll ?e_Table_toll ?k_Table_toll ?a_left_first ?l_left_first ?e_left_first ?k_left_first ?a_right_first ?l_right_first ?e_right_first ?k_right_first ?a_both_modulo ?l_both_modulo ?e_both_modulo ?k_both_modulo ?a_firm_modulo ?l_firm_modulo ?e_firm_modulo ?k_firm_modulo ?a_is_triple ?l_is_triple ?e_is_triple ?k_is_triple ?a_shows_firm_modulo ?l_shows_firm_modulo ?e_shows_firm_modulo ?k_shows_firm_modulo ?a_Lrefused ?l_Lrefused ?e_Lrefused ?k_Lrefused ?a_Lright ?l_Lright ?e_Lright ?k_Lright ?a_Lis_true ?l_Lis_true ?e_Lis_true ?k_Lis_true ?a_Lby_turns_right ?l_Lby_turns_right ?e_Lby_turns_right ?k_Lby_turns_right ?a_law ?l_law ?e_law ?k_law ?aC_Table ?pg_Table ?hd_Table ?po_Table ?sa_Table ?n_Table_results ?n_Table_prices ?mk_Table ?kc_Table ?aC_TollError ?lx_TollError ?rb_TollError ?sx_TollError ?ex_TollError ?tx_TollError ?kx_TollError ?rd_TollError ?gt_TollError ?cv_TollError ?ic_TollError ?aC_BadModulus ?lx_BadModulus ?rb_BadModulus ?sx_BadModulus ?ex_BadModulus ?tx_BadModulus ?kx_BadModulus ?ga_BadModulus ?gg_BadModulus ?hx_BadModulus ?sb_BadModulus_TollError ?xa_BadModulus_why ?xa_BadModulus_modulus ?a_TollError___init__ ?i_TollError___init__ ?l_TollError___init__ ?e_TollError___init__ ?k_TollError___init__ ?lT_TollError___init__ ?a_BadModulus___init__ ?i_BadModulus___init__ ?l_BadModulus___init__ ?e_BadModulus___init__ ?k_BadModulus___init__ ?ss_BadModulus ?ic_BadModulus ?sb_BadModulus_BadModulus ?dc_BadModulus ?mo_BadModulus ?oc_g ?oc_t ?v_VE ?z_all ?z_bool ?z_enumerate ?z_int ?z_isinstance ?z_len ?z_list ?z_max ?z_range ?z_repr ?z_tuple ?z_ValueError ?q_MOST_KINDS ?q_TOLL_BOUND ?q_LEAST_MODULUS ?q_MOST_MODULUS
    (case aC_Table => k_is); (case aC_TollError => k_is); (case aC_BadModulus => k_is); (case a_Lwell => k_is); (case l_Lwell => k_is); (case e_Lwell => k_is)
    (case k_Lwell => k_is); (case a_Lmixed => k_is); (case l_Lmixed => k_is); (case e_Lmixed => k_is); (case k_Lmixed => k_is); (case a_Ldraw => k_is)
    (case l_Ldraw => k_is); (case e_Ldraw => k_is); (case k_Ldraw => k_is); (case a_Lshuffled => k_is); (case l_Lshuffled => k_is); (case e_Lshuffled => k_is)
    (case k_Lshuffled => k_is); (case a_Lresult => k_is); (case l_Lresult => k_is); (case e_Lresult => k_is); (case k_Lresult => k_is); (case a_Ljoins => k_is)
    (case l_Ljoins => k_is); (case e_Ljoins => k_is); (case k_Ljoins => k_is); (case a_Lone => k_is); (case l_Lone => k_is); (case e_Lone => k_is)
    (case k_Lone => k_is); (case a_Lby_worths => k_is); (case l_Lby_worths => k_is); (case e_Lby_worths => k_is); (case k_Lby_worths => k_is); (case a_Ltolls => k_is)
    (case l_Ltolls => k_is); (case e_Ltolls => k_is); (case k_Ltolls => k_is); (case a_is_integer => k_is); (case l_is_integer => k_is); (case e_is_integer => k_is)
    (case k_is_integer => k_is); (case a_is_between => k_is); (case l_is_between => k_is); (case e_is_between => k_is); (case k_is_between => k_is); (case a_check_grid => k_is)
    (case l_check_grid => k_is); (case e_check_grid => k_is); (case k_check_grid => k_is); (case a_check_joins => k_is); (case l_check_joins => k_is); (case e_check_joins => k_is)
    (case k_check_joins => k_is); (case a_Table___init__ => k_is); (case i_Table___init__ => k_is); (case l_Table___init__ => k_is); (case e_Table___init__ => k_is); (case k_Table___init__ => k_is)
    (case a_Ltable => k_is); (case l_Ltable => k_is); (case e_Ltable => k_is); (case k_Ltable => k_is); (case a_Ltriples => k_is); (case l_Ltriples => k_is)
    (case e_Ltriples => k_is); (case k_Ltriples => k_is); (case a_Lboth => k_is); (case l_Lboth => k_is); (case e_Lboth => k_is); (case k_Lboth => k_is)
    (case a_Ldue => k_is); (case l_Ldue => k_is); (case e_Ldue => k_is); (case k_Ldue => k_is); (case a_check_modulus => k_is); (case l_check_modulus => k_is)
    (case e_check_modulus => k_is); (case k_check_modulus => k_is); (case a_triples => k_is); (case l_triples => k_is); (case e_triples => k_is); (case k_triples => k_is)
    (case a_Table_count => k_is); (case i_Table_count => k_is); (case l_Table_count => k_is); (case e_Table_count => k_is); (case k_Table_count => k_is); (case a_Table_check_kind => k_is)
    (case i_Table_check_kind => k_is); (case l_Table_check_kind => k_is); (case e_Table_check_kind => k_is); (case k_Table_check_kind => k_is); (case a_Table_join => k_is); (case i_Table_join => k_is)
    (case l_Table_join => k_is); (case e_Table_join => k_is); (case k_Table_join => k_is); (case a_Table_toll => k_is); (case i_Table_toll => k_is); (case l_Table_toll => k_is)
    (case e_Table_toll => k_is); (case k_Table_toll => k_is); (case a_left_first => k_is); (case l_left_first => k_is); (case e_left_first => k_is); (case k_left_first => k_is)
    (case a_right_first => k_is); (case l_right_first => k_is); (case e_right_first => k_is); (case k_right_first => k_is); (case a_both_modulo => k_is); (case l_both_modulo => k_is)
    (case e_both_modulo => k_is); (case k_both_modulo => k_is); (case a_firm_modulo => k_is); (case l_firm_modulo => k_is); (case e_firm_modulo => k_is); (case k_firm_modulo => k_is)
    (case a_is_triple => k_is); (case l_is_triple => k_is); (case e_is_triple => k_is); (case k_is_triple => k_is); (case a_shows_firm_modulo => k_is); (case l_shows_firm_modulo => k_is)
    (case e_shows_firm_modulo => k_is); (case k_shows_firm_modulo => k_is); (case a_Lrefused => k_is); (case l_Lrefused => k_is); (case e_Lrefused => k_is); (case k_Lrefused => k_is)
    (case a_Lright => k_is); (case l_Lright => k_is); (case e_Lright => k_is); (case k_Lright => k_is); (case a_Lis_true => k_is); (case l_Lis_true => k_is)
    (case e_Lis_true => k_is); (case k_Lis_true => k_is); (case a_Lby_turns_right => k_is); (case l_Lby_turns_right => k_is); (case e_Lby_turns_right => k_is); (case k_Lby_turns_right => k_is)
    (case a_law => k_is); (case l_law => k_is); (case e_law => k_is); (case k_law => k_is); (case pg_Table => k_is); (case hd_Table => k_is)
    (case po_Table => k_is); (case sa_Table => k_is); (case n_Table_results => k_is); (case n_Table_prices => k_is); (case mk_Table => k_is); (case kc_Table => k_is)
    (case lx_TollError => k_is); (case rb_TollError => decide +kernel); (case sx_TollError => k_is); (case ex_TollError => k_is); (case tx_TollError => k_is); (case kx_TollError => k_is)
    (case rd_TollError => k_is); (case gt_TollError => k_is); (case ic_TollError => k_is); (case lx_BadModulus => k_is); (case rb_BadModulus => decide +kernel); (case sx_BadModulus => k_is)
    (case ex_BadModulus => k_is); (case tx_BadModulus => k_is); (case kx_BadModulus => k_is); (case ga_BadModulus => k_is); (case gg_BadModulus => k_is); (case hx_BadModulus => k_is)
    (case xa_BadModulus_why => k_is); (case xa_BadModulus_modulus => k_is); (case a_TollError___init__ => k_is); (case i_TollError___init__ => k_is); (case l_TollError___init__ => k_is); (case e_TollError___init__ => k_is)
    (case k_TollError___init__ => k_is); (case lT_TollError___init__ => k_is); (case a_BadModulus___init__ => k_is); (case i_BadModulus___init__ => k_is); (case l_BadModulus___init__ => k_is); (case e_BadModulus___init__ => k_is)
    (case k_BadModulus___init__ => k_is); (case ss_BadModulus => k_is); (case ic_BadModulus => k_is); (case dc_BadModulus => k_is); (case mo_BadModulus => k_is); (case oc_g => k_is)
    (case oc_t => k_is); (case v_VE => k_is); (case z_all => k_is); (case z_bool => k_is); (case z_enumerate => k_is); (case z_int => k_is)
    (case z_isinstance => k_is); (case z_len => k_is); (case z_list => k_is); (case z_max => k_is); (case z_range => k_is); (case z_repr => k_is)
    (case z_tuple => k_is); (case z_ValueError => k_is); (case q_MOST_KINDS => k_is); (case q_TOLL_BOUND => k_is); (case q_LEAST_MODULUS => k_is); (case q_MOST_MODULUS => k_is)
    (case cv_TollError => k_is); (case sb_BadModulus_TollError => k_is); (case sb_BadModulus_BadModulus => k_is)
  case nT => intro w; kernel_rfl
  case hC => intro w; kernel_rfl
#print axioms PySem.Challenge.cw_jointoll_k40_firm_modulo_holds
