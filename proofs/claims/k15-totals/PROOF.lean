import PyProof.Rows.All
import Wide.All
import OpenK.AllK
import Wide.FinOn
import HandS.ForMost
import HandS.Flow
import HandS.IsInst
import HandS.Style
import HandS.Wide
import HandS.Zip
import HandS.Deep
import HandS.Conv
import HandS.Rev
import HandS.TupAny
import KE.GoesEnumKw
import HandS.RaiseMore
import HandS.SortKw
import PySem.Challenge.RW_jointoll_k15_whole_totals_of_long_rows
set_option Elab.async false
set_option maxRecDepth 100000
set_option maxHeartbeats 4000000
set_option linter.all false
/-! Heaps with a written part M (addresses that may change), data judged outside of M. -/
namespace J
open PySem L2 PySem.Spec PyProof.Rows
/-- the heap without the addresses in M -/
def hid (M : List Addr) (H : Hp) : Hp := fun b => if b ∈ M then none else H b
/-- all of M is there -/
def Al (M : List Addr) (H : Hp) : Prop := ∀ m ∈ M, H m ≠ none
/-- all but s is kept -/
def But (s : Addr) (H H' : Hp) : Prop := ∀ b o, b ≠ s → H b = some o → H' b = some o
section
variable {M : List Addr} {H H' H2 : Hp} {a b p s D : Addr} {o : HO} {K : PySem.W.Frag}
theorem hid_in (h : b ∈ M) : hid M H b = none := by unfold hid; rw [if_pos h]
theorem hid_out (h : b ∉ M) : hid M H b = H b := by unfold hid; rw [if_neg h]
theorem hid_some (h : hid M H b = some o) : H b = some o ∧ b ∉ M := by
  by_cases e : b ∈ M
  · rw [hid_in e] at h; cases h
  · rw [hid_out e] at h; exact ⟨h, e⟩
theorem hid_le : Same (hid M H) H := fun _ _ h => (hid_some h).1
theorem hid_drop : Same (hid (D :: M) H) (hid M H) := fun b o h => by
  obtain ⟨h1, h2⟩ := hid_some h
  rw [hid_out (fun z => h2 (List.mem_cons_of_mem _ z))]; exact h1
theorem hid_nil : hid [] H = H := by funext b; exact hid_out (by simp)
theorem _root_.L2.Same.hid (x : Same H H') : Same (hid M H) (hid M H') := fun b o h => by
  obtain ⟨h1, h2⟩ := hid_some h
  rw [hid_out h2]; exact x b o h1
theorem But.hid (x : But s H H') (hs : s ∈ M) : Same (hid M H) (hid M H') := fun b o h => by
  obtain ⟨h1, h2⟩ := hid_some h
  rw [hid_out h2]; exact x b o (fun z => h2 (by rw [z]; exact hs)) h1
theorem But.refl : But s H H := fun _ _ _ h => h
theorem But.trans (x : But s H H') (y : But s H' H2) : But s H H2 := fun b o n h => y b o n (x b o n h)
theorem But.same (x : Same H H') : But s H H' := fun b o _ h => x b o h
theorem But.then (x : But s H H') (y : Same H' H2) : But s H H2 := fun b o n h => y b o (x b o n h)
theorem But.aft (y : Same H H') (x : But s H' H2) : But s H H2 := fun b o n h => x b o n (y b o h)
theorem But.upd : But s H (upd H s o) := fun b o' n h => by rw [upd_ne n]; exact h
theorem hid_write (h : D ∈ M) : hid M (upd H D o) = hid M H := by
  funext b
  by_cases e : b ∈ M
  · rw [hid_in e, hid_in e]
  · rw [hid_out e, hid_out e, upd_ne (fun z => e (by rw [z]; exact h))]
theorem new_same (h : H p = none) : Same H (upd H p o) := fun b o' e => by rw [upd_ne (ne_of_none e h)]; exact e
theorem al_nil : Al [] H := fun _ h => by cases h
theorem Al.cons (x : Al M H) (h : H D = some o) : Al (D :: M) H := fun m hm => by
  rcases List.mem_cons.mp hm with e | e
  · rw [e, h]; exact fun z => nomatch z
  · exact x m e
theorem Al.mono (x : Al M H) (y : Same H H') : Al M H' := fun m hm z => by
  cases e : H m with
  | none => exact x m hm e
  | some o => rw [y m o e] at z; cases z
theorem Al.but (x : Al M H) (y : But s H H') (hs : H' s = some o) : Al M H' := fun m hm z => by
  by_cases q : m = s
  · rw [q, hs] at z; cases z
  · cases e : H m with
    | none => exact x m hm e
    | some o => rw [y m o q e] at z; cases z
theorem Al.tail (x : Al (D :: M) H) : Al M H := fun m hm => x m (List.mem_cons_of_mem _ hm)
theorem Al.new (x : Al M H) (h : H p = none) : p ∉ M := fun z => x p z h
theorem Al.upd (x : Al M H) : Al M (upd H D o) := fun m hm z => by
  by_cases e : m = D
  · rw [e, upd_same] at z; cases z
  · rw [upd_ne e] at z; exact x m hm z
theorem hid_new (x : Al M H) (h : H p = none) : hid M (upd H p o) p = some o := by rw [hid_out (x.new h), upd_same]
theorem _root_.L2.SqT.mono {xs : List V} (e : Same H H') (h : SqT K H a xs) : SqT K H' a xs := by
  rcases h with (h | ⟨o, h⟩) | h
  · exact .inl (.inl (e _ _ h))
  · exact .inl (.inr ⟨o, e _ _ h⟩)
  · exact .inr h
theorem _root_.L2.SqL.mono {xs : List V} (e : Same H H') (h : SqL K H a xs) : SqL K H' a xs := e.seq h
mutual
theorem dp_mono (s : Same H H') : ∀ {v : V} {d : PyData}, Dp K H v d → Dp K H' v d
  | _, _, .non => .non
  | _, _, .bl b => .bl b
  | _, _, .int i => .int i
  | _, _, .str x => .str x
  | _, _, .lst h a => .lst (SqL.mono s h) (dpAll_mono s a)
  | _, _, .tup h a => .tup (SqT.mono s h) (dpAll_mono s a)
theorem dpAll_mono (s : Same H H') : ∀ {vs : List V} {ds : List PyData}, DpAll K H vs ds → DpAll K H' vs ds
  | _, _, .nil => .nil
  | _, _, .cons h t => .cons (dp_mono s h) (dpAll_mono s t)
end
theorem _root_.L2.Dp.mono {v : V} {d : PyData} (x : Dp K H v d) (s : Same H H') : Dp K H' v d := dp_mono s x
theorem _root_.L2.DpAll.mono {v : List V} {d : List PyData} (x : DpAll K H v d) (s : Same H H') : DpAll K H' v d := dpAll_mono s x
theorem dpAll_length : ∀ {vs : List V} {ds : List PyData}, DpAll K H vs ds → vs.length = ds.length
  | _, _, .nil => rfl
  | _, _, .cons _ t => congrArg Nat.succ (dpAll_length t)
theorem dpAll_get : ∀ {vs : List V} {ds : List PyData} {i : Nat} {d : PyData}, DpAll K H vs ds → ds[i]? = some d → ∃ v, vs[i]? = some v ∧ Dp K H v d
  | _, _, _, _, .nil, e => by simp at e
  | _, _, 0, _, .cons h _, e => by simp at e; subst e; exact ⟨_, rfl, h⟩
  | _, _, i + 1, _, .cons _ t, e => by
    obtain ⟨v, h1, h2⟩ := dpAll_get t (i := i) (by simpa using e)
    exact ⟨v, by simpa using h1, h2⟩
theorem dpAll_of : ∀ {vs : List V} {ds : List PyData} {i : Nat} {v : V}, DpAll K H vs ds → vs[i]? = some v → ∃ d, ds[i]? = some d ∧ Dp K H v d
  | _, _, _, _, .nil, e => by simp at e
  | _, _, 0, _, .cons h _, e => by simp at e; subst e; exact ⟨_, rfl, h⟩
  | _, _, i + 1, _, .cons _ t, e => by
    obtain ⟨v, h1, h2⟩ := dpAll_of t (i := i) (by simpa using e)
    exact ⟨v, by simpa using h1, h2⟩
theorem dpAll_append : ∀ {vs ws : List V} {ds es : List PyData}, DpAll K H vs ds → DpAll K H ws es → DpAll K H (vs ++ ws) (ds ++ es)
  | _, _, _, _, .nil, h => h
  | _, _, _, _, .cons h t, h' => .cons h (dpAll_append t h')
theorem dp_lst {ds : List PyData} (h : Dp K H (.ref a) (.list ds)) : ∃ xs, SqL K H a xs ∧ DpAll K H xs ds := by
  cases h with | lst h t => exact ⟨_, h, t⟩
theorem dp_tup {ds : List PyData} (h : Dp K H (.ref a) (.tuple ds)) : ∃ xs, SqT K H a xs ∧ DpAll K H xs ds := by
  cases h with | tup h t => exact ⟨_, h, t⟩
theorem dp_lstV {v : V} {ds : List PyData} (h : Dp K H v (.list ds)) : ∃ a xs, v = .ref a ∧ SqL K H a xs ∧ DpAll K H xs ds := by
  cases h with | lst h t => exact ⟨_, _, rfl, h, t⟩
theorem dp_tupV {v : V} {ds : List PyData} (h : Dp K H v (.tuple ds)) : ∃ a xs, v = .ref a ∧ SqT K H a xs ∧ DpAll K H xs ds := by
  cases h with | tup h t => exact ⟨_, _, rfl, h, t⟩
theorem dp_int {v : V} {i : Int} (h : Dp K H v (.int i)) : v = .int i := by cases h; rfl
theorem dp_bl {v : V} {i : Bool} (h : Dp K H v (.bool i)) : v = .bl i := by cases h; rfl
theorem dp_str {v : V} {i : Str} (h : Dp K H v (.str i)) : v = .str i := by cases h; rfl
theorem dp_non {v : V} (h : Dp K H v .none) : v = .non := by cases h; rfl
theorem dpAll_ints : ∀ {ns : List Int} {xs : List V}, DpAll K H xs (ns.map PyData.int) → xs = ns.map V.int
  | [], _, .nil => rfl
  | _ :: _, _, .cons h t => by cases h; rw [dpAll_ints t]; rfl
theorem ints_dpAll : ∀ (ns : List Int), DpAll K H (ns.map V.int) (ns.map PyData.int)
  | [] => .nil
  | _ :: t => .cons (.int _) (ints_dpAll t)
end
end J

/-! List comprehensions with several for clauses, clause by clause: Runs says what one clause's whole loop does within the block; pe_lc3 is the rule for three clauses. -/
namespace J
open PySem L2 PySem.Spec PyProof.Rows
abbrev Evs := List Expr
abbrev St := L2.St
/-- the tests of a clause, one behind another -/
abbrev testsOf (fs : Evs) (v : Env) : Sem Bool := forIn fs true fun c r => if r = true then do let ok ← isTrue c v (eval c v); pure (ForInStep.yield ok) else pure (ForInStep.yield r)
/-- what stands behind a kept item, ahead of the next turn k: the next clause's start, or the append -/
abbrev Bk := Value → Env → Sem Fin → Sem Fin
/-- the shape of a turn of the clause d -/
def Shape (e : Expr) (d : Nat) (tg src : Expr) (fs : Evs) (bk : Bk) : Prop := ∀ (it acc : Value) (v : Env),
  compTurn e d it acc v = (standAt src.pos >>= fun _ => pyNext it >>= fun r => match r with
    | none => pure (.done .next)
    | some u => letOwnedTupleGo tg it u >>= fun _ => assign tg v u >>= fun _ => testsOf fs v >>= fun k =>
        if k = true then bk acc v (again (.compLoop e d it acc v)) else again (.compLoop e d it acc v))
abbrev bkApp (elt : Expr) : Bk := fun acc v k => (eval elt v >>= fun x => call (.builtin "list.append") [acc, x] >>= fun _ => pure ()) >>= fun _ => k
abbrev bkNext (e : Expr) (d : Nat) (src : Expr) : Bk := fun acc v k => eval src v >>= fun x => standAt src.pos >>= fun _ => foldedSetIterable src v x >>= fun x =>
  holding [x] (pyIter x) >>= fun i => runOwn (.compStart e (d + 1) i acc v) v >>= fun _ => k
/-- the loop of a clause by an invariant; the kept item's part hands on to any next turn k -/
theorem loop_by {prog : Program} {w : World} {A : Around} {R : Result → Shared → Prop} {s : Shared} {elt : Expr} {gs : List Comprehension} {sc : Scope} {ps : Pos} {d : Nat} {tg src : Expr} {fs : Evs} {bk : Bk} {it acc : Value} {v : Env} (S : Shape (.ListComp elt gs sc ps) d tg src fs bk) (W : Nat → Shared → Prop)
    (turn : ∀ n s, W n s → wpAny (model prog w) A (pyNext it) (fun r s1 => match r with
      | none => R (.ok .next) s1
      | some u => wpAny (model prog w) A (letOwnedTupleGo tg it u) (fun _ s2 => wpAny (model prog w) A (assign tg v u) (fun _ s3 => wpAny (model prog w) A (testsOf fs v)
          (fun b s4 => if b = true then ∀ (k : Sem Fin) (Q : Fin → Shared → Prop) (E : Value → Shared → Prop), (∀ s5, (∃ m, m < n ∧ W m s5) → wpAny (model prog w) A k Q E s5) → wpAny (model prog w) A (bk acc v k) Q E s4 else ∃ m, m < n ∧ W m s4) (fun _ _ => False) s3) (fun _ _ => False) s2) (fun _ _ => False) s1) (fun _ _ => False) s)
    (n : Nat) (h : W n s) : codeAny (model prog w) A (.compLoop (.ListComp elt gs sc ps) d it acc v) R s := by
  have no : ∀ {Z : Value → Shared → Prop} (a : Value) (b : Shared), False → Z a b := fun _ _ z => z.elim
  refine codeAny_loop rfl W (fun n s hw => ?_) n h
  show wpAny _ A ((compTurn _ d it acc v).onRaise (fun x => do noteFrame x v; theTreesLotGoes x)) _ _ s
  refine wpAny_noted ?_
  rw [S it acc v]
  refine wpAny_bind (wpAny_standAt (wpAny_bind (wpAny_mono (turn n s hw) (fun r s1 h1 => ?_) no)))
  match r, h1 with
  | none, h1 => exact wpAny_pure h1
  | some u, h1 =>
    refine wpAny_bind (wpAny_mono h1 (fun _ s2 h2 => wpAny_bind (wpAny_mono h2 (fun _ s3 h3 => wpAny_bind (wpAny_mono h3 (fun k s4 h4 => ?_) no)) no)) no)
    match k, h4 with
    | false, h4 => exact wpAny_pure ⟨rfl, h4⟩
    | true, h4 => exact h4 _ _ _ fun s5 h5 => wpAny_pure ⟨rfl, h5⟩

/-- a clause's reading, its source walked by J: Nx is reached when the source is through; kept is what a kept item asks -/
def tIn (J : It) (g : TG) (tt : TT) (kept : (Hp → Prop) → St → Hp → Prop) (vs : List Nat) (Nx : Hp → Prop) (σ : St) (H0 : Hp) : Prop :=
  ∃ W : Nat → Nat → Hp → Prop, (∃ m, W 0 m H0) ∧ ∀ i m H, W i m H → (J.stop i H ∧ Nx H) ∨ (J.go i H ∧ ∃ N1 : Hp → Prop, (∀ H', N1 H' → ∃ m', m' < m ∧ W (i + 1) m' H') ∧
    ∀ x H', J.yld i H x H' → g x (wipe σ vs) H' fun σ3 H3 => wipe σ3 vs = wipe σ vs ∧ tt σ3 H3 fun k H4 => if k = true then kept N1 σ3 H4 else N1 H4)
/-- the last clause: the item goes to the list at D -/
def kLast (D : Addr) (te : TE) : (Hp → Prop) → St → Hp → Prop := fun N σ H => te σ H fun y H2 => ∃ acc, H2 D = some (.lst acc) ∧ acc.length < sizeLine ∧ N (upd H2 D (.lst (acc ++ [y])))
/-- a clause with another behind it -/
def kNext (wi : TI) (g : TG) (tt : TT) (kept : (Hp → Prop) → St → Hp → Prop) (vs : List Nat) : (Hp → Prop) → St → Hp → Prop := fun N σ H => wi σ H fun J H2 => tIn J g tt kept vs N σ H2
/-- a kept item's part of the turn, within the block B -/
def Does (B : Cx) (D : Addr) (vs : List Nat) (bk : Bk) (kept : (Hp → Prop) → St → Hp → Prop) : Prop := ∀ (pins : List (Addr × Obj)) (σ σ0 : St) (H : Hp) (s : Shared) (N : Hp → Prop), Inv B pins σ H s → wipe σ vs = wipe σ0 vs → kept N σ H →
  ∀ (k : Sem Fin) (Q : Fin → Shared → Prop) (E : Value → Shared → Prop), (∀ s', (∃ σ' H', Inv B pins σ' H' s' ∧ σ'.length = σ.length ∧ (∀ (j : Nat) v, (wipe σ0 vs)[j]? = some (some v) → σ'[j]? = some (some v)) ∧ N H') → wpAny (model B.prog B.w) B.A k Q E s') →
    wpAny (model B.prog B.w) B.A (bk (.ref D) B.env k) Q E s
/-- the whole loop of a clause, within the block B -/
def Runs (B : Cx) (e : Expr) (d : Nat) (D : Addr) (tg : Expr) (g : TG) (tt : TT) (kept : (Hp → Prop) → St → Hp → Prop) (vs : List Nat) : Prop :=
  ∀ (pins : List (Addr × Obj)) (σ : St) (R : Result → Shared → Prop) (it : Addr) (fp : List Addr) (tn : Nat → Heap → Prop) (J : It) (H : Hp) (s : Shared) (Nx : Hp → Prop),
    Inv B pins (wipe σ vs) H s → Turn B.prog B.w B.K tg J fp it tn → tn 0 s.heap → (∀ b ∈ fp, FpOk B pins H b) → tIn J g tt kept vs Nx σ H →
    (∀ (s' : Shared) (H' : Hp), Inv B pins (wipe σ vs) H' s' → Nx H' → R (.ok .next) s') → codeAny (model B.prog B.w) B.A (.compLoop e d (.ref it) (.ref D) B.env) R s
section
variable {B : Cx} {elt : Expr} {gs : List Comprehension} {sc : Scope} {ps : Pos} {d : Nat} {D : Addr} {tg src : Expr} {fs : Evs} {bk : Bk} {g : TG} {tt : TT} {te : TE} {kept : (Hp → Prop) → St → Hp → Prop} {vs : List Nat}
theorem runs_by (hx : B.xe = fun _ _ => False) (hc : B.calm = true) (S : Shape (.ListComp elt gs sc ps) d tg src fs bk) (pg : PG B tg g) (pt : PTs B fs tt) (does : Does B D vs bk kept) : Runs B (.ListComp elt gs sc ps) d D tg g tt kept vs := by
  intro pins σ R it fp tn J H s Nx I T st fpk rd fin
  obtain ⟨W, ⟨m0, w0⟩, turn⟩ := rd
  have go : ∀ {α : Type} {t : Sem α} {Q Q' : α → Shared → Prop} {s : Shared}, wpAny (model B.prog B.w) B.A t Q B.xe s → (∀ a s, Q a s → Q' a s) → wpAny (model B.prog B.w) B.A t Q' (fun _ _ => False) s := fun {α t Q Q' s} h hq => by
    rw [hx] at h; exact wpAny_mono h hq fun _ _ z => z
  have fpk' : ∀ {H' : Hp}, (∀ b ∈ fp, H' b = none) → ∀ b ∈ fp, FpOk B pins H' b := fun hn b hb => ⟨hn b hb, (fpk b hb).2⟩
  refine loop_by S (fun n s' => ∃ i H', Inv B pins (wipe σ vs) H' s' ∧ tn i s'.heap ∧ (∀ b ∈ fp, H' b = none) ∧ W i n H') ?_ m0 ⟨0, H, I, st, fun b hb => (fpk b hb).1, w0⟩
  rintro n s1 ⟨i, H1, I1, t1, n1, w1⟩
  rcases turn i n H1 w1 with ⟨stop, q⟩ | ⟨goes, N1, hN, step⟩
  · refine wpAny_mono (T.done B rfl rfl rfl hc i pins s1 _ H1 (fun _ _ => False) I1 (fpk' n1) t1 stop) (fun r s2 z => ?_) fun _ _ z => z
    obtain ⟨rfl, I2⟩ := z
    exact fin s2 H1 I2 q
  · refine wpAny_mono (T.item B rfl rfl rfl hc i pins s1 _ H1 (fun _ _ => False) I1 (fpk' n1) t1 goes) (fun r s2 z => ?_) fun _ _ z => z
    obtain ⟨u, rfl, z⟩ := z
    refine wpAny_mono z (fun _ s3 z => ?_) fun _ _ z => z
    obtain ⟨x, H3, I3, ru, y3, t3, n3⟩ := z
    refine go (pg.run _ s3 _ H3 x u _ (I3.pinned (fpk' n3) (T.obj _ _ t3)) ru (step x H3 y3)) fun _ s4 z => ?_
    obtain ⟨σ4, H4, I4, hw, z⟩ := z
    refine go (pt.run _ s4 σ4 H4 _ I4 z) fun k s5 z => ?_
    obtain ⟨H5, I5, z⟩ := z
    have len : (wipe σ vs).length = σ4.length := by rw [← hw, wipe_length]
    have again : ∀ {σ' : St} {s' : Shared} {H' : Hp}, Inv B (pins ++ pinsAt fp s3.heap) σ' H' s' → σ'.length = σ4.length → (∀ (j : Nat) v, (wipe σ vs)[j]? = some (some v) → σ'[j]? = some (some v)) → N1 H' →
        ∃ m, m < n ∧ ∃ i H', Inv B pins (wipe σ vs) H' s' ∧ tn i s'.heap ∧ (∀ b ∈ fp, H' b = none) ∧ W i m H' := fun {σ' s' H'} I' hl hk nx => by
      obtain ⟨m', lt, w'⟩ := hN H' nx
      have same : ∀ b ∈ fp, ∀ o, s3.heap.get? b = some o → s'.heap.get? b = some o ∧ H' b = none := fun b hb o eo => by
        have z := I'.pin (b, o) (List.mem_append_right _ (List.mem_append_right _ (mem_pinsAt hb eo)))
        exact ⟨z.1, z.2.1⟩
      refine ⟨m', lt, i + 1, H', I'.unpinned.weak (len.trans hl.symm) hk, T.keep _ _ _ t3 fun b hb o eo => (same b hb o eo).1, fun b hb => ?_, w'⟩
      obtain ⟨o, eo, _⟩ := T.obj _ _ t3 b hb
      exact (same b hb o eo).2
    match k, z with
    | false, z => exact again I5 rfl (fun j v ev => by rw [← hw] at ev; exact (wipe_some ev).1) z
    | true, z => exact fun k Q E hk => does _ σ4 σ H5 s5 N1 I5 hw z k Q E fun s6 ⟨σ6, H6, I6, l6, k6, q6⟩ => hk s6 (again I6 l6 k6 q6)
theorem does_last (hx : B.xe = fun _ _ => False) (pe : PE B elt te) : Does B D vs (bkApp elt) (kLast D te) := by
  intro pins σ σ0 H s N I hw h k Q E hk
  have z := pe.run pins s σ H _ I h
  rw [hx] at z
  refine wpAny_bind (wpAny_bind (wpAny_mono z (fun u s1 z => ?_) fun _ _ z => z.elim))
  obtain ⟨y, H1, I1, ru, acc, hD, hl, n⟩ := z
  exact wpAny_bind (app_ok (X := B) I1 hD hl ru fun s2 I2 => wpAny_pure (hk s2 ⟨σ, _, I2, rfl, fun j v ev => by rw [← hw] at ev; exact (wipe_some ev).1, n⟩))
/-- the start of the clause d + 1 is its loop -/
def Starts (e : Expr) (d : Nat) : Prop := ∀ {prog : Program} {w : World} {A : Around} {R : Result → Shared → Prop} {s : Shared} {it acc : Value} {v : Env}, codeAny (model prog w) A (.compLoop e d it acc v) R s →
  wpAny (model prog w) A (pyIter it) (fun i s' => codeAny (model prog w) A (.compLoop e d i acc v) R s') (notedBy (model prog w) A v fun x s' => R (.error x) s') s → codeAny (model prog w) A (.compStart e d it acc v) R s
theorem does_next {e tg2 src2 : Expr} {wi2 : TI} {g2 : TG} {tt2 : TT} {kept2 : (Hp → Prop) → St → Hp → Prop} {vs2 : List Nat} (hx : B.xe = fun _ _ => False) (pi2 : PI B tg2 src2 wi2) (hs : ∀ x, foldedSetIterable src2 B.env x = pure x) (hv : ∀ i ∈ vs2, i ∈ vs)
    (hst : Starts e (d + 1)) (R2 : Runs B e (d + 1) D tg2 g2 tt2 kept2 vs2) : Does B D vs (bkNext e d src2) (kNext wi2 g2 tt2 kept2 vs2) := by
  intro pins σ σ0 H s N I hw h k Q E hk
  have z := pi2.run pins s σ H _ I h
  rw [hx] at z
  refine wpAny_bind (wpAny_mono z (fun x s1 z => wpAny_bind (wpAny_standAt (wpAny_bind (wpAny_of_eq (hs x) (wpAny_bind (wpAny_holding (wpAny_mono z (fun i s2 z => ?_) fun _ _ z => z.elim))))))) fun _ _ z => z.elim)
  obtain ⟨it2, fp2, tn2, J2, H2, ei, I2, T2, t2, f2, rd⟩ := z
  subst ei
  refine wpAny_bind (wpAny_runOwn ?_)
  rw [Around.mark_none]
  have lp := R2 pins σ (fun r s' => match r with | .ok _ => ∃ H', Inv B pins (wipe σ vs2) H' s' ∧ N H' | .error _ => False) it2 fp2 tn2 J2 H2 s2 N (I2.weak (wipe_length _ _) fun j v ev => (wipe_some ev).1) T2 t2 f2 rd fun s' H' I' n => ⟨H', I', n⟩
  refine codeAny_mono (hst lp (T2.self B.A 0 _ _ _ t2 lp)) fun r s' z => ?_
  match r, z with
  | .error _, z => exact z.elim
  | .ok _, ⟨H', I', n⟩ =>
    refine hk _ ⟨wipe σ vs2, H', I', wipe_length _ _, fun j v ev => ?_, n⟩
    rw [← hw] at ev
    obtain ⟨e1, e2⟩ := wipe_some ev
    rw [wipe_out fun q => e2 (hv j q)]
    exact e1
end
section
variable {X : Cx}
abbrev g3 (t0 i0 : Expr) (f0 : Evs) (t1 i1 : Expr) (f1 : Evs) (t2 i2 : Expr) (f2 : Evs) : List Comprehension := [⟨t0, i0, f0, 0⟩, ⟨t1, i1, f1, 0⟩, ⟨t2, i2, f2, 0⟩]
def tLc3 (wi : TI) (g : TG) (tt : TT) (wi1 : TI) (g1 : TG) (tt1 : TT) (wi2 : TI) (g2 : TG) (tt2 : TT) (te : TE) (vs vs1 vs2 : List Nat) : TE := fun σ H Q => wi σ H fun J H1 => ∀ D, H1 D = none →
  tIn J g tt (kNext wi1 g1 tt1 (kNext wi2 g2 tt2 (kLast D te) vs2) vs1) vs (fun H2 => Q (.ref D) H2) σ (upd H1 D (.lst []))
theorem starts3 {elt t0 i0 t1 i1 t2 i2 : Expr} {f0 f1 f2 : Evs} {scope : Scope} {pos : Pos} {d : Nat} (hd : d = 1 ∨ d = 2) : Starts (.ListComp elt (g3 t0 i0 f0 t1 i1 f1 t2 i2 f2) scope pos) d := by
  intro prog w A R s it acc v h0 h1
  rcases hd with rfl | rfl
  all_goals
    refine codeAny_of_tree ?_
    show wpAny _ _ ((compStart _ _ it acc v).onRaise (fun x => do noteFrame x v; standAt theWindowsPlace)) _ _ s
    refine wpAny_notedAt ?_
    unfold compStart
    show wpAny _ _ (ask >>= _) _ _ s
    refine wpAny_bind (wpAny_askSetting (wpAny_ite ?_))
    split
    · first | exact wpAny_pure ⟨rfl, h0⟩ | exact wpAny_bind (wpAny_pure (wpAny_pure ⟨rfl, h0⟩))
    · refine wpAny_bind (wpAny_rule ?_)
      first
        | exact wpAny_bind (wpAny_standAt (wpAny_bind (wpAny_mono h1 (fun i s' z => wpAny_pure ⟨rfl, z⟩) fun _ _ z => z)))
        | (show wpAny _ _ (standAt _ >>= _) _ _ s; exact wpAny_bind (wpAny_standAt (wpAny_bind (wpAny_mono h1 (fun i s' z => wpAny_pure ⟨rfl, z⟩) fun _ _ z => z))))
/-- within the block: all that the rule's parts give at one block -/
structure Parts3 (B : Cx) (elt t0 t1 i1 t2 i2 : Expr) (f0 f1 f2 : Evs) (g : TG) (tt : TT) (wi1 : TI) (g1 : TG) (tt1 : TT) (wi2 : TI) (g2 : TG) (tt2 : TT) (te : TE) : Prop where
  pg : PG B t0 g
  pt : PTs B f0 tt
  pi1 : PI B t1 i1 wi1
  pg1 : PG B t1 g1
  pt1 : PTs B f1 tt1
  pi2 : PI B t2 i2 wi2
  pg2 : PG B t2 g2
  pt2 : PTs B f2 tt2
  pe : PE B elt te
theorem Parts3.runs {B : Cx} {elt t0 i0 t1 i1 t2 i2 : Expr} {f0 f1 f2 : Evs} {g : TG} {tt : TT} {wi1 : TI} {g1 : TG} {tt1 : TT} {wi2 : TI} {g2 : TG} {tt2 : TT} {te : TE} {scope : Scope} {pos : Pos} {vs vs1 vs2 : List Nat} {D : Addr} (P : Parts3 B elt t0 t1 i1 t2 i2 f0 f1 f2 g tt wi1 g1 tt1 wi2 g2 tt2 te)
    (hx : B.xe = fun _ _ => False) (hc : B.calm = true) (h1 : ∀ v x, foldedSetIterable i1 v x = pure x) (h2 : ∀ v x, foldedSetIterable i2 v x = pure x) (v1 : ∀ i ∈ vs1, i ∈ vs) (v2 : ∀ i ∈ vs2, i ∈ vs1) :
    Runs B (.ListComp elt (g3 t0 i0 f0 t1 i1 f1 t2 i2 f2) scope pos) 0 D t0 g tt (kNext wi1 g1 tt1 (kNext wi2 g2 tt2 (kLast D te) vs2) vs1) vs := by
  have r2 : Runs B (.ListComp elt (g3 t0 i0 f0 t1 i1 f1 t2 i2 f2) scope pos) 2 D t2 g2 tt2 (kLast D te) vs2 := runs_by (src := i2) hx hc (fun _ _ _ => by rfl) P.pg2 P.pt2 (does_last hx P.pe)
  have r1 : Runs B (.ListComp elt (g3 t0 i0 f0 t1 i1 f1 t2 i2 f2) scope pos) 1 D t1 g1 tt1 (kNext wi2 g2 tt2 (kLast D te) vs2) vs1 := runs_by (src := i1) hx hc (fun _ _ _ => by rfl) P.pg1 P.pt1 (does_next hx P.pi2 (h2 _) v2 (starts3 (.inr rfl)) r2)
  exact runs_by (src := i0) hx hc (fun _ _ _ => by rfl) P.pg P.pt (does_next hx P.pi1 (h1 _) v1 (starts3 (.inl rfl)) r1)
/-- the rule -/
theorem pe_lc3 {elt t0 i0 t1 i1 t2 i2 : Expr} {f0 f1 f2 : Evs} {g : TG} {tt : TT} {wi wi1 : TI} {g1 : TG} {tt1 : TT} {wi2 : TI} {g2 : TG} {tt2 : TT} {te : TE} {scope : Scope} {pos : Pos} {own : List (Str × Nat)} {vs1 vs2 : List Nat}
    (hc : X.calm = true) (hN : X.N.Nodup) (hi : PI X t0 i0 wi) (ok : BlkOk X.N X.env.scope scope own) (v1 : ∀ i ∈ vs1, i ∈ own.map (·.2)) (v2 : ∀ i ∈ vs2, i ∈ vs1)
    (P : ∀ (s : Shared) (H : Hp) (C : Addr) (cl : List (Str × Addr)) (fp : List Addr), Parts3 (X.blk s H scope (compEnvC scope cl C X.env) fp) elt t0 t1 i1 t2 i2 f0 f1 f2 g tt wi1 g1 tt1 wi2 g2 tt2 te)
    (h0 : ∀ x, foldedSetIterable i0 X.env x = pure x := by intro _; rfl) (h1 : ∀ v x, foldedSetIterable i1 v x = pure x := by intro _ _; rfl) (h2 : ∀ v x, foldedSetIterable i2 v x = pure x := by intro _ _; rfl) :
    PE X (.ListComp elt (g3 t0 i0 f0 t1 i1 f1 t2 i2 f2) scope pos) (tLc3 wi g tt wi1 g1 tt1 wi2 g2 tt2 te (own.map (·.2)) vs1 vs2) := by
  refine ⟨fun pins s σ H Q I h => ?_⟩
  rw [eval_ListComp]
  have free : ∀ y ∈ scope.names, y.2 = .free → ∃ c, X.env.cells.lookup y.1 = some c := fun y hy e => (ok.free y hy e).elim (fun k => I.ok.has _ (.inl k)) fun k => I.ok.has _ (.inr k)
  refine wpAny_comprehension_free (use := none) rfl h0 (closure_ok free) ok.kind (fun y hy e => by rw [ok.uniq y hy, e]) (thn (hi.run pins s σ H _ I h) fun xv s1 z => thn z fun itv s2 z => ?_)
  obtain ⟨it, fp, tn, J, H2, rfl, I2, T, st2, f2', q⟩ := z
  refine wpAny_newObj_type (newEnv_comp ?_) (Nat.zero_le _)
  generalize eD : s2.heap.objs.size = D
  have nD : H2 D = none := I2.hok.fresh (Nat.le_of_eq eD)
  have rd := q D nD
  generalize e3 : ({ s2 with heap := s2.heap.push { cls := .type "list", data := .seq ([] : List Value).toArray } } : Shared) = s3
  have p3 : s3.heap = s2.heap.push { cls := .type "list", data := .seq ([] : List Value).toArray } := by rw [← e3]
  have at3 : s3.heap.get? D = some { cls := .type "list", data := .seq ([] : List Value).toArray } := by rw [p3, ← eD]; exact Heap.get?_push_size _ rfl
  have I3 : Inv X pins σ (upd H2 D (.lst [])) s3 := by
    rw [← e3]
    exact I2.laid (t' := s2.toks) (fun b o e => Heap.get?_push_of_some _ e) (Nat.le_of_eq eD) ⟨Nat.zero_le _, [], 0, .nil, by rw [← e3] at at3; exact at3⟩
  have below : ∀ b ∈ fp, b < s2.heap.objs.size := fun b hb => let ⟨_, e, _⟩ := T.obj _ _ st2 b hb; Heap.lt_size e
  have f3 : ∀ b ∈ fp, FpOk X pins (upd H2 D (.lst [])) b ∧ b < s3.heap.objs.size := fun b hb => by
    have lt := below b hb
    have ne : b ≠ D := by rw [← eD]; exact Nat.ne_of_lt lt
    exact ⟨⟨by rw [upd_ne ne]; exact (f2' b hb).1, (f2' b hb).2⟩, by rw [p3, Heap.size_push]; exact Nat.lt_succ_of_lt lt⟩
  have st3 : tn 0 s3.heap := T.keep _ _ _ st2 fun b _ o e => by rw [p3]; exact Heap.get?_push_of_some _ e
  have I4 := block_start I3 ok hN f3
  have P4 := P s3 (upd H2 D (.lst [])) s3.heap.objs.size (cellsFrom (s3.heap.objs.size + 1) scope.names (cloFrom X.env.cells scope.names [])) fp
  show codeAny _ _ (.compStart _ 0 (.ref it) (.ref D) (compEnvC scope (cellsFrom (s3.heap.objs.size + 1) scope.names (cloFrom X.env.cells scope.names [])) s3.heap.objs.size X.env)) (compPost (model X.prog X.w) X.A X.xe none _ (.ref D) s3.heap.objs.size) { s3 with heap := pushCells (s3.heap.push { cls := .type "dict", data := .dict #[] }) scope.names }
  have free3 : ∀ b ∈ fp, (upd H2 D (.lst [])) b = none := fun b hb => (f3 b hb).1.1
  generalize ece : compEnvC scope (cellsFrom (s3.heap.objs.size + 1) scope.names (cloFrom X.env.cells scope.names [])) s3.heap.objs.size X.env = ce at I4 P4 ⊢
  have lc : ce.locals = s3.heap.objs.size := by subst ece; rfl
  generalize e4 : ({ s3 with heap := pushCells (s3.heap.push { cls := .type "dict", data := .dict #[] }) scope.names } : Shared) = s4 at I4 ⊢
  have st4 : tn 0 s4.heap := T.keep _ _ _ st3 fun b _ o e => by rw [← e4]; exact pushCells_keeps _ _ _ _ (Heap.get?_push_of_some _ e)
  have R0 := P4.runs (i0 := i0) (scope := scope) (pos := pos) (D := D) rfl hc h1 h2 v1 v2
  have lp := R0 [] σ (compPost (model X.prog X.w) X.A X.xe none (EP X pins σ Q) (.ref D) s3.heap.objs.size) it fp tn J _ s4 _ I4 T st4 (fun b hb => ⟨free3 b hb, (I4.ok.exf b hb).1, I4.ok.exfs b hb, .inl hb, fun x c e => (I4.ok.exf b hb).2 x c e, fun p hp => absurd (show p ∈ ([] : List (Addr × Obj)) ++ [] from hp) (by simp)⟩) rd fun s5 H5 I5 q5 => by
    have I6 : Inv X pins σ H5 s5 := I3.call' (ch := fp) I5.os I5.base I5.hok I5.bare fun b hb => let z := (f3 b hb).1.2; ⟨z.2.2.1, z.1, z.2.2.2.1, z.2.2.2.2⟩
    have nC : H5 s3.heap.objs.size = none := by rw [← lc]; exact I5.free
    obtain ⟨m, hn, _⟩ := I5.loc
    have hn' : s5.heap.Ns s3.heap.objs.size m := by rw [← lc]; exact hn
    refine ⟨m, hn', fun h6 sb => ?_⟩
    obtain ⟨f0, f1, f2, f3, f4, f5⟩ := I3.fpOk (H' := H5) (Nat.le_refl _) nC
    exact ⟨.ref D, H5, I6.turned (t' := s5.toks) (fun b o hb e => (sb.2 b hb).trans e) f0 f1 f3 f4 f5, rfl, q5⟩
  exact codeAny_compStart_list lp (T.self X.A 0 _ _ _ st4 lp)
end
/-- a clause over a list that stands: Pv by the turn -/
theorem tIn_list {K : PySem.W.Frag} {a : Addr} {xs : List V} {g : TG} {tt : TT} {kept : (Hp → Prop) → St → Hp → Prop} {vs : List Nat} {Nx : Hp → Prop} {σ : St} {H0 : Hp} (Pv : Nat → Hp → Prop) (h0 : Pv 0 H0) (hl : ∀ i H, i ≤ xs.length → Pv i H → SqL K H a xs)
    (hs : ∀ i x H, xs[i]? = some x → Pv i H → g x (wipe σ vs) H fun σ3 H3 => wipe σ3 vs = wipe σ vs ∧ tt σ3 H3 fun k H4 => if k = true then kept (Pv (i + 1)) σ3 H4 else Pv (i + 1) H4) (hd : ∀ H, Pv xs.length H → Nx H) : tIn (Itl K a) g tt kept vs Nx σ H0 := by
  refine ⟨fun i m H => m = xs.length - i ∧ i ≤ xs.length ∧ Pv i H, ⟨xs.length, by simp, Nat.zero_le _, h0⟩, ?_⟩
  rintro i m H ⟨rfl, hi, p⟩
  have sq := hl i H hi p
  rcases Nat.lt_or_ge i xs.length with lt | ge
  · exact .inr ⟨⟨xs, xs[i], sq, by simp [lt]⟩, Pv (i + 1), fun H' p' => ⟨xs.length - (i + 1), by omega, rfl, lt, p'⟩, fun x H' y => by
      obtain ⟨rfl, y⟩ := y
      exact hs i x _ (y xs sq) p⟩
  · obtain rfl : i = xs.length := Nat.le_antisymm hi ge
    exact .inl ⟨⟨xs, sq, Nat.le_refl _⟩, hd H p⟩
end J

/-! Defs that are run while no repr is under way: A.guards = some [] is known of what is around them, so that repr of lists and tuples may be asked within. -/
namespace J
open PySem L2 PySem.Spec PyProof.Rows
/-- a def's promise where no repr is under way -/
structure FnG (P : Program) (w : World) (K : PySem.W.Frag) (mg : Str → Option Value) (base : Heap) (k : Nat) (f : Addr) (fd : FuncData) (ps : List Str) (sp : Sp) : Prop where
  len : ∀ vs H Q E, sp vs H Q E → vs.length = ps.length
  run : ∀ (A : Around), A.guards = some [] → ∀ (outer : List Env) (s : Shared) (H : Hp) (args : Args) (us : List Value) (vs : List V) (Q : VK) (E : XK), Room k A → Env0 P w K mg base A outer s H → BindsTo s fd args (ps.zip us) → Vals vs us → sp vs H Q E → codeAny (model P w) A (.call (.ref f) args) (CR CX0 outer P w H s Q E) s
section
variable {P : Program} {w : World} {K : PySem.W.Frag} {mg : Str → Option Value} {base : Heap}
theorem FnG.of {k : Nat} {f : Addr} {fd : FuncData} {ps : List Str} {sp : Sp} (F : FnOk P w K mg base CX0 k f fd ps sp) : FnG P w K mg base k f fd ps sp := ⟨F.len, fun A _ => F.run A⟩
/-- such a def by its body -/
theorem okG {x qual : Str} {st : Stmt} {f : Addr} {fd : FuncData} {N ps : List Str} {k : Nat} {sp : Sp} (F : Fun K x qual st f fd) (S : FnScope N ps (defScope st)) (len : ∀ vs H Q E, sp vs H Q E → vs.length = ps.length)
    (hbody : ∀ (cdv : Value) (A : Around) (outer : List Env) (s : Shared) (H : Hp) (vs : List V) (Q : VK) (E : XK), A.guards = some [] → Room k (A.deeper (envOfC qual (defScope st) s.heap.objs.size f cdv)) → sp vs H Q E →
      ∃ t, PSs (cxOf CX0 P w K mg base N qual (defScope st) f cdv A outer s H E).nox (defBody st) t ∧ t { nx := fun _ H' => Q .non H', rt := Q } (start N vs) H) : FnG P w K mg base (k + 1) f fd ps sp := by
  obtain ⟨oc, od, kV, doc, pm, an, cdv, ct, osl, rfl, lk, hcd⟩ := F.ex
  refine ⟨len, fun A hg outer s H args us vs Q E hr e0 hb r hsp => ?_⟩
  obtain ⟨t, ht, hq⟩ := hbody cdv A outer s H vs Q E hg (hr.deeper _) hsp
  have keep : ∀ b o, base.get? b = some o → s.heap.get? b = some o := fun b o e => (e0.bs b o e).1
  have KX : K.In s.heap := e0.mod.kin.keeps keep
  refine codeAny_call_function hr.depth (KX _ _ lk) rfl S.co S.gen rfl (PySem.W.codeRec_of KX hcd) (hb _ _ _ _ ?_)
  refine wpAny_newFunctionEnv_cells S.kind (fun y hy => (S.par y.1 (List.of_mem_zip (show (y.1, y.2) ∈ ps.zip us from hy)).1).imp id fun q => ⟨q, PySem.W.cellsFrom_some _ _ _ (.inl q)⟩) fun env he s1 x => ?_
  subst he
  refine ⟨(e0.mod.nolimit.keeps keep).keeps x.toInCall.keep, codeAny_func ?_⟩
  have I := inv_start (E := E) (CX := CX0) S hr.hd e0 (len _ _ _ _ hsp) r x
  refine wpAny_mono (ht.nox.run [] s1 (start N vs) H _ I hq) (fun fl s' z => ?_) fun _ _ z => z
  match fl, z with
  | .ret u, ⟨v, σ', H', J, rv, q⟩ => exact ⟨v, H', J.os, J.bare, J.base, J.hok, rv, q⟩
  | .next, ⟨σ', H', J, q⟩ => exact ⟨V.non, H', J.os, J.bare, J.base, J.hok, rfl, q⟩
  | .brk, ⟨_, _, _, q⟩ => exact q.elim
  | .cont, ⟨_, _, _, q⟩ => exact q.elim
section
variable {X : Cx} {k : Nat} {f : Addr} {fd : FuncData} {ps : List Str} {sp : Sp} {x : Str} {p pos : Pos} {e : Expr} {es : List Expr} {t : TA}
/-- f(e, ..) of such a def -/
theorem pe_callG (F : FnG X.prog X.w X.K X.mg X.base k f fd ps sp) (hG : X.A.guards = some []) (hr : Room k X.A) (hg : Gl X x) (hm : X.mg x = some (.ref f)) (hk : PySem.W.keepIn X.K (.ref f) = true) (hb : Binds X.K fd ps []) (ha : PA X (e :: es) t)
    (hdb : (x == ("__debug__" : Str)) = false := by decide) (he : starEach (e :: es) X.env = (false, eval e X.env) :: starEach es X.env := by rfl) (hpl : (backTo pos (starEach es X.env)).any (·.1) = false := by rfl) : PE X (.Call (.Name x p) (e :: es) [] pos) (tCall sp [] E0 t) := by
  refine ⟨fun pins s σ H Q I h => wpAny_Call_Name_kw (ld_glob I hg hm ?_ hdb)⟩
  refine PySem.W.callWith_K (h₀ := X.base) I.ok.mod.kin hk (thn (ha.run pos pins s σ H _ I h) fun us s1 z => ?_) he hpl
  obtain ⟨vs, H1, I1, r, q⟩ := z
  rw [List.append_nil] at q
  refine ⟨I1.kIn, wpAny_call (codeAny_mono (F.run X.A hG X.stack s1 H1 ⟨us, []⟩ us vs Q E0 hr I1.env0 ?_ r q) fun rr s' z => ?_)⟩
  · have b := hb s1 us I1.kIn (by rw [List.append_nil, ← r.length]; exact F.len _ _ _ _ q)
    rw [List.append_nil] at b
    exact b
  · match rr, z with
    | .error _, z => exact z.elim
    | .ok (.ret u), z => exact I1.after z
    | .ok .next, z => exact z.elim
    | .ok .brk, z => exact z.elim
    | .ok .cont, z => exact z.elim
/-- repr of data: None, bools, ints, texts, lists and tuples of such -/
theorem call_repr (hG : X.A.guards = some []) (hr : Room k X.A) : CallR X (.builtin "repr") (fun xs H Q => ∃ x d, xs = [x] ∧ Dp X.K H x d ∧ d.showable = true ∧ d.hasDict = false ∧ d.depth ≤ 60 ∧ d.shown.length ≤ sizeLine ∧ Q (.str d.shown) H) := by
  intro pins s σ H xs us Q I r h
  obtain ⟨x, d, rfl, hd, sh, nd, hdp, hz, q⟩ := h
  obtain ⟨u, rfl, ru⟩ := vals1 r
  have hu : X.A.units + (d.depth + 1) < cLine := by have := hr.units; omega
  have tok : ∀ (g : Value → Shared → Prop), True := fun _ => trivial
  obtain ⟨as, rd⟩ := Dp.reads I d x u hd ru
  have byref : ∀ a : Addr, u = .ref a → wpAny (model X.prog X.w) X.A (call (.builtin "repr") [u]) (EP X pins σ Q) X.xe s := fun a e => by
    subst e
    exact repr_of_reads' rd sh (fun z => by rw [nd] at z; cases z) hG hu (fun _ _ e => e) (fun h' t tk keep => ⟨.str d.shown, H, I.kept keep, ⟨t, rfl⟩, q⟩) hz
  cases hd with
  | non => obtain rfl : u = Value.none := ru; exact PySem.P.repr_of_none ⟨.str _, H, I.tok _, ⟨_, rfl⟩, by simpa [PyData.shown] using q⟩
  | bl b => obtain rfl : u = Value.bool b := ru; exact PySem.P.repr_of_bool ⟨.str _, H, I.tok _, ⟨_, rfl⟩, by simpa [PyData.shown] using q⟩
  | int i => obtain ⟨t, rfl⟩ := ru; exact PySem.P.repr_of_int (by simpa [PyData.showable] using sh) ⟨.str _, H, I.tok _, ⟨_, rfl⟩, by simpa [PyData.shown] using q⟩
  | str y => obtain ⟨t, rfl⟩ := ru; exact PySem.P.repr_of_str ⟨.str _, H, I.tok _, ⟨_, rfl⟩, by simpa [PyData.shown] using q⟩ (by simpa [PyData.shown] using hz)
  | lst _ _ => exact byref _ ru
  | tup _ _ => exact byref _ ru
end
end
/-- the law's call, its def's promise known where no repr is under way -/
theorem law_go {P : Program} {w : World} {K : PySem.W.Frag} {mg mb : Str → Option Value} {k : Nat} {fa a : Addr} {fd : FuncData} {x : Str} {sp : Sp} {s₁ : Shared} {vs : List Value} {ns : List Int}
    (KX : K.In s₁.heap) (hns : s₁.heap.Ns mainGlobals mg) (hb : s₁.heap.Ns builtinsNs mb) (hbb : ∀ x : Str, x ≠ "__name__" → mb x = bootBuiltins x) (hlim : s₁.heap.NoLimit) (hg : s₁.gens = #[])
    (ha : s₁.heap.get? a = some { cls := .type "list", data := .seq vs.toArray }) (hi : IntsAre vs ns) (hl : ns.length ≤ sizeLine) (hr : Room k callerA)
    (F : ∀ base : Heap, K.In base → base.Ns mainGlobals mg → FnG P w K mg base k fa fd [x] sp) (hbind : ∀ (s : Shared) (u : Value), BindsTo s fd ⟨[u], []⟩ [(x, u)])
    (hsp : ∀ H : Hp, Only H → SqL K H a (ns.map V.int) → sp [.ref a] H (fun v _ => v = .bl true) E0) :
    codeAny (model P w) callerA (.call (.ref fa) ⟨[.ref a], []⟩) (fun r s' => r = .ok (.ret (.bool true)) ∧ OldK s₁.heap s'.heap ∧ s'.os = s₁.os ∧ AllBare s'.gens) s₁ := by
  have rv : Vals (ns.map V.int) vs := vals_ints hi
  have hv : vs.length = ns.length := by have := rv.length; rw [List.length_map] at this; exact this.symm
  let ob : Obj := { cls := .type "list", data := .seq vs.toArray }
  have build : ∀ H : Hp, (∀ b, H b = none ∨ (b = a ∧ H b = some (.frz ob (.lst (ns.map V.int))))) → (H a ≠ none → K.lookup a = none) → SqL K H a (ns.map V.int) →
      codeAny (model P w) callerA (.call (.ref fa) ⟨[.ref a], []⟩) (fun r s' => r = .ok (.ret (.bool true)) ∧ OldK s₁.heap s'.heap ∧ s'.os = s₁.os ∧ AllBare s'.gens) s₁ := by
    intro H hH hK hS
    have hok : HOk P w H s₁.heap := fun b o e => by
      rcases hH b with z | ⟨rfl, z⟩
      · rw [z] at e; cases e
      · rw [z] at e; cases e
        exact ⟨ha, by rw [List.length_map]; exact hl, vs, _, rv, ha⟩
    have atD : ∀ {b : Addr} {o : Obj} {es : Array DictEntry} {ep : Nat}, s₁.heap.get? b = some o → o.data = .dict es ep → H b = none := fun {b o es ep} e d => by
      rcases hH b with z | ⟨rfl, z⟩
      · exact z
      · rw [ha] at e; cases e; cases d
    have ns' : ∀ {b : Addr} {m : Str → Option Value}, s₁.heap.Ns b m → (hidT s₁.heap H).Ns b m := fun {b m} ⟨o, es, ep, e, d, r⟩ => ⟨o, es, ep, hidT_get e (atD e d), d, r⟩
    have kin : K.In (hidT s₁.heap H) := fun b o e => hidT_get (KX b o e) (by
      rcases hH b with z | ⟨rfl, z⟩
      · exact z
      · rw [hK (by rw [z]; exact fun q => nomatch q)] at e; cases e)
    have lim : (hidT s₁.heap H).NoLimit := let ⟨mc, h1, h2⟩ := hlim; ⟨mc, ns' h1, h2⟩
    have e0 : Env0 P w K mg (hidT s₁.heap H) callerA [] s₁ H := ⟨rfl, ⟨kin, ns' hns, ⟨mb, ns' hb, hbb⟩, lim⟩, fun b o e => of_hidT e, Nat.le_of_eq (hidT_size _ _), trivial, fun b hb => absurd (show b ∈ ([] : List Addr) from hb) (by simp), hok, .of_eq hg⟩
    have only : Only H := fun b => (hH b).imp id fun z => ⟨ob, _, z.2⟩
    refine codeAny_mono ((F _ kin (ns' hns)).run callerA rfl [] s₁ H ⟨[.ref a], []⟩ [.ref a] [.ref a] _ E0 hr e0 (hbind s₁ (.ref a)) (.cons rfl .nil) (hsp H only hS)) fun r s' z => ?_
    match r, z with
    | .error _, z => exact z.elim
    | .ok .next, z => exact z.elim
    | .ok .brk, z => exact z.elim
    | .ok .cont, z => exact z.elim
    | .ok (.ret u), ⟨v, H', os, bare, un, hok', r', q⟩ =>
      obtain rfl : v = .bl true := q
      obtain rfl : u = Value.bool true := r'
      refine ⟨rfl, OldK.of_keep fun b o e => ?_, os, bare⟩
      rcases hH b with z | ⟨rfl, z⟩
      · exact un.keep b o e z (fun q => absurd (show b ∈ ([] : List Addr) from q) (by simp)) (by simp)
      · have z2 := un.frzs b ob _ z
        have e1 : s₁.heap.get? b = some ob := ha
        rw [e] at e1; cases e1
        exact (hok' b _ z2).1
  cases hk : K.lookup a with
  | some o =>
    have e := KX a o hk
    rw [ha] at e; cases e
    exact build (fun _ => none) (fun _ => .inl rfl) (fun z => absurd rfl z) (.inr ⟨_, vs.toArray, _, hk, rfl, rfl, rfl, by rw [List.size_toArray, hv]; exact hl, by simpa using rv⟩)
  | none =>
    refine build (fun b => if b = a then some (.frz ob (.lst (ns.map V.int))) else none) (fun b => ?_) (fun _ => hk) (.inl (.inr ⟨ob, if_pos rfl⟩))
    by_cases hb : b = a
    · exact .inr ⟨hb, if_pos hb⟩
    · exact .inl (if_neg hb)
theorem walk_go {l : PySem.W.OpenLaw} {n k : Nat} {q : Program} {loose : List Str} {XP : (Str → Option Value) → Heap → Prop} {YP : World → Heap → Prop} {d : DefRec} {K : Params → PySem.W.Frag} {sp : World → Sp} {x : Str}
    (hn : l.most = some n) (hn2 : n ≤ sizeLine) (hdf : d.params.defaults = []) (hr : Room k callerA) (hY : ∀ (w : World) (h : Heap), YP w h → (K w.params).In h)
    (F : ∀ (w : World) (mg : Str → Option Value) (fa : Addr) (h : Heap), (K w.params).In h → h.Ns mainGlobals mg → mg d.name = some (.ref fa) →
      ∃ fd : FuncData, (∀ (s : Shared) (u : Value), BindsTo s fd ⟨[u], []⟩ [(x, u)]) ∧ ∀ base : Heap, (K w.params).In base → base.Ns mainGlobals mg → FnG l.prog w (K w.params) mg base k fa fd [x] (sp w))
    (hsp : ∀ (w : World) (H : Hp) (a : Addr) (ns : List Int), ns.length ≤ n → Only H → SqL (K w.params) H a (ns.map V.int) → sp w [.ref a] H (fun v _ => v = .bl true) E0) : PySem.W.WalkO q loose XP YP l.row.toRowW d [] (fun f vs => PySem.call f vs) := by
  refine Att.attach_call hn hdf fun w _ s₁ mg mb fa _ _ _ _ a vs ns G Y _ _ _ hmg hobj hints hlen hg => ?_
  have KX := hY w _ Y
  obtain ⟨fd, hb, hF⟩ := F w mg fa _ KX G.T.g hmg
  exact law_go KX G.T.g G.T.b G.T.builtins G.T.nolimit hg hobj hints (Nat.le_trans hlen hn2) hr hF hb fun H hO hS => hsp w H a ns hlen hO hS
end J

/-! Called defs as data; enumerate with a start; small rules. -/
namespace J
open PySem L2 PySem.Spec PyProof.Rows
/-- a def of the module that keeps the promise sp -/
structure Cal (P : Program) (w : World) (K : PySem.W.Frag) (mg : Str → Option Value) (base : Heap) (CX : CXT) (x : Str) (k : Nat) (ps : List Str) (sp : Sp) where
  f : Addr
  fd : FuncData
  ok : FnOk P w K mg base CX k f fd ps sp
  g : mg x = some (.ref f)
  kp : PySem.W.keepIn K (.ref f) = true
  b : Binds K fd ps []
/-- one with parameters that keywords alone may give -/
structure CalK (P : Program) (w : World) (K : PySem.W.Frag) (mg : Str → Option Value) (base : Heap) (CX : CXT) (x : Str) (k : Nat) (ps : List Str) (sp : Sp) where
  f : Addr
  fd : FuncData
  ok : FnOk P w K mg base CX k f fd ps sp
  g : mg x = some (.ref f)
  kp : PySem.W.keepIn K (.ref f) = true
/-- one that wants to know that no repr is under way -/
structure CalG (P : Program) (w : World) (K : PySem.W.Frag) (mg : Str → Option Value) (base : Heap) (x : Str) (k : Nat) (ps : List Str) (sp : Sp) where
  f : Addr
  fd : FuncData
  ok : FnG P w K mg base k f fd ps sp
  g : mg x = some (.ref f)
  kp : PySem.W.keepIn K (.ref f) = true
  b : Binds K fd ps []
/-- a method of the class at C -/
structure MCal (P : Program) (w : World) (K : PySem.W.Frag) (mg : Str → Option Value) (base : Heap) (CX : CXT) (C : Addr) (m : Str) (k : Nat) (ps : List Str) (sp : Sp) where
  f : Addr
  fd : FuncData
  ok : FnOk P w K mg base CX k f fd ps sp
  me : Meth K C m f
  b : Binds K fd ps []
/-- the __init__ of the class at C -/
structure ICal (P : Program) (w : World) (K : PySem.W.Frag) (mg : Str → Option Value) (base : Heap) (CX : CXT) (C : Addr) (k : Nat) (ps : List Str) (sp : Sp) where
  f : Addr
  fd : FuncData
  ok : FnOk P w K mg base CX k f fd ps sp
  ma : Mk K C f
  b : Binds K fd ps []
/-- a class of the module, its object at C -/
structure ClsT (K : PySem.W.Frag) (mg : Str → Option Value) (x : Str) (C : Addr) : Prop where
  cl : Cls K C
  g : mg x = some (.ref C)
/-- where the classes stand -/
structure CA where
  table : Addr
  yard : Addr
  diag : Addr
  classes : Addr
section
variable {X : Cx}
/-- a whole number that the module names -/
theorem pe_gint {x : Str} {i : Int} {pos : Pos} (h : ∃ t, X.mg x = some (.int i t)) (hg : Gl X x := by rfl) (hd : (x == ("__debug__" : Str)) = false := by decide) : PE X (.Name x pos) (tC (.int i)) := by
  obtain ⟨t, h⟩ := h
  exact pe_glob hg h ⟨t, rfl⟩ hd
end
/-! ### enumerate(list, start = k) -/
/-- the list at a, each item in a new pair behind the number k + turn -/
def Itn (K : PySem.W.Frag) (k : Int) (a : Addr) : It :=
  ⟨fun i H => ∃ (xs : List V) (x : V), SqL K H a xs ∧ xs[i]? = some x, fun i H v H' => ∃ T x, v = .ref T ∧ H T = none ∧ H' = upd H T (.tup [.int (k + (i : Nat)), x]) ∧ ∀ xs, SqL K H a xs → xs[i]? = some x, fun i H => ∃ xs : List V, SqL K H a xs ∧ xs.length = i⟩
theorem turn_enumS {P : Program} {w : World} {K : PySem.W.Frag} {elts : List Expr} {kk : Nat} {tpos : Pos} (k : Int) (a e it : Addr) (hai : a ≠ it) (hae : a ≠ e) :
    Turn P w K (.Tuple elts kk tpos) (Itn K k a) [e, it] e (fun i h => (∃ old, IsEnum h e it (k + (i : Int)) old) ∧ h.IsListIter it a i ∧ e ≠ it) := by
  have two : ∀ {b : Addr}, b ∈ [e, it] → b = e ∨ b = it := fun h => by simpa using h
  refine { mem := by simp, obj := ?_, keep := ?_, item := ?_, done := ?_, self := ?_ }
  · rintro i h ⟨⟨old, he⟩, ⟨o, ho, hc, hd⟩, _⟩ b hb
    rcases two hb with rfl | rfl
    · exact ⟨_, he, fun v q => nomatch q⟩
    · exact ⟨o, ho, fun v q => by rw [hd] at q; cases q⟩
  · rintro i h h' ⟨⟨old, he⟩, hi, hne⟩ kp
    exact ⟨⟨old, kp e (by simp) _ he⟩, hi.at fun o q => kp it (by simp) o q, hne⟩
  · rintro X rfl rfl rfl hc i pins s σ H E I hf ⟨⟨old, he⟩, hit, hne⟩ ⟨xs, x, hq, hx⟩
    obtain ⟨its, rv, p, hz⟩ := I.list hq
    obtain ⟨u, hu, ru⟩ := rv.get hx
    have el : e < s.heap.objs.size := Heap.lt_size he
    have il : it < s.heap.objs.size := by obtain ⟨_, q, _⟩ := hit; exact Heap.lt_size q
    have hlt : i < its.toArray.size := by rw [List.size_toArray]; exact (List.getElem?_eq_some_iff.mp hu).1
    refine wpAny_pyNext_enum_itemC (Draws.list (show X.A.in1.handled = none from I.ok.hd hc) it a hai its.toArray) he ⟨hit, p.isList⟩ hlt hne (by simp [hne, hae.symm]) fun y h' tk hy ho hst hT _ hk => ?_
    have ey : y = u := by
      have z : its.toArray[i]? = some u := by simpa using hu
      exact Option.some.inj (hy.symm.trans z)
    subst ey
    refine ⟨_, rfl, wpAny_letOwnedTupleGo_enum (s := { s with heap := h', toks := tk + 1 }) ho fun h2 he2 sb => ?_⟩
    have hT2 : h2.get? s.heap.objs.size = some { cls := .type "tuple", data := .seq #[.int (k + i) tk, y] } := (sb.2 _ (Nat.ne_of_gt el)).trans hT
    have I1 : Inv X pins σ (upd H s.heap.objs.size (.tup [.int (k + (i : Nat)), x])) { s with heap := h2, toks := tk + 1 } :=
      I.turnedNew (ch := [e, it]) (fun b ob hb q => (sb.2 b (fun z => hb (by simp [z]))).trans (hk b ob (fun z => hb (by simp [z])) (fun z => hb (by simp [z])) q)) hf (Nat.le_refl _)
        ⟨(by decide : 2 ≤ sizeLine), [.int (k + i) tk, y], .cons ⟨_, rfl⟩ (.cons ru .nil), ⟨_, hT2, rfl, _, rfl⟩⟩
    refine ⟨.ref s.heap.objs.size, _, I1, rfl, ⟨_, x, rfl, I.hok.fresh (Nat.le_refl _), rfl, fun ys hy => by rw [I.list_inj hy hq]; exact hx⟩, ⟨⟨y, ?_⟩, hst.1.at fun o q => (sb.2 it (Ne.symm hne)).trans q, hne⟩, fun b hb => ?_⟩
    · have e1 : k + ((i + 1 : Nat) : Int) = k + (i : Int) + 1 := by omega
      rw [e1]; exact he2
    · have lt : b < s.heap.objs.size := (two hb).elim (fun z => by rw [z]; exact el) fun z => by rw [z]; exact il
      rw [upd_ne (Nat.ne_of_lt lt)]; exact (hf b hb).1
  · rintro X rfl rfl rfl hc i pins s σ H E I hf ⟨⟨old, he⟩, hit, hne⟩ ⟨xs, hq, hx⟩
    obtain ⟨its, rv, p, hz⟩ := I.list hq
    obtain ⟨f0, f1, f2, f3, f4, f5⟩ := hf it (by simp)
    have hl : its.toArray.size = i := by rw [List.size_toArray, ← rv.length]; exact hx
    have D := Draws.list (prog := X.prog) (w := X.w) (show X.A.in1.handled = none from I.ok.hd hc) it a hai its.toArray
    exact wpAny_pyNext_enum_endD D he ⟨by rw [hl]; exact hit, p.isList⟩ fun h' eb => ⟨rfl, I.turned (t' := s.toks) (fun b o hb q => eb b o hb q) f0 f1 f3 f4 f5⟩
  · rintro A i s Q E ⟨⟨_, he⟩, _⟩ h
    exact wpAny_pyIter_enum he h

def iEnumS (K : PySem.W.Frag) (ta tk : TA) : TI := fun σ H R => ta σ H fun vs H1 => tk σ H1 fun zs H2 => ∃ a xs k, vs = [.ref a] ∧ zs = [.int k] ∧ (-(2 ^ 62) ≤ k ∧ k < 2 ^ 62) ∧ SqL K H2 a xs ∧ R (Itn K k a) H2
theorem pi_enumS {X : Cx} {e e2 : Expr} {ta tk : TA} {p pos tpos kp : Pos} {elts : List Expr} {kk : Nat} (hg : Gl X "enumerate") (hm : X.mg "enumerate" = none) (ha : PA X [e] ta) (hk : PK X [⟨some "start", e2, kp⟩] tk) (hs : starEach [e] X.env = (false, eval e X.env) :: starEach [] X.env := by rfl)
    (hall : (backToKw pos (keywordEach [⟨some "start", e2, kp⟩] X.env)).all (·.1.isSome) = true := by rfl) (hks : (backToKw pos (keywordEach [⟨some "start", e2, kp⟩] X.env)).filterMap (·.1) = [("start" : Str)] := by rfl)
    (hpl : ((backTo pos (starEach [e] X.env)).any (·.1) || (backToKw pos (keywordEach [⟨some "start", e2, kp⟩] X.env)).any (·.1.isNone)) = false := by rfl) :
    PI X (.Tuple elts kk tpos) (.Call (.Name "enumerate" p) [e] [⟨some "start", e2, kp⟩] pos) (iEnumS X.K ta tk) := by
  refine ⟨fun pins s σ H R I h => wpAny_Call_Name_kw (ld_blt I hg hm boot_enumerate ?_)⟩
  refine PySem.W.callWith_of (P := fun _ => True) hpl (fun _ _ => ⟨.machine, .inr (.inl rfl), PySem.W.Looks.of_pure rfl⟩) (PyProof.Rows.evalArgs_kw2 hall (thn (ha.run pos pins s σ H _ I h) fun us s1 z => ?_) hs)
  obtain ⟨vs, H1, I1, r1, q1⟩ := z
  refine thn (hk.run pos pins s1 σ H1 _ I1 q1) fun ws s2 z => ?_
  obtain ⟨zs, H2, I2, r2, a, xs, k, rfl, rfl, hb, hq, q⟩ := z
  refine ⟨trivial, ?_⟩
  rw [hks]
  obtain ⟨u, rfl, ru⟩ := vals1 r1
  obtain ⟨t, rfl, tt, rfl⟩ := vals1 r2
  obtain rfl : u = Value.ref a := ru
  obtain ⟨its, rv, p', hz⟩ := I2.list hq
  have lt : a < s2.heap.objs.size := by obtain ⟨o, _, ho, _⟩ := p'; exact Heap.lt_size ho
  have old : ∀ {b : Addr}, s2.heap.objs.size ≤ b → a ≠ b := fun {b} hb => Nat.ne_of_lt (Nat.lt_of_lt_of_le lt hb)
  refine enum_begins_start (begins_list a its.toArray) p'.isList (by omega) (by omega) fun h' he hit hsz hkeep => wpAny_pyIter_enum he ?_
  have I3 : Inv X pins σ H2 { s2 with heap := h' } := I2.kept (t' := s2.toks) hkeep
  refine ⟨s2.heap.objs.size + 1, [s2.heap.objs.size + 1, s2.heap.objs.size], _, _, H2, rfl, I3, turn_enumS k a (s2.heap.objs.size + 1) s2.heap.objs.size (old (Nat.le_refl _)) (old (Nat.le_succ _)), ⟨⟨.none, by simpa using he⟩, ⟨_, hit, rfl, rfl⟩, Nat.succ_ne_self _⟩, fun b hb => ?_, q⟩
  have two : b = s2.heap.objs.size + 1 ∨ b = s2.heap.objs.size := by simpa using hb
  have le : s2.heap.objs.size ≤ b := two.elim (fun z => by rw [z]; exact Nat.le_succ _) fun z => Nat.le_of_eq z.symm
  exact I2.fpOk le (I2.hok.fresh le)
/-- a loop over enumerate(list, start = k), the list as it is through all turns -/
theorem for_enumS {K : PySem.W.Frag} {k : Int} {a : Addr} {xs : List V} {g : TG} {tb : TS} {D : Ends} {σ : L2.St} {H : Hp} (Pv : Nat → L2.St → Hp → Prop) (h0 : Pv 0 σ H) (hl : ∀ i σ H, i ≤ xs.length → Pv i σ H → SqL K H a xs)
    (hs : ∀ i x σ H T, xs[i]? = some x → Pv i σ H → H T = none → g (.ref T) σ (upd H T (.tup [.int (k + (i : Nat)), x])) fun σ2 H2 => tb { D with nx := Pv (i + 1), ct := Pv (i + 1), bk := D.nx } σ2 H2) (hd : ∀ σ H, Pv xs.length σ H → D.nx σ H) :
    ∃ W : Nat → Nat → L2.St → Hp → Prop, (∃ m, W 0 m σ H) ∧ ∀ i m σ H, W i m σ H → ((Itn K k a).stop i H ∧ D.nx σ H) ∨ ((Itn K k a).go i H ∧ ∃ N : L2.St → Hp → Prop, (∀ σ' H', N σ' H' → ∃ m', m' < m ∧ W (i + 1) m' σ' H') ∧
      ∀ x H', (Itn K k a).yld i H x H' → g x σ H' fun σ2 H2 => tb { D with nx := N, ct := N, bk := D.nx } σ2 H2) := by
  refine ⟨fun i m σ H => m = xs.length - i ∧ i ≤ xs.length ∧ Pv i σ H, ⟨xs.length, by simp, Nat.zero_le _, h0⟩, ?_⟩
  rintro i m σ H ⟨rfl, hi, p⟩
  have q := hl i σ H hi p
  rcases Nat.lt_or_ge i xs.length with lt | ge
  · refine .inr ⟨⟨xs, xs[i], q, by simp [lt]⟩, Pv (i + 1), fun σ' H' p' => ⟨xs.length - (i + 1), by omega, rfl, lt, p'⟩, fun x H' y => ?_⟩
    obtain ⟨T, z, rfl, hT, rfl, y⟩ := y
    exact hs i z σ H T (y xs q) p hT
  · obtain rfl : i = xs.length := Nat.le_antisymm hi ge
    exact .inl ⟨⟨xs, q, rfl⟩, hd σ H p⟩
/-- the same from nought -/
theorem for_enum {K : PySem.W.Frag} {a : Addr} {xs : List V} {g : TG} {tb : TS} {D : Ends} {σ : L2.St} {H : Hp} (Pv : Nat → L2.St → Hp → Prop) (h0 : Pv 0 σ H) (hl : ∀ i σ H, i ≤ xs.length → Pv i σ H → SqL K H a xs)
    (hs : ∀ i x σ H T, xs[i]? = some x → Pv i σ H → H T = none → g (.ref T) σ (upd H T (.tup [.int (i : Nat), x])) fun σ2 H2 => tb { D with nx := Pv (i + 1), ct := Pv (i + 1), bk := D.nx } σ2 H2) (hd : ∀ σ H, Pv xs.length σ H → D.nx σ H) :
    ∃ W : Nat → Nat → L2.St → Hp → Prop, (∃ m, W 0 m σ H) ∧ ∀ i m σ H, W i m σ H → ((Ite K a).stop i H ∧ D.nx σ H) ∨ ((Ite K a).go i H ∧ ∃ N : L2.St → Hp → Prop, (∀ σ' H', N σ' H' → ∃ m', m' < m ∧ W (i + 1) m' σ' H') ∧
      ∀ x H', (Ite K a).yld i H x H' → g x σ H' fun σ2 H2 => tb { D with nx := N, ct := N, bk := D.nx } σ2 H2) := by
  refine ⟨fun i m σ H => m = xs.length - i ∧ i ≤ xs.length ∧ Pv i σ H, ⟨xs.length, by simp, Nat.zero_le _, h0⟩, ?_⟩
  rintro i m σ H ⟨rfl, hi, p⟩
  have q := hl i σ H hi p
  rcases Nat.lt_or_ge i xs.length with lt | ge
  · refine .inr ⟨⟨xs, xs[i], q, by simp [lt]⟩, Pv (i + 1), fun σ' H' p' => ⟨xs.length - (i + 1), by omega, rfl, lt, p'⟩, fun x H' y => ?_⟩
    obtain ⟨T, z, rfl, hT, rfl, y⟩ := y
    exact hs i z σ H T (y xs q) p hT
  · obtain rfl : i = xs.length := Nat.le_antisymm hi ge
    exact .inl ⟨⟨xs, q, Nat.le_refl _⟩, hd σ H p⟩
end J

/-! Comprehensions that make a list of data, one item a turn. -/
namespace J
open PySem L2 PySem.Spec PyProof.Rows
/-- what holds ahead of turn i: the data of H1 outside of M stand, nothing of M is gone, and S -/
structure Ahead (M : List Addr) (S : Nat → Hp → Prop) (H1 : Hp) (D : Addr) (i : Nat) (H : Hp) : Prop where
  keep : Same (hid M H1) (hid (D :: M) H)
  al : Al (D :: M) H
  s : S i H
/-- what the element's turn has to leave: the item y is data d, everything outside of D and M stands, D is as it was -/
structure Left (K : PySem.W.Frag) (M : List Addr) (S : Nat → Hp → Prop) (D : Addr) (i : Nat) (H : Hp) (y : V) (H4 : Hp) (d : PyData) : Prop where
  dp : Dp K (hid (D :: M) H4) y d
  keep : Same (hid (D :: M) H) (hid (D :: M) H4)
  at_ : H4 D = H D
  al : Al (D :: M) H4
  s : S (i + 1) H4
section
variable {K : PySem.W.Frag} {M : List Addr} {R : Nat → PyData → Prop} {S : Nat → Hp → Prop} {H1 : Hp} {D : Addr}
def Inn (K : PySem.W.Frag) (M : List Addr) (R : Nat → PyData → Prop) (S : Nat → Hp → Prop) (H1 : Hp) (D : Addr) (i : Nat) (H : Hp) : Prop :=
  Ahead M S H1 D i H ∧ ∃ ys ds, H D = some (.lst ys) ∧ ds.length = i ∧ DpAll K (hid (D :: M) H) ys ds ∧ ∀ j d, ds[j]? = some d → R j d
theorem inn_start (al : Al M H1) (nD : H1 D = none) (s0 : S 0 (upd H1 D (.lst []))) : Inn K M R S H1 D 0 (upd H1 D (.lst [])) := by
  refine ⟨⟨?_, (al.mono (new_same nD)).cons upd_same, s0⟩, [], [], upd_same, rfl, .nil, fun j d e => by simp at e⟩
  rw [hid_write (List.mem_cons_self ..)]
  intro b o h
  obtain ⟨h1, h2⟩ := hid_some h
  rw [hid_out fun z => (List.mem_cons.mp z).elim (fun q => by rw [q, nD] at h1; cases h1) h2]
  exact h1
theorem inn_step (stab : ∀ i H o, S i H → S i (upd H D o)) {i : Nat} {H : Hp} (h : Inn K M R S H1 D i H) {y : V} {H4 : Hp} {d : PyData} (r : R i d) (l : Left K M S D i H y H4 d) (hi : i < sizeLine) :
    ∃ acc, H4 D = some (.lst acc) ∧ acc.length < sizeLine ∧ Inn K M R S H1 D (i + 1) (upd H4 D (.lst (acc ++ [y]))) := by
  obtain ⟨a, ys, ds, hD, hl, da, rr⟩ := h
  have e : hid (D :: M) (upd H4 D (.lst (ys ++ [y]))) = hid (D :: M) H4 := hid_write (List.mem_cons_self ..)
  refine ⟨ys, l.at_.trans hD, by rw [dpAll_length da, hl]; exact hi, ⟨⟨by rw [e]; exact a.keep.trans l.keep, l.al.upd, stab _ _ _ l.s⟩, ys ++ [y], ds ++ [d], upd_same, by rw [List.length_append, hl]; rfl, by rw [e]; exact dpAll_append (da.mono l.keep) (.cons l.dp .nil), fun j q ej => ?_⟩⟩
  rcases Nat.lt_or_ge j ds.length with lt | ge
  · rw [List.getElem?_append_left lt] at ej; exact rr j q ej
  · rw [List.getElem?_append_right ge] at ej
    have : j - ds.length = 0 := by
      cases z : j - ds.length with
      | zero => rfl
      | succ m => rw [z] at ej; simp at ej
    have ej2 : j = i := by omega
    rw [this] at ej
    obtain rfl : d = q := by simpa using ej
    rw [ej2]; exact r
theorem inn_end (al : Al M H1) (nD : H1 D = none) {n : Nat} {H : Hp} (h : Inn K M R S H1 D n H) : ∃ ds, ds.length = n ∧ (∀ j d, ds[j]? = some d → R j d) ∧ Dp K (hid M H) (.ref D) (.list ds) ∧ Same (hid M H1) (hid M H) ∧ Al M H ∧ S n H ∧ D ∉ M := by
  obtain ⟨a, ys, ds, hD, hl, da, rr⟩ := h
  have nM : D ∉ M := al.new nD
  exact ⟨ds, hl, rr, .lst (.of (by rw [hid_out nM]; exact hD)) (da.mono hid_drop), a.keep.trans hid_drop, a.al.tail, a.s, nM⟩
theorem yes_eq {te : TE} {vs : List Nat} {σ : L2.St} {k : VK} {Z : Hp → Prop} : (fun (σ2 : L2.St) (H2 : Hp) => wipe σ2 vs = wipe σ vs ∧ tYes σ2 H2 fun b H3 => if b = true then te σ2 H3 k else Z H3) = fun σ2 H2 => wipe σ2 vs = wipe σ vs ∧ te σ2 H2 k := by
  funext σ2 H2
  show (wipe σ2 vs = wipe σ vs ∧ if true = true then te σ2 H2 k else Z H2) = _
  rw [if_pos rfl]
/-- [elt for x in list] -/
theorem lc_map {a : Addr} {xs : List V} {g : TG} {te : TE} {vs : List Nat} {σ : L2.St} {Qd : Hp → Prop} (M : List Addr) (R : Nat → PyData → Prop) (S : Nat → Hp → Prop) (al : Al M H1) (nD : H1 D = none) (hx : SqL K (hid M H1) a xs) (s0 : S 0 (upd H1 D (.lst [])))
    (stab : ∀ i H o, S i H → S i (upd H D o)) (hl : xs.length ≤ sizeLine)
    (body : ∀ i x H, xs[i]? = some x → Ahead M S H1 D i H → ∀ k : VK, (∀ y H4 d, R i d → Left K M S D i H y H4 d → k y H4) → g x (wipe σ vs) H fun σ2 H2 => wipe σ2 vs = wipe σ vs ∧ te σ2 H2 k)
    (hd : ∀ H ds, ds.length = xs.length → (∀ j d, ds[j]? = some d → R j d) → Dp K (hid M H) (.ref D) (.list ds) → Same (hid M H1) (hid M H) → Al M H → S xs.length H → D ∉ M → Qd H) :
    ∃ W : Nat → Nat → Hp → Prop, (∃ m, W 0 m (upd H1 D (.lst []))) ∧ ∀ i m H, W i m H →
      ((Itl K a).stop i H ∧ Qd H) ∨ ((Itl K a).go i H ∧ ∃ Nx : Hp → Prop, (∀ H', Nx H' → ∃ m', m' < m ∧ W (i + 1) m' H') ∧ ∀ x H', (Itl K a).yld i H x H' → g x (wipe σ vs) H' fun σ2 H2 => wipe σ2 vs = wipe σ vs ∧ tYes σ2 H2 fun b H3 =>
        if b = true then te σ2 H3 fun y H4 => ∃ acc, H4 D = some (.lst acc) ∧ acc.length < sizeLine ∧ Nx (upd H4 D (.lst (acc ++ [y]))) else Nx H3) := by
  refine lc_list (K := K) (a := a) (xs := xs) (tt := tYes) (Inn K M R S H1 D) (inn_start al nD s0) (fun i H _ h => (h.1.keep.trans hid_le).seq hx) (fun i x H e h => ?_) fun H h => ?_
  · rw [yes_eq]
    exact body i x H e h.1 _ fun y H4 d r l => inn_step stab h r l (Nat.lt_of_lt_of_le (List.getElem?_eq_some_iff.mp e).1 hl)
  · obtain ⟨ds, h1, h2, h3, h4, h5, h6, h7⟩ := inn_end al nD h
    exact hd H ds h1 h2 h3 h4 h5 h6 h7
/-- [elt for x in tuple] -/
theorem lc_mapT {a : Addr} {xs : List V} {g : TG} {te : TE} {vs : List Nat} {σ : L2.St} {Qd : Hp → Prop} (M : List Addr) (R : Nat → PyData → Prop) (S : Nat → Hp → Prop) (al : Al M H1) (nD : H1 D = none) (hx : SqT K (hid M H1) a xs) (s0 : S 0 (upd H1 D (.lst [])))
    (stab : ∀ i H o, S i H → S i (upd H D o)) (hl : xs.length ≤ sizeLine)
    (body : ∀ i x H, xs[i]? = some x → Ahead M S H1 D i H → ∀ k : VK, (∀ y H4 d, R i d → Left K M S D i H y H4 d → k y H4) → g x (wipe σ vs) H fun σ2 H2 => wipe σ2 vs = wipe σ vs ∧ te σ2 H2 k)
    (hd : ∀ H ds, ds.length = xs.length → (∀ j d, ds[j]? = some d → R j d) → Dp K (hid M H) (.ref D) (.list ds) → Same (hid M H1) (hid M H) → Al M H → S xs.length H → D ∉ M → Qd H) :
    ∃ W : Nat → Nat → Hp → Prop, (∃ m, W 0 m (upd H1 D (.lst []))) ∧ ∀ i m H, W i m H →
      ((Itt K a).stop i H ∧ Qd H) ∨ ((Itt K a).go i H ∧ ∃ Nx : Hp → Prop, (∀ H', Nx H' → ∃ m', m' < m ∧ W (i + 1) m' H') ∧ ∀ x H', (Itt K a).yld i H x H' → g x (wipe σ vs) H' fun σ2 H2 => wipe σ2 vs = wipe σ vs ∧ tYes σ2 H2 fun b H3 =>
        if b = true then te σ2 H3 fun y H4 => ∃ acc, H4 D = some (.lst acc) ∧ acc.length < sizeLine ∧ Nx (upd H4 D (.lst (acc ++ [y]))) else Nx H3) := by
  refine lc_tup (K := K) (a := a) (xs := xs) (tt := tYes) (Inn K M R S H1 D) (inn_start al nD s0) (fun i H _ h => (hx.mono h.1.keep).mono hid_le) (fun i x H e h => ?_) fun H h => ?_
  · rw [yes_eq]
    exact body i x H e h.1 _ fun y H4 d r l => inn_step stab h r l (Nat.lt_of_lt_of_le (List.getElem?_eq_some_iff.mp e).1 hl)
  · obtain ⟨ds, h1, h2, h3, h4, h5, h6, h7⟩ := inn_end al nD h
    exact hd H ds h1 h2 h3 h4 h5 h6 h7
/-- [elt for x in range(..)] -/
theorem lc_mapR {lo : Int} {n : Nat} {g : TG} {te : TE} {vs : List Nat} {σ : L2.St} {Qd : Hp → Prop} (M : List Addr) (R : Nat → PyData → Prop) (S : Nat → Hp → Prop) (al : Al M H1) (nD : H1 D = none) (s0 : S 0 (upd H1 D (.lst [])))
    (stab : ∀ i H o, S i H → S i (upd H D o)) (hl : n ≤ sizeLine)
    (body : ∀ i H, i < n → Ahead M S H1 D i H → ∀ k : VK, (∀ y H4 d, R i d → Left K M S D i H y H4 d → k y H4) → g (.int (lo + i)) (wipe σ vs) H fun σ2 H2 => wipe σ2 vs = wipe σ vs ∧ te σ2 H2 k)
    (hd : ∀ H ds, ds.length = n → (∀ j d, ds[j]? = some d → R j d) → Dp K (hid M H) (.ref D) (.list ds) → Same (hid M H1) (hid M H) → Al M H → S n H → D ∉ M → Qd H) :
    ∃ W : Nat → Nat → Hp → Prop, (∃ m, W 0 m (upd H1 D (.lst []))) ∧ ∀ i m H, W i m H →
      ((Itr lo n).stop i H ∧ Qd H) ∨ ((Itr lo n).go i H ∧ ∃ Nx : Hp → Prop, (∀ H', Nx H' → ∃ m', m' < m ∧ W (i + 1) m' H') ∧ ∀ x H', (Itr lo n).yld i H x H' → g x (wipe σ vs) H' fun σ2 H2 => wipe σ2 vs = wipe σ vs ∧ tYes σ2 H2 fun b H3 =>
        if b = true then te σ2 H3 fun y H4 => ∃ acc, H4 D = some (.lst acc) ∧ acc.length < sizeLine ∧ Nx (upd H4 D (.lst (acc ++ [y]))) else Nx H3) := by
  refine lc_range (lo := lo) (n := n) (tt := tYes) (Inn K M R S H1 D) (inn_start al nD s0) (fun i H e h => ?_) fun H h => ?_
  · rw [yes_eq]
    exact body i H e h.1 _ fun y H4 d r l => inn_step stab h r l (Nat.lt_of_lt_of_le e hl)
  · obtain ⟨ds, h1, h2, h3, h4, h5, h6, h7⟩ := inn_end al nD h
    exact hd H ds h1 h2 h3 h4 h5 h6 h7
end
/-- a list of data whose items are told one by one -/
theorem list_is {ds es : List PyData} (hl : ds.length = es.length) (h : ∀ (j : Nat) d, ds[j]? = some d → es[j]? = some d) : ds = es := by
  apply List.ext_getElem? ; intro j
  cases e : ds[j]? with
  | some d => exact (h j d e).symm
  | none =>
    have := List.getElem?_eq_none_iff.mp e
    exact (List.getElem?_eq_none_iff.mpr (by omega)).symm
end J

namespace J
open PySem L2 PySem.Spec PyProof.Rows
def topS (i : Nat) : Stmt := PySem.Challenge.pw_jointoll_k15_whole_totals_of_long_rows.main.body.getD i (.Pass ⟨0, 0, 0, 0⟩)
/-- what the module leaves alone, and its constants -/
structure Bi (mg : Str → Option Value) : Prop where
  n_bool : mg "bool" = none
  n_enumerate : mg "enumerate" = none
  n_int : mg "int" = none
  n_isinstance : mg "isinstance" = none
  n_len : mg "len" = none
  n_list : mg "list" = none
  n_max : mg "max" = none
  n_min : mg "min" = none
  n_range : mg "range" = none
  n_repr : mg "repr" = none
  n_sum : mg "sum" = none
  n_tuple : mg "tuple" = none
  k_MOST_KINDS : ∃ t, mg "MOST_KINDS" = some (.int 5 t)
  k_TOLL_BOUND : ∃ t, mg "TOLL_BOUND" = some (.int 1000000000000 t)
  k_MOST_FIRM_ITEMS : ∃ t, mg "MOST_FIRM_ITEMS" = some (.int 1000 t)

/-! readings of built-ins by their own names -/
theorem sz0 : 0 ≤ sizeLine := by decide
theorem sz1 : 1 ≤ sizeLine := by decide
theorem sz2 : 2 ≤ sizeLine := by decide
theorem sz3 : 3 ≤ sizeLine := by decide
theorem sz4 : 4 ≤ sizeLine := by decide
theorem sz5 : 5 ≤ sizeLine := by decide
theorem sz6 : 6 ≤ sizeLine := by decide
theorem sz7 : 7 ≤ sizeLine := by decide
theorem sz8 : 8 ≤ sizeLine := by decide
theorem sz9 : 9 ≤ sizeLine := by decide

def rLenK (K : PySem.W.Frag) : List V → Hp → VK → Prop := fun xs H Q => ∃ x n, xs = [x] ∧ LenV K x H n ∧ Q (.int n) H
def rTupK (K : PySem.W.Frag) : List V → Hp → VK → Prop := fun xs H Q => ∃ p ys, xs = [.ref p] ∧ ((SqL K H p ys ∧ ∀ l, H l = none → Q (.ref l) (upd H l (.tup ys))) ∨ (SqT K H p ys ∧ Q (.ref p) H))
def rLstK (K : PySem.W.Frag) : List V → Hp → VK → Prop := fun xs H Q => ∃ p ys, xs = [.ref p] ∧ (SqL K H p ys ∨ SqT K H p ys) ∧ ∀ l, H l = none → Q (.ref l) (upd H l (.lst ys))
def rInt1 : List V → Hp → VK → Prop := fun xs H Q => (∃ i, xs = [.int i] ∧ Q (.int i) H) ∨ ∃ k, xs = [.bl k] ∧ Q (.int (if k then 1 else 0)) H
def rAbs : List V → Hp → VK → Prop := fun xs H Q => ∃ i, xs = [.int i] ∧ Q (.int (if i < 0 then -i else i)) H
def rMax2 : List V → Hp → VK → Prop := fun xs H Q => ∃ i j, xs = [.int i, .int j] ∧ Q (.int (if j > i then j else i)) H
def rMin2 : List V → Hp → VK → Prop := fun xs H Q => ∃ i j, xs = [.int i, .int j] ∧ Q (.int (if j < i then j else i)) H
theorem dpAll_c {K : PySem.W.Frag} {H : Hp} {xs : List V} {d : PyData} {ds : List PyData} (h : DpAll K H xs (d :: ds)) : ∃ x ys, xs = x :: ys ∧ Dp K H x d ∧ DpAll K H ys ds := by
  cases h with | cons a b => exact ⟨_, _, rfl, a, b⟩
theorem dpAll_n {K : PySem.W.Frag} {H : Hp} {xs : List V} (h : DpAll K H xs []) : xs = [] := by cases h; rfl
theorem dpAll_2 {K : PySem.W.Frag} {H : Hp} {xs : List V} {a b : PyData} (h : DpAll K H xs [a, b]) : ∃ x y, xs = [x, y] ∧ Dp K H x a ∧ Dp K H y b := by
  obtain ⟨x, _, rfl, h1, h⟩ := dpAll_c h
  obtain ⟨y, _, rfl, h2, h⟩ := dpAll_c h
  obtain rfl := dpAll_n h
  exact ⟨x, y, rfl, h1, h2⟩
theorem dpAll_3 {K : PySem.W.Frag} {H : Hp} {xs : List V} {a b c : PyData} (h : DpAll K H xs [a, b, c]) : ∃ x y z, xs = [x, y, z] ∧ Dp K H x a ∧ Dp K H y b ∧ Dp K H z c := by
  obtain ⟨x, _, rfl, h1, h⟩ := dpAll_c h
  obtain ⟨y, z, rfl, h2, h3⟩ := dpAll_2 h
  exact ⟨x, y, z, rfl, h1, h2, h3⟩
theorem dpAll_4 {K : PySem.W.Frag} {H : Hp} {xs : List V} {a b c d : PyData} (h : DpAll K H xs [a, b, c, d]) : ∃ x y z w, xs = [x, y, z, w] ∧ Dp K H x a ∧ Dp K H y b ∧ Dp K H z c ∧ Dp K H w d := by
  obtain ⟨x, _, rfl, h1, h⟩ := dpAll_c h
  obtain ⟨y, z, w, rfl, h2, h3, h4⟩ := dpAll_3 h
  exact ⟨x, y, z, w, rfl, h1, h2, h3, h4⟩
/-! values that isinstance is asked about -/
inductive Pl (K : PySem.W.Frag) (H : Hp) : V → Prop where
  | non : Pl K H .non
  | bl (b : Bool) : Pl K H (.bl b)
  | int (i : Int) : Pl K H (.int i)
  | str (x : Str) : Pl K H (.str x)
  | lst {a : Addr} {xs : List V} (h : SqL K H a xs) : Pl K H (.ref a)
  | tup {a : Addr} {xs : List V} (h : SqT K H a xs) : Pl K H (.ref a)
theorem pl_of {K : PySem.W.Frag} {H : Hp} {v : V} {d : PyData} (h : Dp K H v d) : Pl K H v := by
  cases h with
  | non => exact .non
  | bl b => exact .bl b
  | int i => exact .int i
  | str x => exact .str x
  | lst h _ => exact .lst h
  | tup h _ => exact .tup h
theorem ty_lst {K : PySem.W.Frag} {H : Hp} {a : Addr} {xs : List V} (h : SqL K H a xs) : TyX K H (.ref a) (.type "list") := by
  rcases h with (h | ⟨o, h⟩) | ⟨o, its, n, hk, hc, _⟩
  · exact .base (.lst h)
  · exact .base (.frz h)
  · exact .kList hk hc
theorem ty_tup {K : PySem.W.Frag} {H : Hp} {a : Addr} {xs : List V} (h : SqT K H a xs) : TyX K H (.ref a) (.type "tuple") := by
  rcases h with (h | ⟨o, h⟩) | ⟨o, its, n, hk, hc, _⟩
  · exact .base (.tup h)
  · exact .fTuple h
  · exact .kTuple hk hc
def isI : V → Bool
  | .int _ => true
  | _ => false
def isB : V → Bool
  | .bl _ => true
  | _ => false
theorem pl_ty {K : PySem.W.Frag} {H : Hp} {v : V} (h : Pl K H v) : ∃ t : String, TyX K H v (.type t) ∧ kitB t "int" = some (isI v || isB v) ∧ kitB t "bool" = some (isB v) := by
  cases h with
  | non => exact ⟨_, .base .non, by decide +kernel, by decide +kernel⟩
  | bl b => exact ⟨_, .base (.bl b), by show kitB "bool" "int" = some true; decide +kernel, by show kitB "bool" "bool" = some true; decide +kernel⟩
  | int i => exact ⟨_, .base (.int i), by show kitB "int" "int" = some true; decide +kernel, by show kitB "int" "bool" = some false; decide +kernel⟩
  | str x => exact ⟨_, .base (.str x), by show kitB "str" "int" = some false; decide +kernel, by show kitB "str" "bool" = some false; decide +kernel⟩
  | lst h => exact ⟨_, ty_lst h, by show kitB "list" "int" = some false; decide +kernel, by show kitB "list" "bool" = some false; decide +kernel⟩
  | tup h => exact ⟨_, ty_tup h, by show kitB "tuple" "int" = some false; decide +kernel, by show kitB "tuple" "bool" = some false; decide +kernel⟩
/-- isinstance(x, list), isinstance(x, tuple) of values -/
def isLs (K : PySem.W.Frag) (H : Hp) (v : V) (b : Bool) : Prop := ∃ t : String, TyX K H v (.type t) ∧ kitB t "list" = some b
def isTp (K : PySem.W.Frag) (H : Hp) (v : V) (b : Bool) : Prop := ∃ t : String, TyX K H v (.type t) ∧ kitB t "tuple" = some b
theorem isLs_lst {K : PySem.W.Frag} {H : Hp} {a : Addr} {xs : List V} (h : SqL K H a xs) : isLs K H (.ref a) true := ⟨_, ty_lst h, by decide +kernel⟩
theorem isTp_tup {K : PySem.W.Frag} {H : Hp} {a : Addr} {xs : List V} (h : SqT K H a xs) : isTp K H (.ref a) true := ⟨_, ty_tup h, by decide +kernel⟩
theorem isTp_int {K : PySem.W.Frag} {H : Hp} {i : Int} : isTp K H (.int i) false := ⟨_, .base (.int i), by decide +kernel⟩
theorem k_ll : kitB "list" "list" = some true := by decide +kernel
theorem k_tt : kitB "tuple" "tuple" = some true := by decide +kernel
theorem k_lt : kitB "list" "tuple" = some false := by decide +kernel
theorem k_tl : kitB "tuple" "list" = some false := by decide +kernel
theorem k_it : kitB "int" "tuple" = some false := by decide +kernel
theorem k_il : kitB "int" "list" = some false := by decide +kernel
/-- the reading of isinstance(x, T), T a built-in class -/
theorem r_isi {K : PySem.W.Frag} {H : Hp} {x : V} {t c : String} {b : Bool} {Q : VK} (ty : TyX K H x (.type t)) (k : kitB t c = some b) (q : Q (.bl b) H) : rIsi K [x, .ty c] H Q := ⟨x, .ty c, _, _, b, rfl, .ty c, ty, kit_ty k, q⟩
def g12 {α : Type} : List α → List α → List α
  | [a], [b, c] => [a, b, c]
  | _, _ => []
def g33 {α : Type} : List α → List α → List α
  | [a, b, c], [d, e, f] => [a, b, c, d, e, f]
  | _, _ => []
theorem g12_rel {vs : List V} {us : List Value} {zs : List V} {ws : List Value} (h : Vals vs us) (k : Vals zs ws) : Vals (g12 vs zs) (g12 us ws) := by
  match h, k with
  | .cons a .nil, .cons b (.cons c .nil) => exact .cons a (.cons b (.cons c .nil))
  | .nil, _ => exact .nil
  | .cons _ (.cons _ _), _ => exact .nil
  | .cons _ .nil, .nil => exact .nil
  | .cons _ .nil, .cons _ .nil => exact .nil
  | .cons _ .nil, .cons _ (.cons _ (.cons _ _)) => exact .nil
theorem g33_rel {vs : List V} {us : List Value} {zs : List V} {ws : List Value} (h : Vals vs us) (k : Vals zs ws) : Vals (g33 vs zs) (g33 us ws) := by
  match h, k with
  | .cons a (.cons a2 (.cons a3 .nil)), .cons b (.cons c (.cons d .nil)) => exact .cons a (.cons a2 (.cons a3 (.cons b (.cons c (.cons d .nil)))))
  | .nil, _ => exact .nil
  | .cons _ .nil, _ => exact .nil
  | .cons _ (.cons _ .nil), _ => exact .nil
  | .cons _ (.cons _ (.cons _ (.cons _ _))), _ => exact .nil
  | .cons _ (.cons _ (.cons _ .nil)), .nil => exact .nil
  | .cons _ (.cons _ (.cons _ .nil)), .cons _ .nil => exact .nil
  | .cons _ (.cons _ (.cons _ .nil)), .cons _ (.cons _ .nil) => exact .nil
  | .cons _ (.cons _ (.cons _ .nil)), .cons _ (.cons _ (.cons _ (.cons _ _))) => exact .nil
/-- square grids of whole numbers -/
def gD (g : List (List Int)) : PyData := .list (g.map fun r => .list (r.map .int))
def gT (g : List (List Int)) : PyData := .tuple (g.map fun r => .tuple (r.map .int))
structure Sq (n : Nat) (g : List (List Int)) (lo hi : Int) : Prop where
  len : g.length = n
  row : ∀ r ∈ g, r.length = n
  cell : ∀ r ∈ g, ∀ c ∈ r, lo ≤ c ∧ c ≤ hi
/-- a list of lists, read -/
theorem gD_row {K : PySem.W.Frag} {H : Hp} {g : List (List Int)} {xs : List V} {i : Nat} {x : V} (h : DpAll K H xs (g.map fun r => PyData.list (r.map .int))) (e : xs[i]? = some x) : ∃ r a, g[i]? = some r ∧ x = .ref a ∧ SqL K H a (r.map V.int) := by
  obtain ⟨d, e1, h1⟩ := dpAll_of h e
  rw [List.getElem?_map] at e1
  cases er : g[i]? with
  | none => rw [er] at e1; cases e1
  | some r =>
    rw [er] at e1
    obtain rfl := Option.some.inj e1
    obtain ⟨a, ys, rfl, h2, h3⟩ := dp_lstV h1
    rw [dpAll_ints h3] at h2
    exact ⟨r, a, rfl, rfl, h2⟩
theorem gT_row {K : PySem.W.Frag} {H : Hp} {g : List (List Int)} {xs : List V} {i : Nat} {x : V} (h : DpAll K H xs (g.map fun r => PyData.tuple (r.map .int))) (e : xs[i]? = some x) : ∃ r a, g[i]? = some r ∧ x = .ref a ∧ SqT K H a (r.map V.int) := by
  obtain ⟨d, e1, h1⟩ := dpAll_of h e
  rw [List.getElem?_map] at e1
  cases er : g[i]? with
  | none => rw [er] at e1; cases e1
  | some r =>
    rw [er] at e1
    obtain rfl := Option.some.inj e1
    obtain ⟨a, ys, rfl, h2, h3⟩ := dp_tupV h1
    rw [dpAll_ints h3] at h2
    exact ⟨r, a, rfl, rfl, h2⟩
theorem ints_get {ns : List Int} {i : Nat} {x : V} (e : (ns.map V.int)[i]? = some x) : ∃ z, ns[i]? = some z ∧ x = .int z := by
  rw [List.getElem?_map] at e
  cases er : ns[i]? with
  | none => rw [er] at e; cases e
  | some z => rw [er] at e; exact ⟨z, rfl, (Option.some.inj e).symm⟩
/-- the list at D, grown item by item -/
theorem Sq.get {n : Nat} {g : List (List Int)} {lo hi : Int} (s : Sq n g lo hi) {i j : Nat} (hi' : i < n) (hj : j < n) : ∃ r c, g[i]? = some r ∧ r[j]? = some c ∧ lo ≤ c ∧ c ≤ hi := by
  have h1 : i < g.length := by rw [s.len]; exact hi'
  have m1 : g[i] ∈ g := List.getElem_mem h1
  have h2 : j < (g[i]).length := by rw [s.row _ m1]; exact hj
  exact ⟨g[i], g[i][j], List.getElem?_eq_getElem h1, List.getElem?_eq_getElem h2, s.cell _ m1 _ (List.getElem_mem h2)⟩
/-- a cell by two kinds counted from one -/
def at2 (g : List (List Int)) (x y : Int) : Int := ((g.getD (x - 1).toNat []).getD (y - 1).toNat 0)
theorem Sq.at2 {n : Nat} {g : List (List Int)} {lo hi : Int} (s : Sq n g lo hi) {x y : Int} (hx : 1 ≤ x ∧ x ≤ n) (hy : 1 ≤ y ∧ y ≤ n) :
    ∃ r, g[(x - 1).toNat]? = some r ∧ r[(y - 1).toNat]? = some (at2 g x y) ∧ lo ≤ at2 g x y ∧ at2 g x y ≤ hi := by
  obtain ⟨r, c, e1, e2, h⟩ := s.get (i := (x - 1).toNat) (j := (y - 1).toNat) (by omega) (by omega)
  have e : J.at2 g x y = c := by simp only [J.at2, List.getD_eq_getElem?_getD, e1, e2, Option.getD_some]
  rw [e]; exact ⟨r, e1, e2, h⟩

section
variable {P : Program} {w : World} {K : PySem.W.Frag} {mg : Str → Option Value} {base : Heap} {C : CA}
abbrev s_is_integer : Stmt := topS 9
abbrev N_is_integer : List Str := ["value"]
abbrev P_is_integer : List Str := ["value"]
theorem sc_is_integer : FnScope N_is_integer P_is_integer (defScope s_is_integer) := ⟨rfl, rfl, rfl, by decide +kernel, rfl, by decide +kernel, by decide +kernel⟩
def sp_is_integer (K : PySem.W.Frag) (_ : CA) : Sp := fun vs H Q _ => ∃ v, vs = [v] ∧ Pl K H v ∧ Q (.bl (isI v)) H
theorem ok_is_integer {f : Addr} {fd : FuncData} (F : Fun K "is_integer" "is_integer" s_is_integer f fd) (B : Bi mg) (T_Table : ClsT K mg "Table" C.table) (A_Table : ∀ f ∈ (["results", "prices"] : List Str), NoAttr K C.table f) : FnOk P w K mg base CX0 1 f fd P_is_integer (sp_is_integer K C) := by
  refine F.ok sc_is_integer (fun vs H Q E h => ?_) (fun cdv A outer s H vs Q E hr h => ?_)
  · obtain ⟨v, rfl, hv, q⟩ := h; rfl
  obtain ⟨v, rfl, hv, q⟩ := h
  refine ⟨_, (pss_one (ps_ret (pe_and (pe_callB (id := "isinstance") call_isi (by rfl) B.n_isinstance (by decide +kernel) (pa_cons (pv 0) (pa_cons (pe_bltn (by rfl) B.n_int (by decide +kernel) (v := .ty "int") rfl) pa_nil))) (pe_one (pe_not (pe_callB (id := "isinstance") call_isi (by rfl) B.n_isinstance (by decide +kernel) (pa_cons (pv 0) (pa_cons (pe_bltn (by rfl) B.n_bool (by decide +kernel) (v := .ty "bool") rfl) pa_nil)))))))), ?_⟩
  obtain ⟨t, ty, k1, k2⟩ := pl_ty hv
  refine ⟨_, rfl, _, _, _, _, _, rfl, .ty _, ty, kit_ty k1, _, rfl, ?_⟩
  cases v with
  | int i => exact iteT ⟨_, rfl, _, _, _, _, _, rfl, .ty _, ty, kit_ty k2, _, rfl, q⟩
  | bl b => exact iteT ⟨_, rfl, _, _, _, _, _, rfl, .ty _, ty, kit_ty k2, _, rfl, q⟩
  | _ => exact iteF q
abbrev s_is_between : Stmt := topS 10
abbrev N_is_between : List Str := ["value", "low", "high"]
abbrev P_is_between : List Str := ["value", "low", "high"]
theorem sc_is_between : FnScope N_is_between P_is_between (defScope s_is_between) := ⟨rfl, rfl, rfl, by decide +kernel, rfl, by decide +kernel, by decide +kernel⟩
def betw (v : V) (lo hi : Int) : Bool := match v with
  | .int i => decide (lo ≤ i) && decide (i ≤ hi)
  | _ => false
theorem betw_int {i lo hi : Int} (h : lo ≤ i ∧ i ≤ hi) : betw (.int i) lo hi = true := by unfold betw; simp [h.1, h.2]
def sp_is_between (K : PySem.W.Frag) (_ : CA) : Sp := fun vs H Q _ => ∃ v lo hi, vs = [v, .int lo, .int hi] ∧ Pl K H v ∧ Q (.bl (betw v lo hi)) H
theorem ok_is_between {f : Addr} {fd : FuncData} (F : Fun K "is_between" "is_between" s_is_between f fd) (B : Bi mg) (T_Table : ClsT K mg "Table" C.table) (A_Table : ∀ f ∈ (["results", "prices"] : List Str), NoAttr K C.table f) (c_is_integer : Cal P w K mg base CX0 "is_integer" 1 P_is_integer (sp_is_integer K C)) : FnOk P w K mg base CX0 2 f fd P_is_between (sp_is_between K C) := by
  refine F.ok sc_is_between (fun vs H Q E h => ?_) (fun cdv A outer s H vs Q E hr h => ?_)
  · obtain ⟨v, lo, hi, rfl, hv, q⟩ := h; rfl
  obtain ⟨v, lo, hi, rfl, hv, q⟩ := h
  refine ⟨_, (pss_one (ps_ret (pe_and (pe_call c_is_integer.ok (hr.mono (by decide)) (by rfl) c_is_integer.g c_is_integer.kp c_is_integer.b .nil pass0 (pa_cons (pv 0) pa_nil)) (pe_one (pe_chain op_le op_le (pv 1) (pv 0) (pv 2)))))), ?_⟩
  refine ⟨_, rfl, _, rfl, hv, _, rfl, ?_⟩
  cases v with
  | int i =>
    refine iteT ⟨_, rfl, _, rfl, _, _, rfl, rfl, _, rfl, ?_⟩
    by_cases h : lo ≤ i
    · have e : betw (.int i) lo hi = decide (i ≤ hi) := by unfold betw; simp [h]
      rw [decide_eq_true h]
      rw [e] at q
      exact iteT ⟨_, rfl, _, _, rfl, rfl, q⟩
    · have e : betw (.int i) lo hi = false := by unfold betw; simp [h]
      rw [decide_eq_false h]
      rw [e] at q
      exact iteF q
  | _ => exact iteF q
abbrev s_check_grid : Stmt := topS 11
abbrev N_check_grid : List Str := ["grid", "why", "cell_why", "size", "low", "high", "x", "row", "y", "value"]
abbrev P_check_grid : List Str := ["grid", "why", "cell_why", "size", "low", "high"]
theorem sc_check_grid : FnScope N_check_grid P_check_grid (defScope s_check_grid) := ⟨rfl, rfl, rfl, by decide +kernel, rfl, by decide +kernel, by decide +kernel⟩
def sp_check_grid (K : PySem.W.Frag) (_ : CA) : Sp := fun vs H Q _ => ∃ v why cw n lo hi g, vs = [v, .str why, .str cw, .int (n : Nat), .int lo, .int hi] ∧ Dp K H v (gD g) ∧ Sq n g lo hi ∧ ∀ H', Same H H' → Q .non H'
theorem ok_check_grid {f : Addr} {fd : FuncData} (F : Fun K "check_grid" "check_grid" s_check_grid f fd) (B : Bi mg) (T_Table : ClsT K mg "Table" C.table) (A_Table : ∀ f ∈ (["results", "prices"] : List Str), NoAttr K C.table f) (c_is_between : CalK P w K mg base CX0 "is_between" 2 P_is_between (sp_is_between K C)) (kb_is_between : KBinds K c_is_between.fd P_is_between ["low", "high"] g12 g12) : FnOk P w K mg base CX0 3 f fd P_check_grid (sp_check_grid K C) := by
  refine F.ok sc_check_grid (fun vs H Q E h => ?_) (fun cdv A outer s H vs Q E hr h => ?_)
  · obtain ⟨v, why, cw, n, lo, hi, g, rfl, hd, sq, q⟩ := h; rfl
  obtain ⟨v, why, cw, n, lo, hi, g, rfl, hd, sq, q⟩ := h
  refine ⟨_, (pss_cons (ps_if (PW.pt (pw_or (pt_not (pt_val (pe_callB (id := "isinstance") call_isi (by rfl) B.n_isinstance (by decide +kernel) (pa_cons (pv 0) (pa_cons (pe_bltn (by rfl) B.n_list (by decide +kernel) (v := .ty "list") rfl) pa_nil))))) (pw_or1 (pt_cmpR op_ne (pe_callB (id := "len") call_len (by rfl) B.n_len (by decide +kernel) (pa_cons (pv 0) pa_nil)) (pv 3) (nomark _))))) (pss_one ps_never) pss_nil)
      (pss_one (ps_for PassesOwn.never rfl (pi_enumS (by rfl) B.n_enumerate (pa_cons (pv 0) pa_nil) (pk_cons pe_int pk_nil)) (pg_tup rfl (pgs_cons (pg_name (i := 6) sc_check_grid.nd rfl (Or.inl rfl)) (pgs_cons (pg_name (i := 7) sc_check_grid.nd rfl (Or.inl rfl)) pgs_nil))) (pss_cons (ps_if (PW.pt (pw_or (pt_not (pt_val (pe_callB (id := "isinstance") call_isi (by rfl) B.n_isinstance (by decide +kernel) (pa_cons (pv 7) (pa_cons (pe_bltn (by rfl) B.n_list (by decide +kernel) (v := .ty "list") rfl) pa_nil))))) (pw_or1 (pt_cmpR op_ne (pe_callB (id := "len") call_len (by rfl) B.n_len (by decide +kernel) (pa_cons (pv 7) pa_nil)) (pv 3) (nomark _))))) (pss_one ps_never) pss_nil)
      (pss_one (ps_for PassesOwn.never rfl (pi_enumS (by rfl) B.n_enumerate (pa_cons (pv 7) pa_nil) (pk_cons pe_int pk_nil)) (pg_tup rfl (pgs_cons (pg_name (i := 8) sc_check_grid.nd rfl (Or.inl rfl)) (pgs_cons (pg_name (i := 9) sc_check_grid.nd rfl (Or.inl rfl)) pgs_nil))) (pss_one (ps_if (pt_not (pt_val (pe_callK c_is_between.ok (hr.mono (by decide)) (by rfl) c_is_between.g c_is_between.kp kb_is_between pass0 (pa_cons (pv 9) pa_nil) (pk_cons (pv 4) (pk_cons (pv 5) pk_nil))))) (pss_one ps_never) pss_nil)))))))), ?_⟩
  obtain ⟨a, xs, rfl, hx, hall⟩ := dp_lstV hd
  have lx : xs.length = n := by rw [dpAll_length hall, List.length_map, sq.len]
  refine ⟨_, rfl, _, _, _, _, _, rfl, .ty _, ty_lst hx, kit_ty k_ll, _, rfl, iteF ?_⟩
  refine ⟨_, rfl, _, n, rfl, .inl ⟨_, hx, lx.symm⟩, _, rfl, rfl, _, rfl, iteNS rfl ?_⟩
  refine ⟨_, rfl, _, _, _, rfl, rfl, by decide, hx, for_enumS (xs := xs) (fun i σ H' => ∃ v1 v2 v3 v4, σ = [some (.ref a), some (.str why), some (.str cw), some (.int n), some (.int lo), some (.int hi), v1, v2, v3, v4] ∧ Same H H') ⟨_, _, _, _, rfl, .refl _⟩ (fun i σ H' _ ⟨_, _, _, _, _, s⟩ => s.seq hx) ?_ fun σ H' ⟨_, _, _, _, _, s⟩ => q H' s⟩
  rintro i x σ H1 T hix ⟨v1, v2, v3, v4, rfl, s1⟩ nT
  obtain ⟨r, b, er, rfl, hr'⟩ := gD_row hall hix
  have mr : r ∈ g := List.mem_of_getElem? er
  have s2 : Same H (upd H1 T (.tup [.int (1 + (i : Nat)), .ref b])) := s1.trans (new_same nT)
  have hr2 := s2.seq hr'
  have lr : (r.map V.int).length = n := by rw [List.length_map, sq.row _ mr]
  refine ⟨T, _, rfl, .of upd_same, rfl, _, _, rfl, _, _, rfl, rfl, ?_⟩
  refine ⟨_, rfl, _, _, _, _, _, rfl, .ty _, ty_lst hr2, kit_ty k_ll, _, rfl, iteF ?_⟩
  refine ⟨_, rfl, _, n, rfl, .inl ⟨_, hr2, lr.symm⟩, _, rfl, rfl, _, rfl, iteNS rfl ?_⟩
  refine ⟨_, rfl, _, _, _, rfl, rfl, by decide, hr2, for_enumS (xs := r.map V.int) (fun j σ H' => ∃ v1 v2 v3 v4, σ = [some (.ref a), some (.str why), some (.str cw), some (.int n), some (.int lo), some (.int hi), v1, v2, v3, v4] ∧ Same H H' ∧ SqL K H' b (r.map V.int)) ⟨_, _, _, _, rfl, s2, hr2⟩
    (fun i σ H' _ ⟨_, _, _, _, _, _, s⟩ => s) ?_ fun σ H' ⟨_, _, _, _, e, s, _⟩ => ⟨_, _, _, _, e, s⟩⟩
  rintro j y σ H2 T2 hj ⟨w1, w2, w3, w4, rfl, s3, s4⟩ nT2
  obtain ⟨z, ez, rfl⟩ := ints_get hj
  refine ⟨T2, _, rfl, .of upd_same, rfl, _, _, rfl, _, _, rfl, rfl, ?_⟩
  refine ⟨_, rfl, _, rfl, _, rfl, _, lo, hi, rfl, .int z, ?_⟩
  rw [betw_int (sq.cell _ mr _ (List.mem_of_getElem? ez))]
  exact ⟨_, rfl, iteF ⟨_, _, _, _, rfl, s3.trans (new_same nT2), (new_same nT2).seq s4⟩⟩
abbrev s_check_joins : Stmt := topS 12
abbrev N_check_joins : List Str := ["joins"]
abbrev P_check_joins : List Str := ["joins"]
theorem sc_check_joins : FnScope N_check_joins P_check_joins (defScope s_check_joins) := ⟨rfl, rfl, rfl, by decide +kernel, rfl, by decide +kernel, by decide +kernel⟩
def sp_check_joins (K : PySem.W.Frag) (_ : CA) : Sp := fun vs H Q _ => ∃ v n g, vs = [v] ∧ Dp K H v (gD g) ∧ Sq n g 1 n ∧ 1 ≤ n ∧ n ≤ 5 ∧ ∀ H', Same H H' → Q .non H'
theorem ok_check_joins {f : Addr} {fd : FuncData} (F : Fun K "check_joins" "check_joins" s_check_joins f fd) (B : Bi mg) (T_Table : ClsT K mg "Table" C.table) (A_Table : ∀ f ∈ (["results", "prices"] : List Str), NoAttr K C.table f) (c_check_grid : CalK P w K mg base CX0 "check_grid" 3 P_check_grid (sp_check_grid K C)) (kb_check_grid : KBinds K c_check_grid.fd P_check_grid ["size", "low", "high"] g33 g33) : FnOk P w K mg base CX0 4 f fd P_check_joins (sp_check_joins K C) := by
  refine F.ok sc_check_joins (fun vs H Q E h => ?_) (fun cdv A outer s H vs Q E hr h => ?_)
  · obtain ⟨v, n, g, rfl, hd, sq, h1, h5, q⟩ := h; rfl
  obtain ⟨v, n, g, rfl, hd, sq, h1, h5, q⟩ := h
  refine ⟨_, (pss_cons (ps_if (PW.pt (pw_or (pt_not (pt_val (pe_callB (id := "isinstance") call_isi (by rfl) B.n_isinstance (by decide +kernel) (pa_cons (pv 0) (pa_cons (pe_bltn (by rfl) B.n_list (by decide +kernel) (v := .ty "list") rfl) pa_nil))))) (pw_or1 (pt_not (pt_chain op_le op_le pe_int (pe_callB (id := "len") call_len (by rfl) B.n_len (by decide +kernel) (pa_cons (pv 0) pa_nil)) (pe_gint B.k_MOST_KINDS)))))) (pss_one ps_never) pss_nil)
      (pss_one (ps_expr (pe_callK c_check_grid.ok (hr.mono (by decide)) (by rfl) c_check_grid.g c_check_grid.kp kb_check_grid pass0 (pa_cons (pv 0) (pa_cons pe_str (pa_cons pe_str pa_nil))) (pk_cons (pe_callB (id := "len") call_len (by rfl) B.n_len (by decide +kernel) (pa_cons (pv 0) pa_nil)) (pk_cons pe_int (pk_cons (pe_callB (id := "len") call_len (by rfl) B.n_len (by decide +kernel) (pa_cons (pv 0) pa_nil)) pk_nil))))))), ?_⟩
  obtain ⟨a, xs, rfl, hx, hall⟩ := dp_lstV hd
  have lx : xs.length = n := by rw [dpAll_length hall, List.length_map, sq.len]
  refine ⟨_, rfl, _, _, _, _, _, rfl, .ty _, ty_lst hx, kit_ty k_ll, _, rfl, iteF ?_⟩
  refine ⟨_, rfl, _, n, rfl, .inl ⟨_, hx, lx.symm⟩, _, _, rfl, rfl, _, rfl, ?_⟩
  rw [decide_eq_true (show (1 : Int) ≤ n by omega)]
  refine iteT ⟨_, _, rfl, rfl, _, rfl, ?_⟩
  rw [decide_eq_true (show (n : Int) ≤ 5 by omega)]
  refine iteF ?_
  exact ⟨_, rfl, _, rfl, _, n, rfl, .inl ⟨_, hx, lx.symm⟩, _, rfl, _, n, rfl, .inl ⟨_, hx, lx.symm⟩, .ref a, _, _, n, 1, n, g, rfl, hd, sq, q⟩
end

/-! Table: two tuples of tuples -/
theorem kRP : ¬ (("results" : Str) = "prices") := by decide +kernel
def fT (a b : Addr) : List (Str × V) := putF "prices" (.ref b) (putF "results" (.ref a) [])
theorem fT_len (a b : Addr) : (putF "results" (.ref a) ([] : List (Str × V))).length = 1 := rfl
theorem fT_res (a b : Addr) : (fT a b).lookup ("results" : Str) = some (.ref a) := by
  unfold fT
  rw [lookup_putF, if_neg kRP, lookup_putF, if_pos rfl]
theorem fT_pri (a b : Addr) : (fT a b).lookup ("prices" : Str) = some (.ref b) := by
  unfold fT
  rw [lookup_putF, if_pos rfl]
theorem fT_no (a b : Addr) {m : Str} (h1 : ¬ m = "prices") (h2 : ¬ m = "results") : (fT a b).lookup m = none := by
  unfold fT
  rw [lookup_putF, if_neg h1, lookup_putF, if_neg h2]
  rfl
structure TableAt (K : PySem.W.Frag) (Ct : Addr) (H : Hp) (p : Addr) (g t : List (List Int)) : Prop where
  at_ : ∃ dx a b, H p = some (.ins Ct dx (fT a b)) ∧ Dp K H (.ref a) (gT g) ∧ Dp K H (.ref b) (gT t)
theorem TableAt.mono {K : PySem.W.Frag} {Ct : Addr} {H H' : Hp} {p : Addr} {g t : List (List Int)} (x : TableAt K Ct H p g t) (s : Same H H') : TableAt K Ct H' p g t := by
  obtain ⟨dx, a, b, h1, h2, h3⟩ := x.at_
  exact ⟨dx, a, b, s _ _ h1, h2.mono s, h3.mono s⟩
def BIG : Int := 1000000000000
/-- a table that is one -/
structure Tbl (n : Nat) (g t : List (List Int)) : Prop where
  j : Sq n g 1 n
  t : Sq n t (1 - BIG) (BIG - 1)
  h1 : 1 ≤ n
  h5 : n ≤ 5
/-- tuple([tuple(row) for row in v]), v in slot i, row in slot j -/
theorem r_tuptup {K : PySem.W.Frag} {i j : Nat} {σ : L2.St} {H : Hp} {Q : VK} {v : V} {g : List (List Int)} {M : List Addr} (hv : σ[i]? = some (some v)) (hj : (wipe σ [j]).length > j) (al : Al M H) (d : Dp K (hid M H) v (gD g)) (small : g.length ≤ sizeLine)
    (q : ∀ p H', Same H H' → Al M H' → Dp K (hid M H') (.ref p) (gT g) → Q (.ref p) H') :
    tCB (rTupK K) (tCons (tLc (iList K (tVar i)) (gName j) tYes (tCB (rTupK K) (tCons (tVar j) tNil)) [j]) tNil) σ H Q := by
  obtain ⟨a, xs, rfl, hx, hall⟩ := dp_lstV d
  have lx : xs.length = g.length := by rw [dpAll_length hall, List.length_map]
  refine ⟨_, hv, a, rfl, ⟨_, hx.mono hid_le⟩, fun D nD => ?_⟩
  refine lc_map M (fun k d => (g.map fun r => PyData.tuple (r.map .int))[k]? = some d) (fun _ H' => ∀ b o, H b = some o → b ≠ D → H' b = some o) al nD hx (fun b o h n => by rw [upd_ne n]; exact h) (fun _ H' o h b o' e n => by rw [upd_ne n]; exact h b o' e n) (by rw [lx]; exact small) ?_ ?_
  · intro k x H2 e ah κ hk
    obtain ⟨r, b, er, rfl, hr⟩ := gD_row hall e
    have hr2 := (hr.mono ah.keep).mono hid_le
    refine ⟨by show (wipe σ [j]).set j (some (V.ref b)) |> fun z => wipe z [j] = wipe σ [j]; simp [wipe, List.set_set], V.ref b, ?_, b, _, rfl, .inl ⟨hr2, fun l nl => ?_⟩⟩
    · show ((wipe σ [j]).set j (some (V.ref b)))[j]? = _
      rw [List.getElem?_set_self hj]
    · have s2 := new_same (o := .tup (r.map V.int)) nl
      have nD2 : D ≠ l := fun z => ah.al D (List.mem_cons_self ..) (by rw [z]; exact nl)
      refine hk _ _ (.tuple (r.map .int)) (by simp [er]) ⟨.tup (.of (hid_new ah.al nl)) (ints_dpAll _), s2.hid, upd_ne nD2, ah.al.mono s2, fun b' o e n => ?_⟩
      exact s2 _ _ (ah.s b' o e n)
  · intro H2 ds hl hR hd keep al2 st nM
    have e : ds = g.map fun r => PyData.tuple (r.map .int) := list_is (by rw [hl, lx, List.length_map]) hR
    subst e
    obtain ⟨a2, ys, ea, h2, hall2⟩ := dp_lstV hd
    cases ea
    refine ⟨D, ys, rfl, .inl ⟨h2.mono hid_le, fun l nl => ?_⟩⟩
    have s2 := new_same (o := .tup ys) nl
    refine q l _ (fun b o e => s2 _ _ (st b o e (ne_of_none e nD))) (al2.mono s2) (.tup (.of (hid_new al2 nl)) (hall2.mono s2.hid))
/-- an instance outside of M is stored to: data elsewhere stand -/
structure Save (K : PySem.W.Frag) (M : List Addr) (H H' : Hp) : Prop where
  dp : ∀ {v : V} {d : PyData}, Dp K (hid M H) v d → Dp K (hid M H') v d
/-- [list(row) for row in v], v a tuple of tuples at a; row in slot j: behind v's own reading -/
theorem r_listlist {K : PySem.W.Frag} {j : Nat} {σ : L2.St} {H : Hp} {Q : VK} {a : Addr} {g : List (List Int)} {M : List Addr} (hj : (wipe σ [j]).length > j) (al : Al M H) (d : Dp K (hid M H) (.ref a) (gT g)) (small : g.length ≤ sizeLine)
    (q : ∀ p H', Same H H' → Al M H' → Dp K (hid M H') (.ref p) (gD g) → Q (.ref p) H') :
    ∃ a', V.ref a = .ref a' ∧ (∃ xs, SqT K H a' xs) ∧ ∀ D, H D = none → ∃ W : Nat → Nat → Hp → Prop, (∃ m, W 0 m (upd H D (.lst []))) ∧ ∀ i m H, W i m H →
      ((Itt K a').stop i H ∧ Q (.ref D) H) ∨ ((Itt K a').go i H ∧ ∃ Nx : Hp → Prop, (∀ H', Nx H' → ∃ m', m' < m ∧ W (i + 1) m' H') ∧ ∀ x H', (Itt K a').yld i H x H' → gName j x (wipe σ [j]) H' fun σ2 H2 => wipe σ2 [j] = wipe σ [j] ∧ tYes σ2 H2 fun b H3 =>
        if b = true then (tCB (rLstK K) (tCons (tVar j) tNil)) σ2 H3 fun y H4 => ∃ acc, H4 D = some (.lst acc) ∧ acc.length < sizeLine ∧ Nx (upd H4 D (.lst (acc ++ [y]))) else Nx H3) := by
  obtain ⟨xs, hx, hall⟩ := dp_tup d
  have lx : xs.length = g.length := by rw [dpAll_length hall, List.length_map]
  refine ⟨a, rfl, ⟨_, hx.mono hid_le⟩, fun D nD => ?_⟩
  refine lc_mapT M (fun k d => (g.map fun r => PyData.list (r.map .int))[k]? = some d) (fun _ H' => ∀ b o, H b = some o → b ≠ D → H' b = some o) al nD hx (fun b o h n => by rw [upd_ne n]; exact h) (fun _ H' o h b o' e n => by rw [upd_ne n]; exact h b o' e n) (by rw [lx]; exact small) ?_ ?_
  · intro k x H2 e ah κ hk
    obtain ⟨r, b, er, rfl, hr⟩ := gT_row hall e
    have hr2 := (hr.mono ah.keep).mono hid_le
    refine ⟨by simp [wipe, List.set_set], V.ref b, ?_, b, _, rfl, .inr hr2, fun l nl => ?_⟩
    · show ((wipe σ [j]).set j (some (V.ref b)))[j]? = _
      rw [List.getElem?_set_self hj]
    · have s2 := new_same (o := .lst (r.map V.int)) nl
      have nD2 : D ≠ l := fun z => ah.al D (List.mem_cons_self ..) (by rw [z]; exact nl)
      refine hk _ _ (.list (r.map .int)) (by simp [er]) ⟨.lst (.of (hid_new ah.al nl)) (ints_dpAll _), s2.hid, upd_ne nD2, ah.al.mono s2, fun b' o e n => ?_⟩
      exact s2 _ _ (ah.s b' o e n)
  · intro H2 ds hl hR hd keep al2 st nM
    have e : ds = g.map fun r => PyData.list (r.map .int) := list_is (by rw [hl, lx, List.length_map]) hR
    subst e
    exact q D _ (fun b o e => st b o e (ne_of_none e nD)) al2 hd
mutual
theorem dp_by {K : PySem.W.Frag} {H H' : Hp} (sl : ∀ {a : Addr} {xs : List V}, SqL K H a xs → SqL K H' a xs) (st : ∀ {a : Addr} {xs : List V}, SqT K H a xs → SqT K H' a xs) : ∀ {v : V} {d : PyData}, Dp K H v d → Dp K H' v d
  | _, _, .non => .non
  | _, _, .bl b => .bl b
  | _, _, .int i => .int i
  | _, _, .str x => .str x
  | _, _, .lst h a => .lst (sl h) (dpAll_by sl st a)
  | _, _, .tup h a => .tup (st h) (dpAll_by sl st a)
theorem dpAll_by {K : PySem.W.Frag} {H H' : Hp} (sl : ∀ {a : Addr} {xs : List V}, SqL K H a xs → SqL K H' a xs) (st : ∀ {a : Addr} {xs : List V}, SqT K H a xs → SqT K H' a xs) : ∀ {vs : List V} {ds : List PyData}, DpAll K H vs ds → DpAll K H' vs ds
  | _, _, .nil => .nil
  | _, _, .cons h t => .cons (dp_by sl st h) (dpAll_by sl st t)
end
theorem save_ins {K : PySem.W.Frag} {M : List Addr} {H : Hp} {p Ct dx : Addr} {fs : List (Str × V)} {o : HO} (h : H p = some (.ins Ct dx fs)) (pM : p ∉ M) : Save K M H (upd H p o) := by
  have sub : ∀ {b : Addr} {u : HO}, (∀ C d f, u ≠ .ins C d f) → hid M H b = some u → hid M (upd H p o) b = some u := fun {b u} nu e => by
    obtain ⟨e1, e2⟩ := hid_some e
    have ne : b ≠ p := fun z => by rw [z, h] at e1; exact nu _ _ _ (Option.some.inj e1).symm
    rw [hid_out e2, upd_ne ne]; exact e1
  have sl : ∀ {a : Addr} {xs : List V}, SqL K (hid M H) a xs → SqL K (hid M (upd H p o)) a xs := fun {a xs} h => by
    rcases h with (h | ⟨z, h⟩) | h
    · exact .inl (.inl (sub (fun _ _ _ q => nomatch q) h))
    · exact .inl (.inr ⟨z, sub (fun _ _ _ q => nomatch q) h⟩)
    · exact .inr h
  have st : ∀ {a : Addr} {xs : List V}, SqT K (hid M H) a xs → SqT K (hid M (upd H p o)) a xs := fun {a xs} h => by
    rcases h with (h | ⟨z, h⟩) | h
    · exact .inl (.inl (sub (fun _ _ _ q => nomatch q) h))
    · exact .inl (.inr ⟨z, sub (fun _ _ _ q => nomatch q) h⟩)
    · exact .inr h
  exact ⟨dp_by sl st⟩
section
variable {P : Program} {w : World} {K : PySem.W.Frag} {mg : Str → Option Value} {base : Heap} {C : CA}
abbrev s_Table___init__ : Stmt := inClass (topS 13) 0
abbrev N_Table___init__ : List Str := ["self", "joins", "tolls", "row"]
abbrev P_Table___init__ : List Str := ["self", "joins", "tolls"]
theorem sc_Table___init__ : FnScope N_Table___init__ P_Table___init__ (defScope s_Table___init__) := ⟨rfl, rfl, rfl, by decide +kernel, rfl, by decide +kernel, by decide +kernel⟩
def sp_Table___init__ (K : PySem.W.Frag) (C : CA) : Sp := fun vs H Q _ => ∃ p dx v1 v2 n g t M, vs = [.ref p, v1, v2] ∧ H p = some (.ins C.table dx []) ∧ p ∉ M ∧ Al M H ∧ Dp K (hid M H) v1 (gD g) ∧ Dp K (hid M H) v2 (gD t) ∧ Tbl n g t ∧
  ∀ H', But p H H' → TableAt K C.table (hid M H') p g t → Al M H' → Q .non H'
theorem ok_Table___init__ {f : Addr} {fd : FuncData} (F : Fun K "__init__" "Table.__init__" s_Table___init__ f fd) (B : Bi mg) (T_Table : ClsT K mg "Table" C.table) (A_Table : ∀ f ∈ (["results", "prices"] : List Str), NoAttr K C.table f) (c_check_joins : Cal P w K mg base CX0 "check_joins" 4 P_check_joins (sp_check_joins K C)) (c_check_grid : CalK P w K mg base CX0 "check_grid" 3 P_check_grid (sp_check_grid K C)) (kb_check_grid : KBinds K c_check_grid.fd P_check_grid ["size", "low", "high"] g33 g33) : FnOk P w K mg base CX0 5 f fd P_Table___init__ (sp_Table___init__ K C) := by
  refine F.ok sc_Table___init__ (fun vs H Q E h => ?_) (fun cdv A outer s H vs Q E hr h => ?_)
  · obtain ⟨p, dx, v1, v2, n, g, t, M, rfl, hp, pM, al, d1, d2, T, q⟩ := h; rfl
  obtain ⟨p, dx, v1, v2, n, g, t, M, rfl, hp, pM, al, d1, d2, T, q⟩ := h
  refine ⟨_, (pss_cons (ps_expr (pe_call c_check_joins.ok (hr.mono (by decide)) (by rfl) c_check_joins.g c_check_joins.kp c_check_joins.b .nil pass0 (pa_cons (pv 1) pa_nil)))
      (pss_cons (ps_expr (pe_callK c_check_grid.ok (hr.mono (by decide)) (by rfl) c_check_grid.g c_check_grid.kp kb_check_grid pass0 (pa_cons (pv 2) (pa_cons pe_str (pa_cons pe_str pa_nil))) (pk_cons (pe_callB (id := "len") call_len (by rfl) B.n_len (by decide +kernel) (pa_cons (pv 1) pa_nil)) (pk_cons (pe_op op_sub pe_int (pe_gint B.k_TOLL_BOUND)) (pk_cons (pe_op op_sub (pe_gint B.k_TOLL_BOUND) pe_int) pk_nil)))))
      (pss_cons (ps_fld (pv 0) (pe_callTy (T := "tuple") call_tuple_of (by rfl) B.n_tuple (by decide +kernel) (pa_cons (pe_lc (own := [("row", 3)]) rfl sc_Table___init__.nd (te := (tCB (rTupK K) (tCons (tVar 3) tNil))) (tt := tYes) (pi_list (pv 1)) (blkOk_by (own := [("row", 3)]) (N := N_Table___init__) (sc := defScope s_Table___init__) (by decide +kernel)) (fun _ _ _ _ _ => (pg_name (i := 3) sc_Table___init__.nd rfl (Or.inl rfl))) (fun _ _ _ _ _ => pts_nil) (fun _ _ _ _ _ => (pe_callTy (T := "tuple") call_tuple_of (by rfl) B.n_tuple (by decide +kernel) (pa_cons (pv 3) pa_nil)))) pa_nil)) rfl)
      (pss_one (ps_fld (pv 0) (pe_callTy (T := "tuple") call_tuple_of (by rfl) B.n_tuple (by decide +kernel) (pa_cons (pe_lc (own := [("row", 3)]) rfl sc_Table___init__.nd (te := (tCB (rTupK K) (tCons (tVar 3) tNil))) (tt := tYes) (pi_list (pv 2)) (blkOk_by (own := [("row", 3)]) (N := N_Table___init__) (sc := defScope s_Table___init__) (by decide +kernel)) (fun _ _ _ _ _ => (pg_name (i := 3) sc_Table___init__.nd rfl (Or.inl rfl))) (fun _ _ _ _ _ => pts_nil) (fun _ _ _ _ _ => (pe_callTy (T := "tuple") call_tuple_of (by rfl) B.n_tuple (by decide +kernel) (pa_cons (pv 3) pa_nil)))) pa_nil)) rfl))))), ?_⟩
  have r1 := d1.mono hid_le
  have r2 := d2.mono hid_le
  obtain ⟨a1, xs1, rfl, hx1, hall1⟩ := dp_lstV r1
  have lx : xs1.length = n := by rw [dpAll_length hall1, List.length_map, T.j.len]
  refine ⟨_, rfl, _, n, g, rfl, r1, T.j, T.h1, T.h5, fun H1 s1 => ?_⟩
  refine ⟨_, rfl, _, rfl, _, n, rfl, .inl ⟨_, s1.seq hx1, lx.symm⟩, _, _, rfl, rfl, _, _, rfl, rfl, v2, _, _, n, _, _, t, rfl, r2.mono s1, T.t, fun H2 s2 => ?_⟩
  have s12 := s1.trans s2
  have small : ∀ {l : List (List Int)}, l.length = n → l.length ≤ sizeLine := fun h => Nat.le_trans (by rw [h]; exact T.h5) (by decide)
  dsimp only [tSeq, sFld]
  refine r_tuptup (K := K) (i := 1) (j := 3) (g := g) rfl (by show 3 < 4; decide) (al.mono s12) (d1.mono s12.hid) (small T.j.len) fun a H3 s3 al3 da => ?_
  have s13 := s12.trans s3
  refine ⟨_, rfl, p, C.table, dx, [], rfl, s13 _ _ hp, T_Table.cl, A_Table _ (by simp), by decide, ?_⟩
  have sv := save_ins (K := K) (o := .ins C.table dx (putF "results" (.ref a) [])) (M := M) (s13 _ _ hp) pM
  have al4 : Al M (upd H3 p (.ins C.table dx (putF "results" (.ref a) []))) := al3.upd
  refine r_tuptup (K := K) (i := 2) (j := 3) (g := t) rfl (by show 3 < 4; decide) al4 (sv.dp (d2.mono s13.hid)) (small T.t.len) fun b H4 s4 al5 db => ?_
  have p4 : H4 p = _ := s4 _ _ upd_same
  refine ⟨_, rfl, p, C.table, dx, _, rfl, p4, T_Table.cl, A_Table _ (by simp), by show 1 < 1000; decide, ?_⟩
  have sw := save_ins (K := K) (o := .ins C.table dx (fT a b)) (M := M) p4 pM
  refine q _ ?_ ⟨dx, a, b, by rw [hid_out pM]; exact upd_same, sw.dp ((sv.dp da).mono s4.hid), sw.dp db⟩ al5.upd
  exact fun c o ne e => by rw [upd_ne ne]; exact s4 _ _ (by rw [upd_ne ne]; exact s13 _ _ e)
abbrev s_Table_count : Stmt := inClass (topS 13) 1
abbrev N_Table_count : List Str := ["self"]
abbrev P_Table_count : List Str := ["self"]
theorem sc_Table_count : FnScope N_Table_count P_Table_count (defScope s_Table_count) := ⟨rfl, rfl, rfl, by decide +kernel, rfl, by decide +kernel, by decide +kernel⟩
def sp_Table_count (K : PySem.W.Frag) (C : CA) : Sp := fun vs H Q _ => ∃ p n g t, vs = [.ref p] ∧ TableAt K C.table H p g t ∧ Tbl n g t ∧ Q (.int (n : Nat)) H
theorem ok_Table_count {f : Addr} {fd : FuncData} (F : Fun K "count" "Table.count" s_Table_count f fd) (B : Bi mg) (T_Table : ClsT K mg "Table" C.table) (A_Table : ∀ f ∈ (["results", "prices"] : List Str), NoAttr K C.table f) : FnOk P w K mg base CX0 1 f fd P_Table_count (sp_Table_count K C) := by
  refine F.ok sc_Table_count (fun vs H Q E h => ?_) (fun cdv A outer s H vs Q E hr h => ?_)
  · obtain ⟨p, n, g, t, rfl, ⟨dx, a, b, hp, da, db⟩, T, q⟩ := h; rfl
  obtain ⟨p, n, g, t, rfl, ⟨dx, a, b, hp, da, db⟩, T, q⟩ := h
  refine ⟨_, (pss_one (ps_ret (pe_callB (id := "len") call_len (by rfl) B.n_len (by decide +kernel) (pa_cons (pe_fld (pv 0) (by rfl)) pa_nil)))), ?_⟩
  obtain ⟨xs, hx, hall⟩ := dp_tup da
  refine ⟨_, rfl, p, C.table, dx, _, _, rfl, hp, T_Table.cl, A_Table _ (by simp), fT_res _ _, _, n, rfl, .inr ⟨_, hx, by rw [dpAll_length hall, List.length_map, T.j.len]⟩, q⟩
abbrev s_Table_check_kind : Stmt := inClass (topS 13) 4
abbrev N_Table_check_kind : List Str := ["self", "kind"]
abbrev P_Table_check_kind : List Str := ["self", "kind"]
theorem sc_Table_check_kind : FnScope N_Table_check_kind P_Table_check_kind (defScope s_Table_check_kind) := ⟨rfl, rfl, rfl, by decide +kernel, rfl, by decide +kernel, by decide +kernel⟩
def sp_Table_check_kind (K : PySem.W.Frag) (C : CA) : Sp := fun vs H Q _ => ∃ p n g t x, vs = [.ref p, .int x] ∧ TableAt K C.table H p g t ∧ Tbl n g t ∧ 1 ≤ x ∧ x ≤ n ∧ Q .non H
theorem ok_Table_check_kind {f : Addr} {fd : FuncData} (F : Fun K "check_kind" "Table.check_kind" s_Table_check_kind f fd) (B : Bi mg) (T_Table : ClsT K mg "Table" C.table) (A_Table : ∀ f ∈ (["results", "prices"] : List Str), NoAttr K C.table f) (c_is_between : CalK P w K mg base CX0 "is_between" 2 P_is_between (sp_is_between K C)) (kb_is_between : KBinds K c_is_between.fd P_is_between ["low", "high"] g12 g12) (c_Table_count : MCal P w K mg base CX0 C.table "count" 1 P_Table_count (sp_Table_count K C)) : FnOk P w K mg base CX0 3 f fd P_Table_check_kind (sp_Table_check_kind K C) := by
  refine F.ok sc_Table_check_kind (fun vs H Q E h => ?_) (fun cdv A outer s H vs Q E hr h => ?_)
  · obtain ⟨p, n, g, t, x, rfl, tb, T, h1, h2, q⟩ := h; rfl
  obtain ⟨p, n, g, t, x, rfl, tb, T, h1, h2, q⟩ := h
  refine ⟨_, (pss_one (ps_if (pt_not (pt_val (pe_callK c_is_between.ok (hr.mono (by decide)) (by rfl) c_is_between.g c_is_between.kp kb_is_between pass0 (pa_cons (pv 1) pa_nil) (pk_cons pe_int (pk_cons (pe_meth0 (pv 0) T_Table.cl c_Table_count.me c_Table_count.ok (hr.mono (by decide)) c_Table_count.b .nil pass0) pk_nil))))) (pss_one ps_never) pss_nil)), ?_⟩
  obtain ⟨dx, a, b, hp, da, db⟩ := id tb
  refine ⟨_, rfl, _, rfl, p, dx, _, rfl, hp, fT_no _ _ (by decide +kernel) (by decide +kernel), p, n, g, t, rfl, tb, T, _, 1, n, rfl, .int x, ?_⟩
  rw [betw_int ⟨h1, h2⟩]
  exact ⟨_, rfl, iteF q⟩
abbrev s_Table_join : Stmt := inClass (topS 13) 5
abbrev N_Table_join : List Str := ["self", "left", "right"]
abbrev P_Table_join : List Str := ["self", "left", "right"]
theorem sc_Table_join : FnScope N_Table_join P_Table_join (defScope s_Table_join) := ⟨rfl, rfl, rfl, by decide +kernel, rfl, by decide +kernel, by decide +kernel⟩
def sp_Table_join (K : PySem.W.Frag) (C : CA) : Sp := fun vs H Q _ => ∃ p n g t x y, vs = [.ref p, .int x, .int y] ∧ TableAt K C.table H p g t ∧ Tbl n g t ∧ (1 ≤ x ∧ x ≤ n) ∧ (1 ≤ y ∧ y ≤ n) ∧ Q (.int (at2 g x y)) H
theorem minus_one {x : Int} (h : 1 ≤ x) : x - 1 = ((x - 1).toNat : Int) := by omega
theorem ok_Table_join {f : Addr} {fd : FuncData} (F : Fun K "join" "Table.join" s_Table_join f fd) (B : Bi mg) (T_Table : ClsT K mg "Table" C.table) (A_Table : ∀ f ∈ (["results", "prices"] : List Str), NoAttr K C.table f) (c_Table_check_kind : MCal P w K mg base CX0 C.table "check_kind" 3 P_Table_check_kind (sp_Table_check_kind K C)) : FnOk P w K mg base CX0 4 f fd P_Table_join (sp_Table_join K C) := by
  refine F.ok sc_Table_join (fun vs H Q E h => ?_) (fun cdv A outer s H vs Q E hr h => ?_)
  · obtain ⟨p, n, g, t, x, y, rfl, tb, T, hx, hy, q⟩ := h; rfl
  obtain ⟨p, n, g, t, x, y, rfl, tb, T, hx, hy, q⟩ := h
  refine ⟨_, (pss_cons (ps_expr (pe_meth (pv 0) T_Table.cl c_Table_check_kind.me c_Table_check_kind.ok (hr.mono (by decide)) c_Table_check_kind.b .nil pass0 (pa_cons (pv 1) pa_nil)))
      (pss_cons (ps_expr (pe_meth (pv 0) T_Table.cl c_Table_check_kind.me c_Table_check_kind.ok (hr.mono (by decide)) c_Table_check_kind.b .nil pass0 (pa_cons (pv 2) pa_nil)))
      (pss_one (ps_ret (pe_ix ix_tup (pe_ix ix_tup (pe_fld (pv 0) (by rfl)) (pe_op op_sub (pv 1) pe_int) (fun _ _ => rfl)) (pe_op op_sub (pv 2) pe_int) (fun _ _ => rfl)))))), ?_⟩
  obtain ⟨dx, a, b, hp, da, db⟩ := id tb
  obtain ⟨xs, hxs, hall⟩ := dp_tup da
  obtain ⟨r, e1, e2, _⟩ := T.j.at2 hx hy
  obtain ⟨v, ev, dv⟩ := dpAll_get hall (i := (x - 1).toNat) (d := .tuple (r.map .int)) (by rw [List.getElem?_map, e1]; rfl)
  obtain ⟨c, ys, rfl, hys, hall2⟩ := dp_tupV dv
  have eys := dpAll_ints hall2
  subst eys
  have nk : ∀ a b, (fT a b).lookup ("check_kind" : Str) = none := fun a b => fT_no _ _ (by decide +kernel) (by decide +kernel)
  refine ⟨_, rfl, p, dx, _, rfl, hp, nk _ _, _, rfl, p, n, g, t, x, rfl, tb, T, hx.1, hx.2, ?_⟩
  refine ⟨_, rfl, p, dx, _, rfl, hp, nk _ _, _, rfl, p, n, g, t, y, rfl, tb, T, hy.1, hy.2, ?_⟩
  refine ⟨_, rfl, p, C.table, dx, _, _, rfl, hp, T_Table.cl, A_Table _ (by simp), fT_res _ _, _, rfl, _, _, rfl, rfl, a, xs, _, .ref c, rfl, rfl, hxs, by rw [minus_one hx.1]; exact atI_nat ev, ?_⟩
  exact ⟨_, rfl, _, _, rfl, rfl, c, _, _, .int (at2 g x y), rfl, rfl, hys, by rw [minus_one hy.1]; exact atI_nat (by rw [List.getElem?_map, e2]; rfl), q⟩
abbrev s_Table_toll : Stmt := inClass (topS 13) 6
abbrev N_Table_toll : List Str := ["self", "left", "right"]
abbrev P_Table_toll : List Str := ["self", "left", "right"]
theorem sc_Table_toll : FnScope N_Table_toll P_Table_toll (defScope s_Table_toll) := ⟨rfl, rfl, rfl, by decide +kernel, rfl, by decide +kernel, by decide +kernel⟩
def sp_Table_toll (K : PySem.W.Frag) (C : CA) : Sp := fun vs H Q _ => ∃ p n g t x y, vs = [.ref p, .int x, .int y] ∧ TableAt K C.table H p g t ∧ Tbl n g t ∧ (1 ≤ x ∧ x ≤ n) ∧ (1 ≤ y ∧ y ≤ n) ∧ Q (.int (at2 t x y)) H
theorem ok_Table_toll {f : Addr} {fd : FuncData} (F : Fun K "toll" "Table.toll" s_Table_toll f fd) (B : Bi mg) (T_Table : ClsT K mg "Table" C.table) (A_Table : ∀ f ∈ (["results", "prices"] : List Str), NoAttr K C.table f) (c_Table_check_kind : MCal P w K mg base CX0 C.table "check_kind" 3 P_Table_check_kind (sp_Table_check_kind K C)) : FnOk P w K mg base CX0 4 f fd P_Table_toll (sp_Table_toll K C) := by
  refine F.ok sc_Table_toll (fun vs H Q E h => ?_) (fun cdv A outer s H vs Q E hr h => ?_)
  · obtain ⟨p, n, g, t, x, y, rfl, tb, T, hx, hy, q⟩ := h; rfl
  obtain ⟨p, n, g, t, x, y, rfl, tb, T, hx, hy, q⟩ := h
  refine ⟨_, (pss_cons (ps_expr (pe_meth (pv 0) T_Table.cl c_Table_check_kind.me c_Table_check_kind.ok (hr.mono (by decide)) c_Table_check_kind.b .nil pass0 (pa_cons (pv 1) pa_nil)))
      (pss_cons (ps_expr (pe_meth (pv 0) T_Table.cl c_Table_check_kind.me c_Table_check_kind.ok (hr.mono (by decide)) c_Table_check_kind.b .nil pass0 (pa_cons (pv 2) pa_nil)))
      (pss_one (ps_ret (pe_ix ix_tup (pe_ix ix_tup (pe_fld (pv 0) (by rfl)) (pe_op op_sub (pv 1) pe_int) (fun _ _ => rfl)) (pe_op op_sub (pv 2) pe_int) (fun _ _ => rfl)))))), ?_⟩
  obtain ⟨dx, a, b, hp, da, db⟩ := id tb
  obtain ⟨xs, hxs, hall⟩ := dp_tup db
  obtain ⟨r, e1, e2, _⟩ := T.t.at2 hx hy
  obtain ⟨v, ev, dv⟩ := dpAll_get hall (i := (x - 1).toNat) (d := .tuple (r.map .int)) (by rw [List.getElem?_map, e1]; rfl)
  obtain ⟨c, ys, rfl, hys, hall2⟩ := dp_tupV dv
  have eys := dpAll_ints hall2
  subst eys
  have nk : ∀ a b, (fT a b).lookup ("check_kind" : Str) = none := fun a b => fT_no _ _ (by decide +kernel) (by decide +kernel)
  refine ⟨_, rfl, p, dx, _, rfl, hp, nk _ _, _, rfl, p, n, g, t, x, rfl, tb, T, hx.1, hx.2, ?_⟩
  refine ⟨_, rfl, p, dx, _, rfl, hp, nk _ _, _, rfl, p, n, g, t, y, rfl, tb, T, hy.1, hy.2, ?_⟩
  refine ⟨_, rfl, p, C.table, dx, _, _, rfl, hp, T_Table.cl, A_Table _ (by simp), fT_pri _ _, _, rfl, _, _, rfl, rfl, b, xs, _, .ref c, rfl, rfl, hxs, by rw [minus_one hx.1]; exact atI_nat ev, ?_⟩
  exact ⟨_, rfl, _, _, rfl, rfl, c, _, _, .int (at2 t x y), rfl, rfl, hys, by rw [minus_one hy.1]; exact atI_nat (by rw [List.getElem?_map, e2]; rfl), q⟩
abbrev s_Table_joins : Stmt := inClass (topS 13) 2
abbrev N_Table_joins : List Str := ["self", "row"]
abbrev P_Table_joins : List Str := ["self"]
theorem sc_Table_joins : FnScope N_Table_joins P_Table_joins (defScope s_Table_joins) := ⟨rfl, rfl, rfl, by decide +kernel, rfl, by decide +kernel, by decide +kernel⟩
def sp_Table_joins (K : PySem.W.Frag) (C : CA) : Sp := fun vs H Q _ => ∃ p n g t M, vs = [.ref p] ∧ TableAt K C.table (hid M H) p g t ∧ Tbl n g t ∧ Al M H ∧ ∀ q H', Same H H' → Al M H' → Dp K (hid M H') (.ref q) (gD g) → Q (.ref q) H'
theorem ok_Table_joins {f : Addr} {fd : FuncData} (F : Fun K "joins" "Table.joins" s_Table_joins f fd) (B : Bi mg) (T_Table : ClsT K mg "Table" C.table) (A_Table : ∀ f ∈ (["results", "prices"] : List Str), NoAttr K C.table f) : FnOk P w K mg base CX0 1 f fd P_Table_joins (sp_Table_joins K C) := by
  refine F.ok sc_Table_joins (fun vs H Q E h => ?_) (fun cdv A outer s H vs Q E hr h => ?_)
  · obtain ⟨p, n, g, t, M, rfl, ⟨dx, a, b, hp, da, db⟩, T, al, q⟩ := h; rfl
  obtain ⟨p, n, g, t, M, rfl, ⟨dx, a, b, hp, da, db⟩, T, al, q⟩ := h
  refine ⟨_, (pss_one (ps_ret (pe_lc (own := [("row", 1)]) rfl sc_Table_joins.nd (te := (tCB (rLstK K) (tCons (tVar 1) tNil))) (tt := tYes) (pi_tup (pe_fld (pv 0) (by rfl))) (blkOk_by (own := [("row", 1)]) (N := N_Table_joins) (sc := defScope s_Table_joins) (by decide +kernel)) (fun _ _ _ _ _ => (pg_name (i := 1) sc_Table_joins.nd rfl (Or.inl rfl))) (fun _ _ _ _ _ => pts_nil) (fun _ _ _ _ _ => (pe_callTy (T := "list") call_list_of (by rfl) B.n_list (by decide +kernel) (pa_cons (pv 1) pa_nil)))))), ?_⟩
  refine ⟨_, rfl, p, C.table, dx, _, _, rfl, hid_le _ _ hp, T_Table.cl, A_Table _ (by simp), fT_res _ _, ?_⟩
  exact r_listlist (K := K) (j := 1) (by show 1 < 2; decide) al da (Nat.le_trans (by rw [T.j.len]; exact T.h5) (by decide)) q
abbrev s_Table_tolls : Stmt := inClass (topS 13) 3
abbrev N_Table_tolls : List Str := ["self", "row"]
abbrev P_Table_tolls : List Str := ["self"]
theorem sc_Table_tolls : FnScope N_Table_tolls P_Table_tolls (defScope s_Table_tolls) := ⟨rfl, rfl, rfl, by decide +kernel, rfl, by decide +kernel, by decide +kernel⟩
def sp_Table_tolls (K : PySem.W.Frag) (C : CA) : Sp := fun vs H Q _ => ∃ p n g t M, vs = [.ref p] ∧ TableAt K C.table (hid M H) p g t ∧ Tbl n g t ∧ Al M H ∧ ∀ q H', Same H H' → Al M H' → Dp K (hid M H') (.ref q) (gD t) → Q (.ref q) H'
theorem ok_Table_tolls {f : Addr} {fd : FuncData} (F : Fun K "tolls" "Table.tolls" s_Table_tolls f fd) (B : Bi mg) (T_Table : ClsT K mg "Table" C.table) (A_Table : ∀ f ∈ (["results", "prices"] : List Str), NoAttr K C.table f) : FnOk P w K mg base CX0 1 f fd P_Table_tolls (sp_Table_tolls K C) := by
  refine F.ok sc_Table_tolls (fun vs H Q E h => ?_) (fun cdv A outer s H vs Q E hr h => ?_)
  · obtain ⟨p, n, g, t, M, rfl, ⟨dx, a, b, hp, da, db⟩, T, al, q⟩ := h; rfl
  obtain ⟨p, n, g, t, M, rfl, ⟨dx, a, b, hp, da, db⟩, T, al, q⟩ := h
  refine ⟨_, (pss_one (ps_ret (pe_lc (own := [("row", 1)]) rfl sc_Table_tolls.nd (te := (tCB (rLstK K) (tCons (tVar 1) tNil))) (tt := tYes) (pi_tup (pe_fld (pv 0) (by rfl))) (blkOk_by (own := [("row", 1)]) (N := N_Table_tolls) (sc := defScope s_Table_tolls) (by decide +kernel)) (fun _ _ _ _ _ => (pg_name (i := 1) sc_Table_tolls.nd rfl (Or.inl rfl))) (fun _ _ _ _ _ => pts_nil) (fun _ _ _ _ _ => (pe_callTy (T := "list") call_list_of (by rfl) B.n_list (by decide +kernel) (pa_cons (pv 1) pa_nil)))))), ?_⟩
  refine ⟨_, rfl, p, C.table, dx, _, _, rfl, hid_le _ _ hp, T_Table.cl, A_Table _ (by simp), fT_pri _ _, ?_⟩
  exact r_listlist (K := K) (j := 1) (by show 1 < 2; decide) al db (Nat.le_trans (by rw [T.t.len]; exact T.h5) (by decide)) q
end

/-! triples of kinds in ascending order, and what is said of them -/
abbrev Tr := Int × Int × Int
def r3 (i j k : Nat) : List Tr := (List.range k).map fun (k : Nat) => ((i : Int) + 1, (j : Int) + 1, (k : Int) + 1)
def r2 (n i j : Nat) : List Tr := (List.range j).flatMap fun j => r3 i j n
def r1 (n i : Nat) : List Tr := (List.range i).flatMap fun i => r2 n i n
def pre (n i j k : Nat) : List Tr := r1 n i ++ r2 n i j ++ r3 i j k
def tri (n : Nat) : List Tr := r1 n n
theorem pre_k (n i j k : Nat) : pre n i j (k + 1) = pre n i j k ++ [((i : Int) + 1, (j : Int) + 1, (k : Int) + 1)] := by
  unfold pre r3; rw [List.range_succ, List.map_append, List.append_assoc, List.append_assoc, List.append_assoc]; rfl
theorem pre_j (n i j : Nat) : pre n i (j + 1) 0 = pre n i j n := by
  unfold pre r2; rw [List.range_succ, List.flatMap_append]; simp [r3]
theorem pre_i (n i : Nat) : pre n (i + 1) 0 0 = pre n i n 0 := by
  unfold pre r1; rw [List.range_succ, List.flatMap_append]; simp [r2, r3]
theorem pre_0 (n : Nat) : pre n 0 0 0 = [] := by simp [pre, r1, r2, r3]
theorem pre_n (n : Nat) : pre n n 0 0 = tri n := by simp [pre, tri, r2, r3]
theorem mem_tri {n : Nat} {x y z : Int} (h : (x, y, z) ∈ tri n) : (1 ≤ x ∧ x ≤ n) ∧ (1 ≤ y ∧ y ≤ n) ∧ 1 ≤ z ∧ z ≤ n := by
  simp only [tri, r1, r2, r3, List.mem_flatMap, List.mem_map, List.mem_range] at h
  obtain ⟨i, hi, j, hj, k, hk, e⟩ := h
  obtain ⟨e1, e⟩ := Prod.mk.inj e
  obtain ⟨e2, e3⟩ := Prod.mk.inj e
  refine ⟨⟨?_, ?_⟩, ⟨?_, ?_⟩, ?_, ?_⟩ <;> omega
theorem len_r3 (i j k : Nat) : (r3 i j k).length = k := by simp [r3]
theorem len_r2 (n i j : Nat) : (r2 n i j).length = j * n := by
  induction j with
  | zero => simp [r2]
  | succ j ih => unfold r2 at ih ⊢; rw [List.range_succ, List.flatMap_append, List.length_append, ih]; simp [r3, Nat.succ_mul]
theorem len_r1 (n i : Nat) : (r1 n i).length = i * (n * n) := by
  induction i with
  | zero => simp [r1]
  | succ i ih => unfold r1 at ih ⊢; rw [List.range_succ, List.flatMap_append, List.length_append, ih]; simp [len_r2, Nat.succ_mul]
theorem len_tri (n : Nat) : (tri n).length = n * (n * n) := len_r1 n n
def trD (t : Tr) : PyData := .tuple [.int t.1, .int t.2.1, .int t.2.2]
/-- both ways of three kinds -/
def lw (g t : List (List Int)) (a : Tr) : Int × Int := (at2 g (at2 g a.1 a.2.1) a.2.2, at2 t a.1 a.2.1 + at2 t (at2 g a.1 a.2.1) a.2.2)
def rw' (g t : List (List Int)) (a : Tr) : Int × Int := (at2 g a.1 (at2 g a.2.1 a.2.2), at2 t a.2.1 a.2.2 + at2 t a.1 (at2 g a.2.1 a.2.2))
def bad0 (g t : List (List Int)) (a : Tr) : Bool := (lw g t a).1 != (rw' g t a).1
def bad1 (g t : List (List Int)) (a : Tr) : Bool := (lw g t a).2 != (rw' g t a).2
def says0 (g t : List (List Int)) (a : Tr) : PyData := .tuple [.str "result", trD a, .int (lw g t a).1, .int (rw' g t a).1]
def says1 (g t : List (List Int)) (a : Tr) : PyData := .tuple [.str "toll", trD a, .int (lw g t a).2, .int (rw' g t a).2]
def firmD : PyData := .tuple [.str "firm"]
/-- what is to be said of a table -/
def stmt (g t : List (List Int)) (n : Nat) : PyData := match (tri n).find? (bad0 g t) with
  | some a => says0 g t a
  | none => match (tri n).find? (bad1 g t) with
    | some a => says1 g t a
    | none => firmD
theorem find_app {α : Type} {p : α → Bool} {l : List α} {a : α} (h : l.find? p = none) (q : p a = false) : (l ++ [a]).find? p = none := by
  rw [List.find?_append, h]; simp [q]
theorem find_hit {α : Type} {p : α → Bool} {l r : List α} {a : α} (h : l.find? p = none) (q : p a = true) : (l ++ a :: r).find? p = some a := by
  rw [List.find?_append, h]; simp [q]
/-- a new tuple of data -/
theorem new_tup {K : PySem.W.Frag} {M : List Addr} {H : Hp} {vs : List V} {ds : List PyData} (al : Al M H) (d : DpAll K (hid M H) vs ds) {p : Addr} (np : H p = none) :
    Same H (upd H p (.tup vs)) ∧ Al M (upd H p (.tup vs)) ∧ Dp K (hid M (upd H p (.tup vs))) (.ref p) (.tuple ds) :=
  have s := new_same (o := .tup vs) np
  ⟨s, al.mono s, .tup (.of (hid_new al np)) (d.mono s.hid)⟩
theorem new_lst {K : PySem.W.Frag} {M : List Addr} {H : Hp} {vs : List V} {ds : List PyData} (al : Al M H) (d : DpAll K (hid M H) vs ds) {p : Addr} (np : H p = none) :
    Same H (upd H p (.lst vs)) ∧ Al M (upd H p (.lst vs)) ∧ Dp K (hid M (upd H p (.lst vs))) (.ref p) (.list ds) :=
  have s := new_same (o := .lst vs) np
  ⟨s, al.mono s, .lst (.of (hid_new al np)) (d.mono s.hid)⟩
/-- a tuple of three whole numbers, read -/
theorem tr_read {K : PySem.W.Frag} {H : Hp} {v : V} {a : Tr} (h : Dp K H v (trD a)) : ∃ p, v = .ref p ∧ SqT K H p [.int a.1, .int a.2.1, .int a.2.2] := by
  obtain ⟨p, xs, rfl, hx, hall⟩ := dp_tupV h
  have e : xs = [a.1, a.2.1, a.2.2].map V.int := dpAll_ints (ns := [a.1, a.2.1, a.2.2]) hall
  subst e
  exact ⟨p, rfl, hx⟩
theorem Sq.kind {n : Nat} {g : List (List Int)} (s : Sq n g 1 n) {x y : Int} (hx : 1 ≤ x ∧ x ≤ n) (hy : 1 ≤ y ∧ y ≤ n) : 1 ≤ J.at2 g x y ∧ J.at2 g x y ≤ n := by
  obtain ⟨r, _, _, h⟩ := s.at2 hx hy
  exact h

section
variable {P : Program} {w : World} {K : PySem.W.Frag} {mg : Str → Option Value} {base : Heap} {C : CA}
abbrev s_triples : Stmt := topS 16
abbrev N_triples : List Str := ["count", "kinds", "x", "y", "z"]
abbrev P_triples : List Str := ["count"]
theorem sc_triples : FnScope N_triples P_triples (defScope s_triples) := ⟨rfl, rfl, rfl, by decide +kernel, rfl, by decide +kernel, by decide +kernel⟩
def sp_triples (K : PySem.W.Frag) (_ : CA) : Sp := fun vs H Q _ => ∃ (n : Nat) (M : List Addr), vs = [.int n] ∧ n ≤ 5 ∧ Al M H ∧ ∀ p H', Same H H' → Al M H' → Dp K (hid M H') (.ref p) (.list ((tri n).map trD)) → Q (.ref p) H'
/-- the list at D is being filled: what it holds -/
structure Fill (K : PySem.W.Frag) (M : List Addr) (H1 : Hp) (D : Addr) (ds : List PyData) (H : Hp) : Prop where
  same : Same H1 H
  keep : Same (hid M H1) (hid (D :: M) H)
  al : Al (D :: M) H
  has : ∃ ys, H D = some (.lst ys) ∧ DpAll K (hid (D :: M) H) ys ds
theorem Fill.start {K : PySem.W.Frag} {M : List Addr} {H1 : Hp} {D : Addr} (al : Al M H1) (nD : H1 D = none) : Fill K M H1 D [] (upd H1 D (.lst [])) := by
  refine ⟨new_same nD, ?_, (al.mono (new_same nD)).cons upd_same, [], upd_same, .nil⟩
  rw [hid_write (List.mem_cons_self ..)]
  intro b o h
  obtain ⟨h1, h2⟩ := hid_some h
  rw [hid_out fun z => (List.mem_cons.mp z).elim (fun q => by rw [q, nD] at h1; cases h1) h2]
  exact h1
/-- one item more, made by then at H4 -/
theorem Fill.app {K : PySem.W.Frag} {M : List Addr} {H1 H4 : Hp} {D : Addr} {ds : List PyData} {H : Hp} (nD : H1 D = none) (x : Fill K M H1 D ds H) (s : Same H H4) {y : V} {d : PyData} (hd : Dp K (hid (D :: M) H4) y d) (hl : ds.length < sizeLine) :
    ∃ acc, H4 D = some (.lst acc) ∧ acc.length < sizeLine ∧ Fill K M H1 D (ds ++ [d]) (upd H4 D (.lst (acc ++ [y]))) := by
  obtain ⟨ys, h1, h2⟩ := x.has
  have e : hid (D :: M) (upd H4 D (.lst (ys ++ [y]))) = hid (D :: M) H4 := hid_write (List.mem_cons_self ..)
  refine ⟨ys, s _ _ h1, by rw [dpAll_length h2]; exact hl, fun b o q => ?_, by rw [e]; exact x.keep.trans s.hid, (x.al.mono s).upd, ys ++ [y], upd_same, by rw [e]; exact dpAll_append (h2.mono s.hid) (.cons hd .nil)⟩
  rw [upd_ne (ne_of_none q nD)]
  exact s _ _ (x.same _ _ q)
theorem Fill.done {K : PySem.W.Frag} {M : List Addr} {H1 : Hp} {D : Addr} {ds : List PyData} {H : Hp} (al : Al M H1) (nD : H1 D = none) (x : Fill K M H1 D ds H) : Al M H ∧ Dp K (hid M H) (.ref D) (.list ds) := by
  obtain ⟨ys, h1, h2⟩ := x.has
  exact ⟨x.al.tail, .lst (.of (by rw [hid_out (al.new nD)]; exact h1)) (h2.mono hid_drop)⟩
theorem rgV_get {n i : Nat} {x : V} (h : (rgV 1 ((n : Int) + 1))[i]? = some x) : i < n ∧ x = .int ((i : Int) + 1) := by
  unfold rgV at h
  rw [List.getElem?_map] at h
  have e : (((n : Int) + 1) - 1).toNat = n := by omega
  rw [e] at h
  rcases Nat.lt_or_ge i n with lt | ge
  · rw [List.getElem?_range lt] at h
    refine ⟨lt, ?_⟩
    have := Option.some.inj h
    rw [← this, Int.add_comm]
  · rw [List.getElem?_eq_none (by rw [List.length_range]; exact ge)] at h
    cases h
theorem rgV_len (n : Nat) : (rgV 1 ((n : Int) + 1)).length = n := by rw [rgV_length]; omega
theorem ok_triples {f : Addr} {fd : FuncData} (F : Fun K "triples" "triples" s_triples f fd) (B : Bi mg) (T_Table : ClsT K mg "Table" C.table) (A_Table : ∀ f ∈ (["results", "prices"] : List Str), NoAttr K C.table f) : FnOk P w K mg base CX0 1 f fd P_triples (sp_triples K C) := by
  refine F.ok sc_triples (fun vs H Q E h => ?_) (fun cdv A outer s H vs Q E hr h => ?_)
  · obtain ⟨n, M, rfl, hn, al, q⟩ := h; rfl
  obtain ⟨n, M, rfl, hn, al, q⟩ := h
  refine ⟨_, (pss_cons (ps_set (i := 1) sc_triples.nd rfl (Or.inr rfl) (pe_listRg rfl (by rfl) B.n_list (prg_2 (by rfl) B.n_range pe_int (pe_op op_add (pv 0) pe_int))))
      (pss_one (ps_ret (pe_lc3 (te := (tTup (tCons (tVar 2) (tCons (tVar 3) (tCons (tVar 4) tNil))))) (wi1 := (iList K (tVar 1))) (wi2 := (iList K (tVar 1))) (tt := tYes) (tt1 := tYes) (tt2 := tYes) (own := [("x", 2), ("y", 3), ("z", 4)]) (vs1 := [3, 4]) (vs2 := [4]) rfl sc_triples.nd (pi_list (pv 1)) (blkOk_by (own := [("x", 2), ("y", 3), ("z", 4)]) (N := N_triples) (sc := defScope s_triples) (by decide +kernel)) (by decide) (by decide) (fun _ _ _ _ _ => ⟨(pg_name (i := 2) sc_triples.nd rfl (Or.inl rfl)), pts_nil, (pi_list (pv 1)), (pg_name (i := 3) sc_triples.nd rfl (Or.inl rfl)), pts_nil, (pi_list (pv 1)), (pg_name (i := 4) sc_triples.nd rfl (Or.inl rfl)), pts_nil, (pe_tup (pa_cons (pv 2) (pa_cons (pv 3) (pa_cons (pv 4) pa_nil))))⟩))))), ?_⟩
  refine ⟨_, rfl, _, _, rfl, rfl, _, _, rfl, rfl, .of_le (by omega) (by omega) (by omega) (by omega), fun L nL => ?_⟩
  have sL := new_same (o := .lst (rgV 1 ((n : Int) + 1))) nL
  have hL : SqL K (upd H L (.lst (rgV 1 ((n : Int) + 1)))) L (rgV 1 ((n : Int) + 1)) := .of upd_same
  generalize upd H L (.lst (rgV 1 ((n : Int) + 1))) = H1 at sL hL ⊢
  have big : ∀ {i j k : Nat}, i < n → j < n → k < n → ((pre n i j k).map trD).length < sizeLine := fun {i j k} hi hj hk => by
    have e : ((pre n i j k).map trD).length ≤ 4 * 25 + 4 * 5 + 4 := by
      rw [List.length_map]; unfold pre
      rw [List.length_append, List.length_append, len_r1, len_r2, len_r3]
      have h1 : i * (n * n) ≤ 4 * 25 := Nat.mul_le_mul (by omega) (Nat.mul_le_mul hn hn)
      have h2 : j * n ≤ 4 * 5 := Nat.mul_le_mul (by omega) hn
      omega
    exact Nat.lt_of_le_of_lt e (by decide)
  have al1 := al.mono sL
  refine ⟨_, rfl, L, rfl, ⟨_, hL⟩, fun D nD => ?_⟩
  refine tIn_list (xs := rgV 1 ((n : Int) + 1)) (fun i => Fill K M H1 D ((pre n i 0 0).map trD)) (by rw [pre_0]; exact .start al1 nD) (fun i H' _ f => f.same.seq hL) ?_ ?_
  · intro i x H2 ei f
    obtain ⟨hi, rfl⟩ := rgV_get ei
    refine ⟨rfl, ?_⟩
    refine ⟨_, rfl, L, rfl, ⟨_, f.same.seq hL⟩, ?_⟩
    refine tIn_list (xs := rgV 1 ((n : Int) + 1)) (fun j => Fill K M H1 D ((pre n i j 0).map trD)) f (fun j H' _ f => f.same.seq hL) ?_ ?_
    · intro j y H3 ej f
      obtain ⟨hj, rfl⟩ := rgV_get ej
      refine ⟨rfl, ?_⟩
      refine ⟨_, rfl, L, rfl, ⟨_, f.same.seq hL⟩, ?_⟩
      refine tIn_list (xs := rgV 1 ((n : Int) + 1)) (fun k => Fill K M H1 D ((pre n i j k).map trD)) f (fun k H' _ f => f.same.seq hL) ?_ ?_
      · intro k z H4 ek f
        obtain ⟨hk, rfl⟩ := rgV_get ek
        refine ⟨rfl, ?_⟩
        refine ⟨_, rfl, _, rfl, _, rfl, sz3, fun T nT => ?_⟩
        obtain ⟨s5, _, d5⟩ := new_tup (M := D :: M) (K := K) f.al (.cons (.int ((i : Int) + 1)) (.cons (.int ((j : Int) + 1)) (.cons (.int ((k : Int) + 1)) .nil))) nT
        obtain ⟨acc, h1, h2, h3⟩ := f.app nD s5 d5 (big hi hj hk)
        refine ⟨acc, h1, h2, ?_⟩
        rw [pre_k, List.map_append]
        exact h3
      · intro H4 f
        rw [rgV_len] at f
        rw [pre_j]
        exact f
    · intro H3 f
      rw [rgV_len] at f
      rw [pre_i]
      exact f
  · intro H2 f
    rw [rgV_len, pre_n] at f
    obtain ⟨a2, d2⟩ := f.done al1 nD
    exact q D H2 (sL.trans f.same) a2 d2
abbrev s_left_first : Stmt := topS 17
abbrev N_left_first : List Str := ["table", "triple", "middle", "x", "y", "z"]
abbrev P_left_first : List Str := ["table", "triple"]
theorem sc_left_first : FnScope N_left_first P_left_first (defScope s_left_first) := ⟨rfl, rfl, rfl, by decide +kernel, rfl, by decide +kernel, by decide +kernel⟩
structure In3 (n : Nat) (a : Tr) : Prop where
  x : 1 ≤ a.1 ∧ a.1 ≤ n
  y : 1 ≤ a.2.1 ∧ a.2.1 ≤ n
  z : 1 ≤ a.2.2 ∧ a.2.2 ≤ n
def sp_left_first (K : PySem.W.Frag) (C : CA) : Sp := fun vs H Q _ => ∃ p v n g t a M, vs = [.ref p, v] ∧ TableAt K C.table (hid M H) p g t ∧ Tbl n g t ∧ Dp K (hid M H) v (trD a) ∧ In3 n a ∧ Al M H ∧
  ∀ r H', Same H H' → Al M H' → Dp K (hid M H') (.ref r) (.tuple [.int (lw g t a).1, .int (lw g t a).2]) → Q (.ref r) H'
theorem ok_left_first {f : Addr} {fd : FuncData} (F : Fun K "left_first" "left_first" s_left_first f fd) (B : Bi mg) (T_Table : ClsT K mg "Table" C.table) (A_Table : ∀ f ∈ (["results", "prices"] : List Str), NoAttr K C.table f) (c_Table_join : MCal P w K mg base CX0 C.table "join" 4 P_Table_join (sp_Table_join K C)) (c_Table_toll : MCal P w K mg base CX0 C.table "toll" 4 P_Table_toll (sp_Table_toll K C)) : FnOk P w K mg base CX0 5 f fd P_left_first (sp_left_first K C) := by
  refine F.ok sc_left_first (fun vs H Q E h => ?_) (fun cdv A outer s H vs Q E hr h => ?_)
  · obtain ⟨p, v, n, g, t, a, M, rfl, tb, T, hv, i3, al, q⟩ := h; rfl
  obtain ⟨p, v, n, g, t, a, M, rfl, tb, T, hv, i3, al, q⟩ := h
  refine ⟨_, (pss_cons (ps_asg (pv 1) (pg_tup rfl (pgs_cons (pg_name (i := 3) sc_left_first.nd rfl (Or.inl rfl)) (pgs_cons (pg_name (i := 4) sc_left_first.nd rfl (Or.inl rfl)) (pgs_cons (pg_name (i := 5) sc_left_first.nd rfl (Or.inl rfl)) pgs_nil)))))
      (pss_cons (ps_set (i := 2) sc_left_first.nd rfl (Or.inl rfl) (pe_meth (pv 0) T_Table.cl c_Table_join.me c_Table_join.ok (hr.mono (by decide)) c_Table_join.b .nil pass0 (pa_cons (pv 3) (pa_cons (pv 4) pa_nil))))
      (pss_one (ps_ret (pe_tup (pa_cons (pe_meth (pv 0) T_Table.cl c_Table_join.me c_Table_join.ok (hr.mono (by decide)) c_Table_join.b .nil pass0 (pa_cons (pv 2) (pa_cons (pv 5) pa_nil))) (pa_cons (pe_op op_add (pe_meth (pv 0) T_Table.cl c_Table_toll.me c_Table_toll.ok (hr.mono (by decide)) c_Table_toll.b .nil pass0 (pa_cons (pv 3) (pa_cons (pv 4) pa_nil))) (pe_meth (pv 0) T_Table.cl c_Table_toll.me c_Table_toll.ok (hr.mono (by decide)) c_Table_toll.b .nil pass0 (pa_cons (pv 2) (pa_cons (pv 5) pa_nil)))) pa_nil))))))), ?_⟩
  have tb' := tb.mono hid_le
  obtain ⟨dx, ra, rb, hp, _⟩ := id tb'
  obtain ⟨b, rfl, hb⟩ := tr_read (hv.mono hid_le)
  have nj : (fT ra rb).lookup ("join" : Str) = none := fT_no _ _ (by decide +kernel) (by decide +kernel)
  have nt : (fT ra rb).lookup ("toll" : Str) = none := fT_no _ _ (by decide +kernel) (by decide +kernel)
  have km := T.j.kind i3.x i3.y
  refine ⟨_, rfl, b, _, rfl, hb, rfl, _, _, rfl, _, _, rfl, _, _, rfl, rfl, ?_⟩
  refine ⟨_, rfl, p, dx, _, rfl, hp, nj, _, rfl, _, rfl, p, n, g, t, a.1, a.2.1, rfl, tb', T, i3.x, i3.y, ?_⟩
  refine ⟨_, rfl, p, dx, _, rfl, hp, nj, _, rfl, _, rfl, p, n, g, t, _, a.2.2, rfl, tb', T, km, i3.z, ?_⟩
  refine ⟨_, rfl, p, dx, _, rfl, hp, nt, _, rfl, _, rfl, p, n, g, t, a.1, a.2.1, rfl, tb', T, i3.x, i3.y, ?_⟩
  refine ⟨_, rfl, p, dx, _, rfl, hp, nt, _, rfl, _, rfl, p, n, g, t, _, a.2.2, rfl, tb', T, km, i3.z, ?_⟩
  refine ⟨_, _, rfl, rfl, sz2, fun r nr => ?_⟩
  obtain ⟨s, al', d⟩ := new_tup (K := K) al (.cons (.int _) (.cons (.int _) .nil)) nr
  exact q r _ s al' d
abbrev s_right_first : Stmt := topS 18
abbrev N_right_first : List Str := ["table", "triple", "middle", "x", "y", "z"]
abbrev P_right_first : List Str := ["table", "triple"]
theorem sc_right_first : FnScope N_right_first P_right_first (defScope s_right_first) := ⟨rfl, rfl, rfl, by decide +kernel, rfl, by decide +kernel, by decide +kernel⟩
def sp_right_first (K : PySem.W.Frag) (C : CA) : Sp := fun vs H Q _ => ∃ p v n g t a M, vs = [.ref p, v] ∧ TableAt K C.table (hid M H) p g t ∧ Tbl n g t ∧ Dp K (hid M H) v (trD a) ∧ In3 n a ∧ Al M H ∧
  ∀ r H', Same H H' → Al M H' → Dp K (hid M H') (.ref r) (.tuple [.int (rw' g t a).1, .int (rw' g t a).2]) → Q (.ref r) H'
theorem ok_right_first {f : Addr} {fd : FuncData} (F : Fun K "right_first" "right_first" s_right_first f fd) (B : Bi mg) (T_Table : ClsT K mg "Table" C.table) (A_Table : ∀ f ∈ (["results", "prices"] : List Str), NoAttr K C.table f) (c_Table_join : MCal P w K mg base CX0 C.table "join" 4 P_Table_join (sp_Table_join K C)) (c_Table_toll : MCal P w K mg base CX0 C.table "toll" 4 P_Table_toll (sp_Table_toll K C)) : FnOk P w K mg base CX0 5 f fd P_right_first (sp_right_first K C) := by
  refine F.ok sc_right_first (fun vs H Q E h => ?_) (fun cdv A outer s H vs Q E hr h => ?_)
  · obtain ⟨p, v, n, g, t, a, M, rfl, tb, T, hv, i3, al, q⟩ := h; rfl
  obtain ⟨p, v, n, g, t, a, M, rfl, tb, T, hv, i3, al, q⟩ := h
  refine ⟨_, (pss_cons (ps_asg (pv 1) (pg_tup rfl (pgs_cons (pg_name (i := 3) sc_right_first.nd rfl (Or.inl rfl)) (pgs_cons (pg_name (i := 4) sc_right_first.nd rfl (Or.inl rfl)) (pgs_cons (pg_name (i := 5) sc_right_first.nd rfl (Or.inl rfl)) pgs_nil)))))
      (pss_cons (ps_set (i := 2) sc_right_first.nd rfl (Or.inl rfl) (pe_meth (pv 0) T_Table.cl c_Table_join.me c_Table_join.ok (hr.mono (by decide)) c_Table_join.b .nil pass0 (pa_cons (pv 4) (pa_cons (pv 5) pa_nil))))
      (pss_one (ps_ret (pe_tup (pa_cons (pe_meth (pv 0) T_Table.cl c_Table_join.me c_Table_join.ok (hr.mono (by decide)) c_Table_join.b .nil pass0 (pa_cons (pv 3) (pa_cons (pv 2) pa_nil))) (pa_cons (pe_op op_add (pe_meth (pv 0) T_Table.cl c_Table_toll.me c_Table_toll.ok (hr.mono (by decide)) c_Table_toll.b .nil pass0 (pa_cons (pv 4) (pa_cons (pv 5) pa_nil))) (pe_meth (pv 0) T_Table.cl c_Table_toll.me c_Table_toll.ok (hr.mono (by decide)) c_Table_toll.b .nil pass0 (pa_cons (pv 3) (pa_cons (pv 2) pa_nil)))) pa_nil))))))), ?_⟩
  have tb' := tb.mono hid_le
  obtain ⟨dx, ra, rb, hp, _⟩ := id tb'
  obtain ⟨b, rfl, hb⟩ := tr_read (hv.mono hid_le)
  have nj : (fT ra rb).lookup ("join" : Str) = none := fT_no _ _ (by decide +kernel) (by decide +kernel)
  have nt : (fT ra rb).lookup ("toll" : Str) = none := fT_no _ _ (by decide +kernel) (by decide +kernel)
  have km := T.j.kind i3.y i3.z
  refine ⟨_, rfl, b, _, rfl, hb, rfl, _, _, rfl, _, _, rfl, _, _, rfl, rfl, ?_⟩
  refine ⟨_, rfl, p, dx, _, rfl, hp, nj, _, rfl, _, rfl, p, n, g, t, a.2.1, a.2.2, rfl, tb', T, i3.y, i3.z, ?_⟩
  refine ⟨_, rfl, p, dx, _, rfl, hp, nj, _, rfl, _, rfl, p, n, g, t, a.1, _, rfl, tb', T, i3.x, km, ?_⟩
  refine ⟨_, rfl, p, dx, _, rfl, hp, nt, _, rfl, _, rfl, p, n, g, t, a.2.1, a.2.2, rfl, tb', T, i3.y, i3.z, ?_⟩
  refine ⟨_, rfl, p, dx, _, rfl, hp, nt, _, rfl, _, rfl, p, n, g, t, a.1, _, rfl, tb', T, i3.x, km, ?_⟩
  refine ⟨_, _, rfl, rfl, sz2, fun r nr => ?_⟩
  obtain ⟨s, al', d⟩ := new_tup (K := K) al (.cons (.int _) (.cons (.int _) .nil)) nr
  exact q r _ s al' d
abbrev s_three : Stmt := topS 19
abbrev N_three : List Str := ["table", "at", "word", "triple", "left", "right"]
abbrev P_three : List Str := ["table"]
theorem sc_three : FnScope N_three P_three (defScope s_three) := ⟨rfl, rfl, rfl, by decide +kernel, rfl, by decide +kernel, by decide +kernel⟩
def sp_three (K : PySem.W.Frag) (C : CA) : Sp := fun vs H Q _ => ∃ p n g t M, vs = [.ref p] ∧ TableAt K C.table (hid M H) p g t ∧ Tbl n g t ∧ Al M H ∧ ∀ r H', Same H H' → Al M H' → Dp K (hid M H') (.ref r) (stmt g t n) → Q (.ref r) H'
/-- one of the two words and what it compares -/
def badk (g t : List (List Int)) (i : Nat) (a : Tr) : Bool := if i = 0 then bad0 g t a else bad1 g t a
theorem take_find {α : Type} {p : α → Bool} {l : List α} {i : Nat} {a : α} (e : l[i]? = some a) (h : (l.take i).find? p = none) (q : p a = true) : l.find? p = some a := by
  obtain ⟨lt, ea⟩ := List.getElem?_eq_some_iff.mp e
  have : l = l.take i ++ a :: l.drop (i + 1) := by rw [← ea, ← List.drop_eq_getElem_cons lt, List.take_append_drop]
  rw [this]; exact find_hit h q
theorem take_step {α : Type} {p : α → Bool} {l : List α} {i : Nat} {a : α} (e : l[i]? = some a) (h : (l.take i).find? p = none) (q : p a = false) : (l.take (i + 1)).find? p = none := by
  obtain ⟨lt, ea⟩ := List.getElem?_eq_some_iff.mp e
  rw [List.take_succ, e]
  exact find_app h q
theorem ok_three {f : Addr} {fd : FuncData} (F : Fun K "three" "three" s_three f fd) (B : Bi mg) (T_Table : ClsT K mg "Table" C.table) (A_Table : ∀ f ∈ (["results", "prices"] : List Str), NoAttr K C.table f) (c_triples : Cal P w K mg base CX0 "triples" 1 P_triples (sp_triples K C)) (c_Table_count : MCal P w K mg base CX0 C.table "count" 1 P_Table_count (sp_Table_count K C)) (c_left_first : Cal P w K mg base CX0 "left_first" 5 P_left_first (sp_left_first K C)) (c_right_first : Cal P w K mg base CX0 "right_first" 5 P_right_first (sp_right_first K C)) : FnOk P w K mg base CX0 6 f fd P_three (sp_three K C) := by
  refine F.ok sc_three (fun vs H Q E h => ?_) (fun cdv A outer s H vs Q E hr h => ?_)
  · obtain ⟨p, n, g, t, M, rfl, tb, T, al, q⟩ := h; rfl
  obtain ⟨p, n, g, t, M, rfl, tb, T, al, q⟩ := h
  refine ⟨_, (pss_cons (ps_for PassesOwn.never rfl (pi_enum (by rfl) B.n_enumerate (pa_cons (pe_lst (pa_cons pe_str (pa_cons pe_str pa_nil))) pa_nil)) (pg_tup rfl (pgs_cons (pg_name (i := 1) sc_three.nd rfl (Or.inl rfl)) (pgs_cons (pg_name (i := 2) sc_three.nd rfl (Or.inl rfl)) pgs_nil))) (pss_one (ps_for PassesOwn.never rfl (pi_list (pe_call c_triples.ok (hr.mono (by decide)) (by rfl) c_triples.g c_triples.kp c_triples.b .nil pass0 (pa_cons (pe_meth0 (pv 0) T_Table.cl c_Table_count.me c_Table_count.ok (hr.mono (by decide)) c_Table_count.b .nil pass0) pa_nil))) (pg_name (i := 3) sc_three.nd rfl (Or.inl rfl)) (pss_cons (ps_par (i := 4) (j := 5) rfl sc_three.nd rfl rfl (by decide) rfl rfl (pa_cons (pe_call c_left_first.ok (hr.mono (by decide)) (by rfl) c_left_first.g c_left_first.kp c_left_first.b .nil pass0 (pa_cons (pv 0) (pa_cons (pv 3) pa_nil))) (pa_cons (pe_call c_right_first.ok (hr.mono (by decide)) (by rfl) c_right_first.g c_right_first.kp c_right_first.b .nil pass0 (pa_cons (pv 0) (pa_cons (pv 3) pa_nil))) pa_nil)) (by rfl))
      (pss_one (ps_if (pt_cmpR op_ne (pe_ix ix_tup (pv 4) (pv 1) (fun _ _ => rfl)) (pe_ix ix_tup (pv 5) (pv 1) (fun _ _ => rfl)) (nomark _)) (pss_one (ps_ret (pe_tup (pa_cons (pv 2) (pa_cons (pv 3) (pa_cons (pe_ix ix_tup (pv 4) (pv 1) (fun _ _ => rfl)) (pa_cons (pe_ix ix_tup (pv 5) (pv 1) (fun _ _ => rfl)) pa_nil))))))) pss_nil))))))
      (pss_one (ps_ret (pe_tup (pa_cons pe_str pa_nil))))), ?_⟩
  refine ⟨sz2, fun L nL => ?_⟩
  have sL := new_same (o := .lst [.str "result", .str "toll"]) nL
  have hL : SqL K (upd H L (.lst [.str "result", .str "toll"])) L [.str "result", .str "toll"] := .of upd_same
  generalize upd H L (.lst [.str "result", .str "toll"]) = H1 at sL hL ⊢
  refine ⟨L, _, rfl, hL, for_enum (xs := [.str "result", .str "toll"]) (fun i σ H' => ∃ v1 v2 v3 v4 v5, σ = [some (.ref p), v1, v2, v3, v4, v5] ∧ Same H1 H' ∧ Al M H' ∧ (1 ≤ i → (tri n).find? (bad0 g t) = none) ∧ (2 ≤ i → (tri n).find? (bad1 g t) = none))
    ⟨_, _, _, _, _, rfl, .refl _, al.mono sL, fun h => absurd h (by decide), fun h => absurd h (by decide)⟩ (fun i σ H' _ ⟨_, _, _, _, _, _, s, _⟩ => s.seq hL) ?_ ?_⟩
  · rintro i x σ H2 T1 hi ⟨v1, v2, v3, v4, v5, rfl, s2, al2, f0, f1⟩ nT
    have hi2 : i < 2 := (List.getElem?_eq_some_iff.mp hi).1
    have sT := new_same (o := .tup [.int (i : Nat), x]) nT
    refine ⟨T1, _, rfl, .of upd_same, rfl, _, _, rfl, _, _, rfl, rfl, ?_⟩
    generalize upd H2 T1 (.tup [.int (i : Nat), x]) = H3 at sT ⊢
    have s3 := (sL.trans s2).trans sT
    have tb3 := tb.mono s3.hid
    obtain ⟨dx, ra, rb, hp, _⟩ := id (tb3.mono hid_le)
    refine ⟨_, rfl, p, dx, _, rfl, hp, fT_no _ _ (by decide +kernel) (by decide +kernel), p, n, g, t, rfl, tb3.mono hid_le, T, n, M, rfl, T.h5, al2.mono sT, fun B H4 s4 al4 dB => ?_⟩
    obtain ⟨xs, hxs, hall⟩ := dp_lst dB
    have lxs : xs.length = (tri n).length := by rw [dpAll_length hall, List.length_map]
    refine ⟨B, rfl, ⟨_, hxs.mono hid_le⟩, for_list (K := K) (a := B) (xs := xs) (fun j σ H' => ∃ v3 v4 v5, σ = [some (.ref p), some (.int (i : Nat)), some x, v3, v4, v5] ∧ Same H4 H' ∧ Al M H' ∧ ((tri n).take j).find? (badk g t i) = none)
      ⟨_, _, _, rfl, .refl _, al4, rfl⟩ (fun j σ H' _ ⟨_, _, _, _, s, _⟩ => s.seq (hxs.mono hid_le)) ?_ ?_⟩
    · rintro j y σ H5 hj ⟨w3, w4, w5, rfl, s5, al5, fj⟩
      obtain ⟨d, ed, hd⟩ := dpAll_of hall hj
      rw [List.getElem?_map] at ed
      cases ea : (tri n)[j]? with
      | none => rw [ea] at ed; cases ed
      | some a =>
        rw [ea] at ed
        obtain rfl := Option.some.inj ed
        have i3 : In3 n a := by
          obtain ⟨x1, y1, z1⟩ := a
          obtain ⟨h1, h2, h3⟩ := mem_tri (List.mem_of_getElem? ea)
          exact ⟨h1, h2, h3⟩
        have s05 := (s3.trans s4).trans s5
        refine ⟨_, rfl, _, rfl, p, y, n, g, t, a, M, rfl, tb.mono s05.hid, T, hd.mono s5.hid, i3, al5, fun r6 H6 s6 al6 d6 => ?_⟩
        refine ⟨_, rfl, _, rfl, p, y, n, g, t, a, M, rfl, tb.mono (s05.trans s6).hid, T, hd.mono (s5.trans s6).hid, i3, al6, fun r7 H7 s7 al7 d7 => ?_⟩
        obtain ⟨l6, h6, hall6⟩ := dp_tup ((d6.mono s7.hid).mono hid_le)
        obtain ⟨l7, h7, hall7⟩ := dp_tup (d7.mono hid_le)
        have e6 : l6 = [(lw g t a).1, (lw g t a).2].map V.int := dpAll_ints (ns := [(lw g t a).1, (lw g t a).2]) hall6
        have e7 : l7 = [(rw' g t a).1, (rw' g t a).2].map V.int := dpAll_ints (ns := [(rw' g t a).1, (rw' g t a).2]) hall7
        subst e6 e7
        have dy := hd.mono ((s5.trans s6).trans s7).hid
        have hH : Same H H7 := (s05.trans s6).trans s7
        rcases (by omega : i = 0 ∨ i = 1) with rfl | rfl
        · obtain rfl : x = .str "result" := (Option.some.inj hi).symm
          refine ⟨_, _, rfl, _, rfl, _, rfl, r6, _, _, _, rfl, rfl, h6, atI_nat (j := 0) rfl, _, rfl, _, rfl, r7, _, _, _, rfl, rfl, h7, atI_nat (j := 0) rfl, rfl, _, rfl, ?_⟩
          by_cases hb : (lw g t a).1 = (rw' g t a).1
          · rw [decide_eq_true (show V.int (lw g t a).1 = V.int (rw' g t a).1 by rw [hb])]
            exact ⟨_, _, _, rfl, (s5.trans s6).trans s7, al7, take_step ea fj (by show bad0 g t a = false; unfold bad0; simp [hb])⟩
          · rw [decide_eq_false (show ¬ V.int (lw g t a).1 = V.int (rw' g t a).1 from fun z => hb (V.int.inj z))]
            refine ⟨_, rfl, _, rfl, _, rfl, _, rfl, r6, _, _, _, rfl, rfl, h6, atI_nat (j := 0) rfl, _, rfl, _, rfl, r7, _, _, _, rfl, rfl, h7, atI_nat (j := 0) rfl, sz4, fun r nr => ?_⟩
            obtain ⟨s8, al8, d8⟩ := new_tup (K := K) al7 (.cons (.str "result") (.cons dy (.cons (.int (lw g t a).1) (.cons (.int (rw' g t a).1) .nil)))) nr
            have e : stmt g t n = says0 g t a := by
              unfold stmt
              rw [take_find (p := bad0 g t) ea fj (by unfold bad0; simpa using hb)]
            rw [← show stmt g t n = .tuple _ from e] at d8
            exact q r _ (hH.trans s8) al8 d8
        · obtain rfl : x = .str "toll" := (Option.some.inj hi).symm
          have g0 := f0 (Nat.le_refl _)
          refine ⟨_, _, rfl, _, rfl, _, rfl, r6, _, _, _, rfl, rfl, h6, atI_nat (j := 1) rfl, _, rfl, _, rfl, r7, _, _, _, rfl, rfl, h7, atI_nat (j := 1) rfl, rfl, _, rfl, ?_⟩
          by_cases hb : (lw g t a).2 = (rw' g t a).2
          · rw [decide_eq_true (show V.int (lw g t a).2 = V.int (rw' g t a).2 by rw [hb])]
            exact ⟨_, _, _, rfl, (s5.trans s6).trans s7, al7, take_step ea fj (by show bad1 g t a = false; unfold bad1; simp [hb])⟩
          · rw [decide_eq_false (show ¬ V.int (lw g t a).2 = V.int (rw' g t a).2 from fun z => hb (V.int.inj z))]
            refine ⟨_, rfl, _, rfl, _, rfl, _, rfl, r6, _, _, _, rfl, rfl, h6, atI_nat (j := 1) rfl, _, rfl, _, rfl, r7, _, _, _, rfl, rfl, h7, atI_nat (j := 1) rfl, sz4, fun r nr => ?_⟩
            obtain ⟨s8, al8, d8⟩ := new_tup (K := K) al7 (.cons (.str "toll") (.cons dy (.cons (.int (lw g t a).2) (.cons (.int (rw' g t a).2) .nil)))) nr
            have e : stmt g t n = says1 g t a := by
              unfold stmt
              rw [g0]
              show (match (tri n).find? (bad1 g t) with | some a => says1 g t a | none => firmD) = _
              rw [take_find (p := bad1 g t) ea fj (by unfold bad1; simpa using hb)]
            rw [← show stmt g t n = .tuple _ from e] at d8
            exact q r _ (hH.trans s8) al8 d8
    · rintro σ H5 ⟨w3, w4, w5, rfl, s5, al5, fj⟩
      rw [lxs, List.take_length] at fj
      refine ⟨_, _, _, _, _, rfl, ((s2.trans sT).trans s4).trans s5, al5, fun _ => ?_, fun h => ?_⟩
      · rcases (by omega : i = 0 ∨ i = 1) with rfl | rfl
        · exact fj
        · exact f0 (Nat.le_refl _)
      · obtain rfl : i = 1 := by omega
        exact fj
  · rintro σ H2 ⟨v1, v2, v3, v4, v5, rfl, s2, al2, f0, f1⟩
    refine ⟨sz1, fun r nr => ?_⟩
    obtain ⟨s8, al8, d8⟩ := new_tup (K := K) al2 (.cons (.str "firm") .nil) nr
    have e : stmt g t n = firmD := by
      unfold stmt
      rw [f0 (by decide)]
      show (match (tri n).find? (bad1 g t) with | some a => says1 g t a | none => firmD) = _
      rw [f1 (by decide)]
    rw [← show stmt g t n = .tuple _ from e] at d8
    exact q r _ ((sL.trans s2).trans s8) al8 d8
end

theorem firm_self : PyData.eqv firmD firmD = true := by decide +kernel
theorem ok_s : PyData.strOk "result" = true ∧ PyData.strOk "toll" = true ∧ PyData.strOk "firm" = true := by decide +kernel
theorem stmt_shaped (g t : List (List Int)) (n : Nat) : SeqAt.shaped (stmt g t n) = true := by
  have h0 : ∀ a, SeqAt.shaped (says0 g t a) = true := fun a => by simp [SeqAt.shaped, says0, trD, PyData.canLay0, PyData.canLayAll0, PyData.depth, PyData.depthAll, ok_s]
  have h1 : ∀ a, SeqAt.shaped (says1 g t a) = true := fun a => by simp [SeqAt.shaped, says1, trD, PyData.canLay0, PyData.canLayAll0, PyData.depth, PyData.depthAll, ok_s]
  have h2 : SeqAt.shaped firmD = true := by simp [SeqAt.shaped, firmD, PyData.canLay0, PyData.canLayAll0, PyData.depth, PyData.depthAll, ok_s]
  unfold stmt
  split
  · exact h0 _
  · split
    · exact h1 _
    · exact h2
theorem pair_shaped (a b : Int) : SeqAt.shaped (.tuple [.int a, .int b]) = true := by simp [SeqAt.shaped, PyData.canLay0, PyData.canLayAll0, PyData.depth, PyData.depthAll]
theorem bl_of {Q : VK} {b c : Bool} {H : Hp} (h : Q (.bl b) H) (e : b = c) : Q (.bl c) H := e ▸ h
theorem stmt_0 {g t : List (List Int)} {n : Nat} {a : Tr} (h : (tri n).find? (bad0 g t) = some a) : stmt g t n = says0 g t a := by unfold stmt; rw [h]
theorem stmt_1 {g t : List (List Int)} {n : Nat} {a : Tr} (h : (tri n).find? (bad0 g t) = none) (h1 : (tri n).find? (bad1 g t) = some a) : stmt g t n = says1 g t a := by unfold stmt; rw [h, h1]
theorem stmt_2 {g t : List (List Int)} {n : Nat} (h : (tri n).find? (bad0 g t) = none) (h1 : (tri n).find? (bad1 g t) = none) : stmt g t n = firmD := by unfold stmt; rw [h, h1]
/-- small whole numbers, their texts -/
def Sm (i : Int) : Prop := i.natAbs < 10 ^ 13
theorem Sm.log {i : Int} (h : Sm i) : i.natAbs.log2 < 44 := by
  by_cases e : i.natAbs = 0
  · rw [e]; decide
  · exact (Nat.log2_lt e).mpr (Nat.lt_trans h (by decide))
theorem Sm.show_ {i : Int} (h : Sm i) : PyData.showable (.int i) = true := by
  simp only [PyData.showable, decide_eq_true_eq]
  exact Nat.lt_trans h.log (by decide)
theorem Sm.short {i : Int} (h : Sm i) : PyData.leavesShort 14 (.int i) = true := by
  simp only [PyData.leavesShort, decide_eq_true_eq]
  have e := int_text_length_le10 (k := 13) (by decide) h
  show (Str.ofString (toString i)).length ≤ 14
  rw [PySem.ofString_length]; exact e
theorem Sm.wt {i : Int} (h : Sm i) : PyData.weight (.int i) ≤ 44 := by
  simp only [PyData.weight]
  have := h.log
  split <;> omega
/-- what repr asks of data -/
structure Shw (d : PyData) : Prop where
  sh : d.showable = true
  nd : d.hasDict = false
  dp : d.depth ≤ 60
  ln : d.shown.length ≤ sizeLine
theorem Shw.of {d : PyData} (sh : d.showable = true) (nd : d.hasDict = false) (dp : d.depth ≤ 60) (ls : d.leavesShort 14 = true) (wt : d.weight ≤ 100000) : Shw d := by
  refine ⟨sh, nd, dp, ?_⟩
  have h := PyData.shown_le 14 (by decide) d ls
  rw [sizeLine_eq]
  omega
theorem says_shw {w : Str} {a : Tr} {l r : Int} (hw : PyData.leavesShort 14 (.str w) = true) (hl : PyData.weight (.str w) ≤ 100) (h1 : Sm a.1) (h2 : Sm a.2.1) (h3 : Sm a.2.2) (h4 : Sm l) (h5 : Sm r) : Shw (.tuple [.str w, trD a, .int l, .int r]) := by
  refine .of ?_ ?_ ?_ ?_ ?_
  · have e := h1.show_; have e2 := h2.show_; have e3 := h3.show_; have e4 := h4.show_; have e5 := h5.show_
    simp only [trD, PyData.showable, PyData.showableAll, Bool.and_true, Bool.true_and, Bool.and_eq_true] at *
    exact ⟨⟨e, e2, e3⟩, e4, e5⟩
  · simp [trD, PyData.hasDict, PyData.hasDictAll]
  · simp [trD, PyData.depth, PyData.depthAll]
  · have e := h1.short; have e2 := h2.short; have e3 := h3.short; have e4 := h4.short; have e5 := h5.short
    simp only [trD, PyData.leavesShort, PyData.leavesShortAll, Bool.and_true, Bool.true_and, Bool.and_eq_true] at *
    exact ⟨hw, ⟨e, e2, e3⟩, e4, e5⟩
  · have e := h1.wt; have e2 := h2.wt; have e3 := h3.wt; have e4 := h4.wt; have e5 := h5.wt
    simp only [trD, PyData.weight, PyData.weightAll] at *
    omega
theorem firm_shw : Shw firmD := .of (by decide +kernel) (by decide +kernel) (by decide +kernel) (by decide +kernel) (by decide +kernel)
theorem Tbl.sm {n : Nat} {g t : List (List Int)} (T : Tbl n g t) {a : Tr} (i3 : In3 n a) : (Sm a.1 ∧ Sm a.2.1 ∧ Sm a.2.2) ∧ (Sm (lw g t a).1 ∧ Sm (rw' g t a).1) ∧ Sm (lw g t a).2 ∧ Sm (rw' g t a).2 := by
  have k1 := T.j.kind i3.x i3.y
  have k2 := T.j.kind i3.y i3.z
  have k3 := T.j.kind k1 i3.z
  have k4 := T.j.kind i3.x k2
  obtain ⟨_, _, _, c1⟩ := T.t.at2 i3.x i3.y
  obtain ⟨_, _, _, c2⟩ := T.t.at2 k1 i3.z
  obtain ⟨_, _, _, c3⟩ := T.t.at2 i3.y i3.z
  obtain ⟨_, _, _, c4⟩ := T.t.at2 i3.x k2
  have h5 := T.h5
  have x := i3.x; have y := i3.y; have z := i3.z
  have B : BIG = 1000000000000 := rfl
  have p : (10 : Nat) ^ 13 = 10000000000000 := by decide
  rw [B] at c1 c2 c3 c4
  unfold Sm lw rw'
  dsimp only
  rw [p]
  refine ⟨⟨?_, ?_, ?_⟩, ⟨?_, ?_⟩, ?_, ?_⟩ <;> omega
theorem tri_in3 {n : Nat} {a : Tr} (h : a ∈ tri n) : In3 n a := by
  obtain ⟨x, y, z⟩ := a
  obtain ⟨h1, h2, h3⟩ := mem_tri h
  exact ⟨h1, h2, h3⟩
theorem stmt_cases (g t : List (List Int)) (n : Nat) : (∃ a ∈ tri n, bad0 g t a = true ∧ stmt g t n = says0 g t a) ∨ (∃ a ∈ tri n, (tri n).find? (bad0 g t) = none ∧ bad1 g t a = true ∧ stmt g t n = says1 g t a) ∨ stmt g t n = firmD := by
  cases h : (tri n).find? (bad0 g t) with
  | some a => exact .inl ⟨a, List.mem_of_find?_eq_some h, List.find?_some h, stmt_0 h⟩
  | none =>
    cases h1 : (tri n).find? (bad1 g t) with
    | some a => exact .inr (.inl ⟨a, List.mem_of_find?_eq_some h1, rfl, List.find?_some h1, stmt_1 h h1⟩)
    | none => exact .inr (.inr (stmt_2 h h1))
theorem stmt_shw {n : Nat} {g t : List (List Int)} (T : Tbl n g t) : Shw (stmt g t n) := by
  rcases stmt_cases g t n with ⟨a, ha, _, e⟩ | ⟨a, ha, _, _, e⟩ | e
  · obtain ⟨⟨s1, s2, s3⟩, ⟨s4, s5⟩, _⟩ := T.sm (tri_in3 ha)
    rw [e]; exact says_shw (by decide +kernel) (by decide +kernel) s1 s2 s3 s4 s5
  · obtain ⟨⟨s1, s2, s3⟩, _, s4, s5⟩ := T.sm (tri_in3 ha)
    rw [e]; exact says_shw (by decide +kernel) (by decide +kernel) s1 s2 s3 s4 s5
  · rw [e]; exact firm_shw
theorem stmt_eqv (g t : List (List Int)) (n : Nat) : PyData.eqv (stmt g t n) (stmt g t n) = true := SeqAt.eqv_refl _ (SeqAt.canLay_of_shaped (stmt_shaped g t n))
/-- cells behind the first -/
theorem cut_ints {ns : List Int} {lo hi : Option Int} : ∃ ms : List Int, cutV (ns.map V.int) lo hi = ms.map V.int ∧ ms.length ≤ ns.length := by
  refine ⟨(ns.drop (HT.sIx (ns.map V.int).length 0 lo)).take (HT.sIx (ns.map V.int).length (ns.map V.int).length hi - HT.sIx (ns.map V.int).length 0 lo), ?_, ?_⟩
  · unfold cutV; rw [List.map_take, List.map_drop]
  · rw [List.length_take, List.length_drop]; omega
/-- a table just made, then its parts laid into it -/
theorem made_same {H : Hp} {x dx : Addr} {a b : HO} (hx : H x = none) (hd : H dx = none) (n : dx ≠ x) : Same H (upd (upd H dx a) x b) := fun c o e => by
  rw [upd_ne (ne_of_none e hx), upd_ne (ne_of_none e hd)]; exact e

/-- a row of kinds in the list at r -/
structure RowAt (K : PySem.W.Frag) (H : Hp) (r : Addr) (n : Nat) (ks : List Int) : Prop where
  at_ : SqL K H r (ks.map V.int)
  in_ : ∀ k ∈ ks, 1 ≤ k ∧ k ≤ n
  l1 : 1 ≤ ks.length
  l2 : ks.length ≤ 1000
theorem RowAt.mono {K : PySem.W.Frag} {H H' : Hp} {r : Addr} {n : Nat} {ks : List Int} (x : RowAt K H r n ks) (s : Same H H') : RowAt K H' r n ks := ⟨s.seq x.at_, x.in_, x.l1, x.l2⟩
/-- joining from the left -/
def stp (g t : List (List Int)) (s : Int × Int) (x : Int) : Int × Int := (at2 g s.1 x, s.2 + at2 t s.1 x)
def tot (g t : List (List Int)) : List Int → Int × Int
  | [] => (0, 0)
  | k :: ks => ks.foldl (stp g t) (k, 0)
theorem ints_at {ns : List Int} {i : Nat} {x : V} (e : (ns.map V.int)[i]? = some x) : ∃ z, ns[i]? = some z ∧ x = .int z := by
  rw [List.getElem?_map] at e
  cases h : ns[i]? with
  | none => rw [h] at e; cases e
  | some z => rw [h] at e; exact ⟨z, rfl, (Option.some.inj e).symm⟩
theorem take_succ {α : Type} {l : List α} {i : Nat} {a : α} (e : l[i]? = some a) : l.take (i + 1) = l.take i ++ [a] := by
  rw [List.take_succ, e]; rfl
theorem cut_from {ns : List Int} {k : Nat} (h : k ≤ ns.length) : cutV (ns.map V.int) (some (k : Int)) none = (ns.drop k).map V.int := by
  unfold cutV
  rw [HT.sIx_nat, HT.sIx_none, List.length_map, Nat.min_eq_left h, List.map_drop, List.take_of_length_le]
  rw [List.length_drop, List.length_map]
  exact Nat.le_refl _
theorem cut_to {ns : List Int} {k : Nat} (h : k ≤ ns.length) : cutV (ns.map V.int) none (some (k : Int)) = (ns.take k).map V.int := by
  unfold cutV
  rw [HT.sIx_nat, HT.sIx_none, List.length_map, Nat.min_eq_left h, List.map_take, List.drop_zero, Nat.sub_zero]
theorem Tbl.stp {n : Nat} {g t : List (List Int)} (T : Tbl n g t) {s : Int × Int} {x : Int} (h : 1 ≤ s.1 ∧ s.1 ≤ n) (hx : 1 ≤ x ∧ x ≤ n) : 1 ≤ (J.stp g t s x).1 ∧ (J.stp g t s x).1 ≤ n := T.j.kind h hx
section
variable {P : Program} {w : World} {K : PySem.W.Frag} {mg : Str → Option Value} {base : Heap} {C : CA}
abbrev s_check_long_row : Stmt := topS 20
abbrev N_check_long_row : List Str := ["table", "row", "at", "kind"]
abbrev P_check_long_row : List Str := ["table", "row"]
theorem sc_check_long_row : FnScope N_check_long_row P_check_long_row (defScope s_check_long_row) := ⟨rfl, rfl, rfl, by decide +kernel, rfl, by decide +kernel, by decide +kernel⟩
def sp_check_long_row (K : PySem.W.Frag) (C : CA) : Sp := fun vs H Q _ => ∃ p r n g t ks, vs = [.ref p, .ref r] ∧ TableAt K C.table H p g t ∧ Tbl n g t ∧ RowAt K H r n ks ∧ ∀ H', Same H H' → Q .non H'
theorem ok_check_long_row {f : Addr} {fd : FuncData} (F : Fun K "check_long_row" "check_long_row" s_check_long_row f fd) (B : Bi mg) (T_Table : ClsT K mg "Table" C.table) (A_Table : ∀ f ∈ (["results", "prices"] : List Str), NoAttr K C.table f) (c_is_between : CalK P w K mg base CX0 "is_between" 2 P_is_between (sp_is_between K C)) (kb_is_between : KBinds K c_is_between.fd P_is_between ["low", "high"] g12 g12) (c_Table_count : MCal P w K mg base CX0 C.table "count" 1 P_Table_count (sp_Table_count K C)) : FnOk P w K mg base CX0 3 f fd P_check_long_row (sp_check_long_row K C) := by
  refine F.ok sc_check_long_row (fun vs H Q E h => ?_) (fun cdv A outer s H vs Q E hr h => ?_)
  · obtain ⟨p, r, n, g, t, ks, rfl, tb, T, row, q⟩ := h; rfl
  obtain ⟨p, r, n, g, t, ks, rfl, tb, T, row, q⟩ := h
  refine ⟨_, (pss_cons (ps_if (PW.pt (pw_or (pt_not (pt_val (pe_callB (id := "isinstance") call_isi (by rfl) B.n_isinstance (by decide +kernel) (pa_cons (pv 1) (pa_cons (pe_bltn (by rfl) B.n_list (by decide +kernel) (v := .ty "list") rfl) pa_nil))))) (pw_or1 (pt_not (pt_chain op_le op_le pe_int (pe_callB (id := "len") call_len (by rfl) B.n_len (by decide +kernel) (pa_cons (pv 1) pa_nil)) (pe_gint B.k_MOST_FIRM_ITEMS)))))) (pss_one ps_never) pss_nil)
      (pss_one (ps_for PassesOwn.never rfl (pi_enum (by rfl) B.n_enumerate (pa_cons (pv 1) pa_nil)) (pg_tup rfl (pgs_cons (pg_name (i := 2) sc_check_long_row.nd rfl (Or.inl rfl)) (pgs_cons (pg_name (i := 3) sc_check_long_row.nd rfl (Or.inl rfl)) pgs_nil))) (pss_one (ps_if (pt_not (pt_val (pe_callK c_is_between.ok (hr.mono (by decide)) (by rfl) c_is_between.g c_is_between.kp kb_is_between pass0 (pa_cons (pv 3) pa_nil) (pk_cons pe_int (pk_cons (pe_meth0 (pv 0) T_Table.cl c_Table_count.me c_Table_count.ok (hr.mono (by decide)) c_Table_count.b .nil pass0) pk_nil))))) (pss_one ps_never) pss_nil))))), ?_⟩
  have hx := row.at_
  have l1 := row.l1
  have l2 := row.l2
  have lx : (ks.map V.int).length = ks.length := List.length_map ..
  refine ⟨_, rfl, _, _, _, _, _, rfl, .ty _, ty_lst hx, kit_ty k_ll, _, rfl, iteF ?_⟩
  refine ⟨_, rfl, _, ks.length, rfl, .inl ⟨_, hx, lx.symm⟩, _, _, rfl, rfl, _, rfl, ?_⟩
  rw [decide_eq_true (show (1 : Int) ≤ ks.length by omega)]
  refine iteT ⟨_, _, rfl, rfl, _, rfl, ?_⟩
  rw [decide_eq_true (show (ks.length : Int) ≤ 1000 by omega)]
  refine iteF ?_
  refine ⟨_, rfl, r, _, rfl, hx, for_enum (xs := ks.map V.int) (fun i σ H' => ∃ v1 v2, σ = [some (.ref p), some (.ref r), v1, v2] ∧ Same H H') ⟨_, _, rfl, .refl _⟩ (fun i σ H' _ ⟨_, _, _, s⟩ => s.seq hx) ?_ fun σ H' ⟨_, _, _, s⟩ => q H' s⟩
  rintro i x σ H1 U hi ⟨v1, v2, rfl, s1⟩ nU
  obtain ⟨z, ez, rfl⟩ := ints_at hi
  have s2 := s1.trans (new_same (o := .tup [.int (i : Nat), .int z]) nU)
  have tb2 := tb.mono s2
  obtain ⟨dx, ra, rb, hp, _⟩ := id tb2
  refine ⟨U, _, rfl, .of upd_same, rfl, _, _, rfl, _, _, rfl, rfl, ?_⟩
  refine ⟨_, rfl, _, rfl, p, dx, _, rfl, hp, fT_no _ _ (by decide +kernel) (by decide +kernel), p, n, g, t, rfl, tb2, T, _, 1, n, rfl, .int z, ?_⟩
  rw [betw_int (row.in_ z (List.mem_of_getElem? ez))]
  exact ⟨_, rfl, iteF ⟨_, _, rfl, s2⟩⟩
abbrev s_total : Stmt := topS 21
abbrev N_total : List Str := ["table", "row", "found", "right", "kind", "tolls"]
abbrev P_total : List Str := ["table", "row"]
theorem sc_total : FnScope N_total P_total (defScope s_total) := ⟨rfl, rfl, rfl, by decide +kernel, rfl, by decide +kernel, by decide +kernel⟩
def sp_total (K : PySem.W.Frag) (C : CA) : Sp := fun vs H Q _ => ∃ p r n g t ks M, vs = [.ref p, .ref r] ∧ TableAt K C.table (hid M H) p g t ∧ Tbl n g t ∧ RowAt K (hid M H) r n ks ∧ stmt g t n = firmD ∧ Al M H ∧
  ∀ q H', Same H H' → Al M H' → Dp K (hid M H') (.ref q) (.tuple [.int (tot g t ks).1, .int (tot g t ks).2]) → Q (.ref q) H'
theorem ok_total {f : Addr} {fd : FuncData} (F : Fun K "total" "total" s_total f fd) (B : Bi mg) (T_Table : ClsT K mg "Table" C.table) (A_Table : ∀ f ∈ (["results", "prices"] : List Str), NoAttr K C.table f) (c_check_long_row : Cal P w K mg base CX0 "check_long_row" 3 P_check_long_row (sp_check_long_row K C)) (c_three : Cal P w K mg base CX0 "three" 6 P_three (sp_three K C)) (c_Table_toll : MCal P w K mg base CX0 C.table "toll" 4 P_Table_toll (sp_Table_toll K C)) (c_Table_join : MCal P w K mg base CX0 C.table "join" 4 P_Table_join (sp_Table_join K C)) : FnOk P w K mg base CX0 7 f fd P_total (sp_total K C) := by
  refine F.ok sc_total (fun vs H Q E h => ?_) (fun cdv A outer s H vs Q E hr h => ?_)
  · obtain ⟨p, r, n, g, t, ks, M, rfl, tb, T, row, fi, al, q⟩ := h; rfl
  obtain ⟨p, r, n, g, t, ks, M, rfl, tb, T, row, fi, al, q⟩ := h
  refine ⟨_, (pss_cons (ps_expr (pe_call c_check_long_row.ok (hr.mono (by decide)) (by rfl) c_check_long_row.g c_check_long_row.kp c_check_long_row.b .nil pass0 (pa_cons (pv 0) (pa_cons (pv 1) pa_nil))))
      (pss_cons (ps_set (i := 2) sc_total.nd rfl (Or.inl rfl) (pe_call c_three.ok (hr.mono (by decide)) (by rfl) c_three.g c_three.kp c_three.b .nil pass0 (pa_cons (pv 0) pa_nil)))
      (pss_cons (ps_if (pt_cmpR (op_neD hr.units) (pv 2) (pe_tup (pa_cons pe_str pa_nil)) (nomark _)) (pss_one ps_never) pss_nil)
      (pss_cons (ps_par (i := 4) (j := 5) rfl sc_total.nd rfl rfl (by decide) rfl rfl (pa_cons (pe_ix ix_list (pv 1) pe_int (fun _ _ => rfl)) (pa_cons pe_int pa_nil)) (by rfl))
      (pss_cons (ps_for PassesOwn.never rfl (pi_list (pe_slice sl_list (pv 1) (po_some pe_int) po_none)) (pg_name (i := 3) sc_total.nd rfl (Or.inl rfl)) (pss_cons (ps_aug (i := 5) sc_total.nd rfl (Or.inl rfl) (pe_meth (pv 0) T_Table.cl c_Table_toll.me c_Table_toll.ok (hr.mono (by decide)) c_Table_toll.b .nil pass0 (pa_cons (pv 4) (pa_cons (pv 3) pa_nil))) ip_add)
      (pss_one (ps_set (i := 4) sc_total.nd rfl (Or.inl rfl) (pe_meth (pv 0) T_Table.cl c_Table_join.me c_Table_join.ok (hr.mono (by decide)) c_Table_join.b .nil pass0 (pa_cons (pv 4) (pa_cons (pv 3) pa_nil)))))))
      (pss_one (ps_ret (pe_tup (pa_cons (pv 4) (pa_cons (pv 5) pa_nil)))))))))), ?_⟩
  refine ⟨_, rfl, _, rfl, p, r, n, g, t, ks, rfl, tb.mono hid_le, T, row.mono hid_le, fun H1 s1 => ?_⟩
  refine ⟨_, rfl, p, n, g, t, M, rfl, tb.mono s1.hid, T, al.mono s1, fun R H2 s2 al2 d2 => ?_⟩
  rw [fi] at d2
  refine ⟨_, rfl, sz1, fun U nU => ?_⟩
  obtain ⟨s3, al3, d3⟩ := new_tup (K := K) al2 (.cons (.str "firm") .nil) nU
  refine ⟨firmD, firmD, (d2.mono s3.hid).mono hid_le, d3.mono hid_le, by decide +kernel, by decide +kernel, _, rfl, ?_⟩
  rw [firm_self]
  refine iteF ?_
  generalize upd H2 U (.tup [.str "firm"]) = H3 at s3 al3 d3 ⊢
  have s03 := (s1.trans s2).trans s3
  have row3 := row.mono s03.hid
  obtain ⟨k0, rest, rfl⟩ : ∃ k0 rest, ks = k0 :: rest := by
    cases ks with
    | nil => exact absurd row.l1 (by decide)
    | cons a b => exact ⟨a, b, rfl⟩
  have hx3 := row3.at_.mono hid_le
  refine ⟨_, rfl, r, _, 0, _, rfl, rfl, hx3, atI_nat (j := 0) rfl, _, _, rfl, ?_⟩
  have fr : cutV ((k0 :: rest).map V.int) (some 1) none = rest.map V.int := cut_from (ns := k0 :: rest) (k := 1) (by show 1 ≤ rest.length + 1; omega)
  refine ⟨_, rfl, _, rfl, r, _, rfl, hx3, fun Z nZ => ?_⟩
  rw [fr]
  have s4 := new_same (o := .lst (rest.map V.int)) nZ
  have eZ : SqL K (upd H3 Z (.lst (rest.map V.int))) Z (rest.map V.int) := .of upd_same
  generalize upd H3 Z (.lst (rest.map V.int)) = H4 at s4 eZ ⊢
  have s04 := s03.trans s4
  have tb4 := (tb.mono s04.hid).mono hid_le
  obtain ⟨dx, ra, rb, hp, _⟩ := id tb4
  have nj : (fT ra rb).lookup ("join" : Str) = none := fT_no _ _ (by decide +kernel) (by decide +kernel)
  have nt : (fT ra rb).lookup ("toll" : Str) = none := fT_no _ _ (by decide +kernel) (by decide +kernel)
  have hk0 := row.in_ k0 (List.mem_cons_self ..)
  refine ⟨Z, rfl, ⟨_, eZ⟩, for_list (xs := rest.map V.int) (fun i σ H' => ∃ v3, H' = H4 ∧ σ = [some (.ref p), some (.ref r), some (.ref R), v3, some (.int ((rest.take i).foldl (stp g t) (k0, 0)).1), some (.int ((rest.take i).foldl (stp g t) (k0, 0)).2)] ∧ 1 ≤ ((rest.take i).foldl (stp g t) (k0, 0)).1 ∧ ((rest.take i).foldl (stp g t) (k0, 0)).1 ≤ n) ⟨_, rfl, rfl, hk0⟩ (fun i σ H' _ ⟨_, e, _⟩ => by rw [e]; exact eZ) ?_ ?_⟩
  · rintro i x σ H5 hi ⟨v3, rfl, rfl, hk⟩
    obtain ⟨z, ez, rfl⟩ := ints_at hi
    have hz := row.in_ z (List.mem_cons_of_mem _ (List.mem_of_getElem? ez))
    have en : (rest.take (i + 1)).foldl (stp g t) (k0, 0) = stp g t ((rest.take i).foldl (stp g t) (k0, 0)) z := by rw [take_succ ez, List.foldl_append]; rfl
    rw [en]
    generalize (rest.take i).foldl (stp g t) (k0, 0) = st at hk ⊢
    refine ⟨_, rfl, _, rfl, p, dx, _, rfl, hp, nt, _, rfl, _, rfl, p, n, g, t, st.1, z, rfl, tb4, T, hk, hz, _, _, rfl, rfl, ?_⟩
    refine ⟨_, rfl, p, dx, _, rfl, hp, nj, _, rfl, _, rfl, p, n, g, t, st.1, z, rfl, tb4, T, hk, hz, ?_⟩
    exact ⟨_, rfl, rfl, T.stp hk hz⟩
  · rintro σ H5 ⟨v3, rfl, rfl, hk⟩
    rw [List.length_map, List.take_length]
    refine ⟨_, rfl, _, rfl, sz2, fun Y nY => ?_⟩
    obtain ⟨s5, al5, d5⟩ := new_tup (K := K) (M := M) (al.mono s04) (.cons (.int (rest.foldl (stp g t) (k0, 0)).1) (.cons (.int (rest.foldl (stp g t) (k0, 0)).2) .nil)) nY
    exact q Y _ (s04.trans s5) al5 d5
end

/-! a source of draws: three numbers in a list -/
structure Src (H : Hp) (p : Addr) (c : Int) : Prop where
  at_ : ∃ a b, H p = some (.lst [.int a, .int b, .int c]) ∧ 0 ≤ b ∧ b < 2147483648 ∧ 0 ≤ c
theorem Src.keep {H H' : Hp} {p : Addr} {c : Int} (x : Src H p c) (s : Same H H') : Src H' p c := by
  obtain ⟨a, b, h, r⟩ := x.at_
  exact ⟨a, b, s _ _ h, r⟩
theorem Src.but {H H' : Hp} {p q : Addr} {c : Int} (x : Src H p c) (s : But q H H') (n : p ≠ q) : Src H' p c := by
  obtain ⟨a, b, h, r⟩ := x.at_
  exact ⟨a, b, s _ _ n h, r⟩
theorem Src.some {H : Hp} {p : Addr} {c : Int} (x : Src H p c) : ∃ o, H p = some o := let ⟨_, _, h, _⟩ := x.at_; ⟨_, h⟩
theorem Al.src {M : List Addr} {H H' : Hp} {p : Addr} {c : Int} (x : Al M H) (y : But p H H') (s : Src H' p c) : Al M H' := by
  obtain ⟨_, _, h, _⟩ := s.at_
  exact x.but y h
section
variable {P : Program} {w : World} {K : PySem.W.Frag} {mg : Str → Option Value} {base : Heap} {C : CA}
abbrev s_Lcell_at : Stmt := topS 23
abbrev N_Lcell_at : List Str := ["_law_script", "_law_k"]
abbrev P_Lcell_at : List Str := ["_law_script", "_law_k"]
theorem sc_Lcell_at : FnScope N_Lcell_at P_Lcell_at (defScope s_Lcell_at) := ⟨rfl, rfl, rfl, by decide +kernel, rfl, by decide +kernel, by decide +kernel⟩
def sp_Lcell_at (K : PySem.W.Frag) (_ : CA) : Sp := fun vs H Q _ => ∃ (a : Addr) (ns : List Int), vs = [.ref a, .int 0] ∧ SqL K H a (ns.map V.int) ∧ ns.length ≤ 63 ∧ ∀ z, Q (.int z) H
theorem ok_Lcell_at {f : Addr} {fd : FuncData} (F : Fun K "_law_cell_at" "_law_cell_at" s_Lcell_at f fd) (B : Bi mg) (T_Table : ClsT K mg "Table" C.table) (A_Table : ∀ f ∈ (["results", "prices"] : List Str), NoAttr K C.table f) : FnOk P w K mg base CX0 1 f fd P_Lcell_at (sp_Lcell_at K C) := by
  refine F.ok sc_Lcell_at (fun vs H Q E h => ?_) (fun cdv A outer s H vs Q E hr h => ?_)
  · obtain ⟨a, ns, rfl, hx, hl, q⟩ := h; rfl
  obtain ⟨a, ns, rfl, hx, hl, q⟩ := h
  refine ⟨_, (pss_cons (ps_if (pt_cmpR op_lt (pv 1) (pe_callB (id := "len") call_len (by rfl) B.n_len (by decide +kernel) (pa_cons (pv 0) pa_nil)) (nomark _)) (pss_one (ps_ret (pe_ix ix_list (pv 0) (pv 1) (fun _ _ => rfl)))) pss_nil)
      (pss_one (ps_ret pe_int))), ?_⟩
  refine ⟨_, rfl, _, rfl, _, _, rfl, .inl ⟨_, hx, rfl⟩, _, _, rfl, rfl, _, rfl, ?_⟩
  refine ite2 (fun h => ?_) fun _ => q 0
  have h0 : 0 < ns.length := by have := of_decide_eq_true h; rw [List.length_map] at this; omega
  exact ⟨_, rfl, _, rfl, a, _, _, .int ns[0], rfl, rfl, hx, atI_nat (j := 0) (by rw [List.getElem?_map, List.getElem?_eq_getElem h0]; rfl), q _⟩
abbrev s_Lsource : Stmt := topS 24
abbrev N_Lsource : List Str := ["_law_cell"]
abbrev P_Lsource : List Str := ["_law_cell"]
theorem sc_Lsource : FnScope N_Lsource P_Lsource (defScope s_Lsource) := ⟨rfl, rfl, rfl, by decide +kernel, rfl, by decide +kernel, by decide +kernel⟩
def sp_Lsource (K : PySem.W.Frag) (_ : CA) : Sp := fun vs H Q _ => ∃ z, vs = [.int z] ∧ ∀ p H', H p = none → Same H H' → Src H' p 0 → Q (.ref p) H'
theorem ok_Lsource {f : Addr} {fd : FuncData} (F : Fun K "_law_source" "_law_source" s_Lsource f fd) (B : Bi mg) (T_Table : ClsT K mg "Table" C.table) (A_Table : ∀ f ∈ (["results", "prices"] : List Str), NoAttr K C.table f) : FnOk P w K mg base CX0 1 f fd P_Lsource (sp_Lsource K C) := by
  refine F.ok sc_Lsource (fun vs H Q E h => ?_) (fun cdv A outer s H vs Q E hr h => ?_)
  · obtain ⟨z, rfl, q⟩ := h; rfl
  obtain ⟨z, rfl, q⟩ := h
  refine ⟨_, (pss_one (ps_ret (pe_lst (pa_cons (pe_op op_mul (pv 0) (pe_callTy (T := "int") call_int1 (by rfl) B.n_int (by decide +kernel) (pa_cons (pe_cmpR op_ge (pv 0) (pe_op op_pow pe_int pe_int) (nomark _)) pa_nil))) (pa_cons (pe_op op_mod (pv 0) pe_int) (pa_cons pe_int pa_nil)))))), ?_⟩
  refine ⟨_, rfl, _, rfl, _, _, rfl, rfl, ⟨by decide, by decide, by decide⟩, _, _, rfl, rfl, .inr ⟨_, rfl, ?_⟩⟩
  refine ⟨_, _, rfl, rfl, .inr ?_, _, rfl, _, _, rfl, rfl, by show (0 : Int) < 2147483647; decide, sz3, fun p np => ?_⟩
  · split <;> decide
  · refine q p _ np (new_same np) ⟨_, _, upd_same, ?_⟩
    have h1 := Int.emod_nonneg z (show (2147483647 : Int) ≠ 0 by decide)
    have h2 := Int.emod_lt_of_pos z (show (0 : Int) < 2147483647 by decide)
    exact ⟨h1, by omega, by decide⟩
abbrev s_Ldraw : Stmt := topS 25
abbrev N_Ldraw : List Str := ["_law_source_here", "_law_size", "_law_number", "_law_digit"]
abbrev P_Ldraw : List Str := ["_law_source_here", "_law_size"]
theorem sc_Ldraw : FnScope N_Ldraw P_Ldraw (defScope s_Ldraw) := ⟨rfl, rfl, rfl, by decide +kernel, rfl, by decide +kernel, by decide +kernel⟩
def sp_Ldraw (K : PySem.W.Frag) (_ : CA) : Sp := fun vs H Q _ => ∃ p n c, vs = [.ref p, .int n] ∧ Src H p c ∧ c ≤ 1000000000 ∧ 1 ≤ n ∧ n ≤ 1000000000000 ∧ ∀ d H' c', 0 ≤ d → d < n → But p H H' → Src H' p c' → c ≤ c' → c' ≤ c + 1 → Q (.int d) H'
theorem ok_Ldraw {f : Addr} {fd : FuncData} (F : Fun K "_law_draw" "_law_draw" s_Ldraw f fd) (B : Bi mg) (T_Table : ClsT K mg "Table" C.table) (A_Table : ∀ f ∈ (["results", "prices"] : List Str), NoAttr K C.table f) : FnOk P w K mg base CX0 1 f fd P_Ldraw (sp_Ldraw K C) := by
  refine F.ok sc_Ldraw (fun vs H Q E h => ?_) (fun cdv A outer s H vs Q E hr h => ?_)
  · obtain ⟨p, n, c, rfl, ⟨a, b, hp, hb0, hb1, hc0⟩, hc, hn, hn2, q⟩ := h; rfl
  obtain ⟨p, n, c, rfl, ⟨a, b, hp, hb0, hb1, hc0⟩, hc, hn, hn2, q⟩ := h
  refine ⟨_, (pss_cons (ps_if (pt_cmpR op_gt (pe_ix ix_list (pv 0) pe_int (fun _ _ => rfl)) pe_int (nomark _)) (pss_cons (ps_set (i := 3) sc_Ldraw.nd rfl (Or.inl rfl) (pe_op op_mod (pe_ix ix_list (pv 0) pe_int (fun _ _ => rfl)) (pv 1)))
      (pss_cons (ps_asg (pe_op op_fdivW (pe_ix ix_list (pv 0) pe_int (fun _ _ => rfl)) (pv 1)) (pg_sub (pv 0) pe_int set_list))
      (pss_one (ps_ret (pv 3))))) pss_nil)
      (pss_cons (ps_asg (pe_op op_add (pe_ix ix_list (pv 0) pe_int (fun _ _ => rfl)) pe_int) (pg_sub (pv 0) pe_int set_list))
      (pss_cons (ps_set (i := 2) sc_Ldraw.nd rfl (Or.inl rfl) (pe_op op_mod (pe_op op_pow (pe_op op_add (pe_op op_add (pe_ix ix_list (pv 0) pe_int (fun _ _ => rfl)) (pe_op op_mul pe_int (pe_ix ix_list (pv 0) pe_int (fun _ _ => rfl)))) pe_int) pe_int) pe_int))
      (pss_cons (ps_set (i := 2) sc_Ldraw.nd rfl (Or.inl rfl) (pe_op op_mod (pe_op op_mul (pv 2) (pe_op op_add (pe_op op_add (pe_op op_fdiv (pv 2) pe_int) pe_int) (pe_ix ix_list (pv 0) pe_int (fun _ _ => rfl)))) pe_int))
      (pss_one (ps_ret (pe_op op_mod (pe_op op_fdiv (pe_op op_mod (pe_op op_mul (pv 2) (pe_op op_add (pe_op op_fdiv (pv 2) pe_int) pe_int)) pe_int) pe_int) (pv 1)))))))), ?_⟩
  have hx : SqL K H p [.int a, .int b, .int c] := .of hp
  refine ⟨_, rfl, p, _, _, _, rfl, rfl, hx, atI_nat (j := 0) rfl, _, _, rfl, rfl, _, rfl, ?_⟩
  refine ite2 (fun h => ?_) fun _ => ?_
  · refine ⟨_, rfl, p, _, _, _, rfl, rfl, hx, atI_nat (j := 0) rfl, _, rfl, _, _, rfl, rfl, by show (0 : Int) < n; omega, ?_⟩
    refine ⟨_, rfl, p, _, _, _, rfl, rfl, hx, atI_nat (j := 0) rfl, _, rfl, _, _, rfl, rfl, wide_div (b := 50) (by omega) (by omega) (by decide) (by decide), ?_⟩
    refine ⟨_, rfl, p, _, _, 0, rfl, rfl, hp, rfl, _, rfl, ?_⟩
    exact q _ _ c (Int.emod_nonneg _ (by omega)) (Int.emod_lt_of_pos _ (by omega)) But.upd ⟨_, b, upd_same, hb0, hb1, hc0⟩ (Int.le_refl _) (by omega)
  · refine ⟨_, rfl, p, _, _, _, rfl, rfl, hx, atI_nat (j := 2) rfl, _, _, rfl, rfl, _, rfl, p, _, _, 2, rfl, rfl, hp, rfl, ?_⟩
    have hp2 : (upd H p (.lst ([V.int a, .int b, .int c].set 2 (.int (c + 1))))) p = some (.lst [.int a, .int b, .int (c + 1)]) := upd_same
    have but : But p H (upd H p (.lst ([V.int a, .int b, .int c].set 2 (.int (c + 1))))) := But.upd
    generalize upd H p (.lst ([V.int a, .int b, .int c].set 2 (.int (c + 1)))) = H1 at hp2 but ⊢
    have hx2 : SqL K H1 p [.int a, .int b, .int (c + 1)] := .of hp2
    refine ⟨_, rfl, p, _, _, _, rfl, rfl, hx2, atI_nat (j := 1) rfl, _, rfl, p, _, _, _, rfl, rfl, hx2, atI_nat (j := 2) rfl, _, _, rfl, rfl, .inl ⟨by decide, by decide⟩, _, _, rfl, rfl, _, _, rfl, rfl, _, _, rfl, rfl, ⟨by decide, by decide, ?_⟩, _, _, rfl, rfl, by show (0 : Int) < 2147483629; decide, ?_⟩
    · have : b + 7919 * (c + 1) + 1 < 2 ^ 64 := by omega
      omega
    generalize hm : (b + 7919 * (c + 1) + 1) ^ (Int.toNat 5) % 2147483629 = m
    have hm0 : 0 ≤ m := by rw [← hm]; exact Int.emod_nonneg _ (by decide)
    have hm1 : m < 2147483629 := by rw [← hm]; exact Int.emod_lt_of_pos _ (by decide)
    refine ⟨_, rfl, _, rfl, _, _, rfl, rfl, ⟨by decide, by decide⟩, _, _, rfl, rfl, _, rfl, p, _, _, _, rfl, rfl, hx2, atI_nat (j := 2) rfl, _, _, rfl, rfl, _, _, rfl, rfl, .inl ⟨by omega, by omega⟩, _, _, rfl, rfl, by show (0 : Int) < 2147483587; decide, ?_⟩
    generalize hk : m * (m / 1009 + 69621 + (c + 1)) % 2147483587 = k
    have hk0 : 0 ≤ k := by rw [← hk]; exact Int.emod_nonneg _ (by decide)
    have hk1 : k < 2147483587 := by rw [← hk]; exact Int.emod_lt_of_pos _ (by decide)
    refine ⟨_, rfl, _, rfl, _, _, rfl, rfl, ⟨by decide, by decide⟩, _, _, rfl, rfl, _, _, rfl, rfl, .inl ⟨by omega, by omega⟩, _, _, rfl, rfl, by show (0 : Int) < 2147483579; decide, _, _, rfl, rfl, ⟨by decide, by decide⟩, _, rfl, _, _, rfl, rfl, by show (0 : Int) < n; omega, ?_⟩
    exact q _ _ (c + 1) (Int.emod_nonneg _ (by omega)) (Int.emod_lt_of_pos _ (by omega)) but ⟨a, b, hp2, hb0, hb1, by omega⟩ (by omega) (by omega)
abbrev s_Lpick : Stmt := topS 26
abbrev N_Lpick : List Str := ["_law_source_here", "_law_items"]
abbrev P_Lpick : List Str := ["_law_source_here", "_law_items"]
theorem sc_Lpick : FnScope N_Lpick P_Lpick (defScope s_Lpick) := ⟨rfl, rfl, rfl, by decide +kernel, rfl, by decide +kernel, by decide +kernel⟩
def sp_Lpick (K : PySem.W.Frag) (_ : CA) : Sp := fun vs H Q _ => ∃ (p r : Addr) (items : List V) (c : Int) (M : List Addr), vs = [.ref p, .ref r] ∧ Src H p c ∧ c ≤ 1000000000 ∧ p ∈ M ∧ SqL K (hid M H) r items ∧ 1 ≤ items.length ∧ items.length ≤ 1000 ∧
  ∀ (i : Nat) x H' c', items[i]? = some x → But p H H' → Src H' p c' → c ≤ c' → c' ≤ c + 1 → Q x H'
theorem ok_Lpick {f : Addr} {fd : FuncData} (F : Fun K "_law_pick" "_law_pick" s_Lpick f fd) (B : Bi mg) (T_Table : ClsT K mg "Table" C.table) (A_Table : ∀ f ∈ (["results", "prices"] : List Str), NoAttr K C.table f) (c_Ldraw : Cal P w K mg base CX0 "_law_draw" 1 P_Ldraw (sp_Ldraw K C)) : FnOk P w K mg base CX0 2 f fd P_Lpick (sp_Lpick K C) := by
  refine F.ok sc_Lpick (fun vs H Q E h => ?_) (fun cdv A outer s H vs Q E hr h => ?_)
  · obtain ⟨p, r, items, c, M, rfl, sr, hc, pM, hx, h1, h2, q⟩ := h; rfl
  obtain ⟨p, r, items, c, M, rfl, sr, hc, pM, hx, h1, h2, q⟩ := h
  refine ⟨_, (pss_one (ps_ret (pe_ix ix_list (pv 1) (pe_call c_Ldraw.ok (hr.mono (by decide)) (by rfl) c_Ldraw.g c_Ldraw.kp c_Ldraw.b .nil pass0 (pa_cons (pv 0) (pa_cons (pe_callB (id := "len") call_len (by rfl) B.n_len (by decide +kernel) (pa_cons (pv 1) pa_nil)) pa_nil))) (fun _ _ => rfl)))), ?_⟩
  refine ⟨_, rfl, _, rfl, _, rfl, _, _, rfl, .inl ⟨_, hx.mono hid_le, rfl⟩, p, _, c, rfl, sr, hc, by omega, by omega, fun d H' c' hd0 hd1 but s' l1 l2 => ?_⟩
  obtain ⟨i, rfl⟩ : ∃ i : Nat, d = i := ⟨d.toNat, by omega⟩
  have lt : i < items.length := by omega
  exact ⟨r, items, _, items[i], rfl, rfl, (hx.mono (but.hid pM)).mono hid_le, atI_nat (List.getElem?_eq_getElem lt), q i _ H' c' (List.getElem?_eq_getElem lt) but s' l1 l2⟩
end

/-- the list at D is being filled, draws are made of p -/
structure FillB (K : PySem.W.Frag) (p : Addr) (M : List Addr) (H1 : Hp) (D : Addr) (ds : List PyData) (H : Hp) : Prop where
  but : But p H1 H
  keep : Same (hid M H1) (hid (D :: M) H)
  al : Al (D :: M) H
  has : ∃ ys, H D = some (.lst ys) ∧ DpAll K (hid (D :: M) H) ys ds
theorem FillB.start {K : PySem.W.Frag} {p : Addr} {M : List Addr} {H1 : Hp} {D : Addr} (al : Al M H1) (nD : H1 D = none) : FillB K p M H1 D [] (upd H1 D (.lst [])) := by
  have f := Fill.start (K := K) al nD
  exact ⟨But.same f.same, f.keep, f.al, f.has⟩
/-- behind steps that draw of p and leave the rest -/
theorem FillB.go {K : PySem.W.Frag} {p : Addr} {M : List Addr} {H1 H H4 : Hp} {D : Addr} {ds : List PyData} (x : FillB K p M H1 D ds H) (s : But p H H4) (pM : p ∈ M) (nD : D ≠ p) (al : Al (D :: M) H4) : FillB K p M H1 D ds H4 := by
  obtain ⟨ys, h1, h2⟩ := x.has
  have sh : Same (hid (D :: M) H) (hid (D :: M) H4) := s.hid (List.mem_cons_of_mem _ pM)
  exact ⟨x.but.trans s, x.keep.trans sh, al, ys, s _ _ nD h1, h2.mono sh⟩
theorem FillB.app {K : PySem.W.Frag} {p : Addr} {M : List Addr} {H1 : Hp} {D : Addr} {ds : List PyData} {H : Hp} (nD : H1 D = none) (x : FillB K p M H1 D ds H) {y : V} {d : PyData} (hd : Dp K (hid (D :: M) H) y d) (hl : ds.length < sizeLine) :
    ∃ acc, H D = some (.lst acc) ∧ acc.length < sizeLine ∧ FillB K p M H1 D (ds ++ [d]) (upd H D (.lst (acc ++ [y]))) := by
  obtain ⟨ys, h1, h2⟩ := x.has
  have e : hid (D :: M) (upd H D (.lst (ys ++ [y]))) = hid (D :: M) H := hid_write (List.mem_cons_self ..)
  refine ⟨ys, h1, by rw [dpAll_length h2]; exact hl, fun b o n q => ?_, by rw [e]; exact x.keep, x.al.upd, ys ++ [y], upd_same, by rw [e]; exact dpAll_append h2 (.cons hd .nil)⟩
  rw [upd_ne (ne_of_none q nD)]
  exact x.but _ _ n q
theorem FillB.done {K : PySem.W.Frag} {p : Addr} {M : List Addr} {H1 : Hp} {D : Addr} {ds : List PyData} {H : Hp} (al : Al M H1) (nD : H1 D = none) (x : FillB K p M H1 D ds H) : Al M H ∧ Dp K (hid M H) (.ref D) (.list ds) := by
  obtain ⟨ys, h1, h2⟩ := x.has
  exact ⟨x.al.tail, .lst (.of (by rw [hid_out (al.new nD)]; exact h1)) (h2.mono hid_drop)⟩
def rowD (r : List Int) : PyData := .list (r.map .int)
theorem gD_def (g : List (List Int)) : gD g = .list (g.map rowD) := rfl
section
variable {P : Program} {w : World} {K : PySem.W.Frag} {mg : Str → Option Value} {base : Heap} {C : CA}
abbrev s_Ljoins : Stmt := topS 27
abbrev N_Ljoins : List Str := ["_law_source_here", "_law_size", "_law_choice", "_law_found", "_law_x", "_law_line", "_law_y", "_law_some"]
abbrev P_Ljoins : List Str := ["_law_source_here", "_law_size"]
theorem sc_Ljoins : FnScope N_Ljoins P_Ljoins (defScope s_Ljoins) := ⟨rfl, rfl, rfl, by decide +kernel, rfl, by decide +kernel, by decide +kernel⟩
def sp_Ljoins (K : PySem.W.Frag) (_ : CA) : Sp := fun vs H Q _ => ∃ (p : Addr) (n : Nat) (c : Int) (M : List Addr), vs = [.ref p, .int n] ∧ 1 ≤ n ∧ n ≤ 5 ∧ Src H p c ∧ c ≤ 100000000 ∧ p ∈ M ∧ Al M H ∧
  ∀ q H' c' g, But p H H' → Src H' p c' → c ≤ c' → c' ≤ c + 26 → Al M H' → Dp K (hid M H') (.ref q) (gD g) → Sq n g 1 n → Q (.ref q) H'
theorem mod_kind {x y n : Int} (h : 1 ≤ n) : 1 ≤ (x + y - 2) % n + 1 ∧ (x + y - 2) % n + 1 ≤ n := by
  have h1 := Int.emod_nonneg (x + y - 2) (show n ≠ 0 by omega)
  have h2 := Int.emod_lt_of_pos (x + y - 2) (show 0 < n by omega)
  omega
theorem ok_Ljoins {f : Addr} {fd : FuncData} (F : Fun K "_law_joins" "_law_joins" s_Ljoins f fd) (B : Bi mg) (T_Table : ClsT K mg "Table" C.table) (A_Table : ∀ f ∈ (["results", "prices"] : List Str), NoAttr K C.table f) (c_Ldraw : Cal P w K mg base CX0 "_law_draw" 1 P_Ldraw (sp_Ldraw K C)) : FnOk P w K mg base CX0 2 f fd P_Ljoins (sp_Ljoins K C) := by
  refine F.ok sc_Ljoins (fun vs H Q E h => ?_) (fun cdv A outer s H vs Q E hr h => ?_)
  · obtain ⟨p, n, c, M, rfl, h1, h5, sr, hc, pM, al, q⟩ := h; rfl
  obtain ⟨p, n, c, M, rfl, h1, h5, sr, hc, pM, al, q⟩ := h
  refine ⟨_, (pss_cons (ps_set (i := 2) sc_Ljoins.nd rfl (Or.inl rfl) (pe_call c_Ldraw.ok (hr.mono (by decide)) (by rfl) c_Ldraw.g c_Ldraw.kp c_Ldraw.b .nil pass0 (pa_cons (pv 0) (pa_cons pe_int pa_nil))))
      (pss_cons (ps_set (i := 3) sc_Ljoins.nd rfl (Or.inl rfl) (pe_lst pa_nil))
      (pss_cons (ps_for PassesOwn.never rfl (pi_range2 (by rfl) B.n_range (pa_cons pe_int (pa_cons (pe_op op_add (pv 1) pe_int) pa_nil))) (pg_name (i := 4) sc_Ljoins.nd rfl (Or.inl rfl)) (pss_cons (ps_set (i := 5) sc_Ljoins.nd rfl (Or.inl rfl) (pe_lst pa_nil))
      (pss_cons (ps_for PassesOwn.never rfl (pi_range2 (by rfl) B.n_range (pa_cons pe_int (pa_cons (pe_op op_add (pv 1) pe_int) pa_nil))) (pg_name (i := 6) sc_Ljoins.nd rfl (Or.inl rfl)) (pss_cons (ps_set (i := 7) sc_Ljoins.nd rfl (Or.inl rfl) (pe_lst (pa_cons pe_int (pa_cons (pv 4) (pa_cons (pv 6) (pa_cons (pe_callB (id := "max") (call_max2 rfl) (by rfl) B.n_max (by decide +kernel) (pa_cons (pv 4) (pa_cons (pv 6) pa_nil))) (pa_cons (pe_callB (id := "min") (call_min2 rfl) (by rfl) B.n_min (by decide +kernel) (pa_cons (pv 4) (pa_cons (pv 6) pa_nil))) pa_nil)))))))
      (pss_cons (ps_set (i := 7) sc_Ljoins.nd rfl (Or.inl rfl) (pe_op op_cat (pv 7) (pe_lst (pa_cons (pe_op op_add (pe_op op_mod (pe_op op_sub (pe_op op_add (pv 4) (pv 6)) pe_int) (pv 1)) pe_int) (pa_cons (pe_ix ix_list (pe_lst (pa_cons (pv 4) (pa_cons (pv 6) pa_nil))) (pe_callTy (T := "int") call_int1 (by rfl) B.n_int (by decide +kernel) (pa_cons (pe_cmpR op_eq (pv 4) pe_int (nomark _)) pa_nil)) (fun _ _ => rfl)) pa_nil)))))
      (pss_one (ps_expr (pe_bm PySem.F.plainAttrs_list PySem.F.slot_list_append PySem.F.type_list_append mt_append (pv 5) (pa_cons (pe_ix ix_list (pe_op op_cat (pv 7) (pe_lst (pa_cons (pe_op op_add pe_int (pe_call c_Ldraw.ok (hr.mono (by decide)) (by rfl) c_Ldraw.g c_Ldraw.kp c_Ldraw.b .nil pass0 (pa_cons (pv 0) (pa_cons (pv 1) pa_nil)))) pa_nil))) (pv 2) (fun _ _ => rfl)) pa_nil)))))))
      (pss_one (ps_expr (pe_bm PySem.F.plainAttrs_list PySem.F.slot_list_append PySem.F.type_list_append mt_append (pv 3) (pa_cons (pv 5) pa_nil)))))))
      (pss_one (ps_ret (pv 3)))))), ?_⟩
  refine ⟨_, rfl, p, 8, c, rfl, sr, by omega, by decide, by decide, fun ch H1 c1 hd0 hd8 b1 s1 l1 l2 => ?_⟩
  have al1 := al.src b1 s1
  refine ⟨sz0, fun F nF => ?_⟩
  have Fp : F ≠ p := fun z => by obtain ⟨o, e⟩ := s1.some; rw [z, e] at nF; cases nF
  have f0 : FillB K p M H1 F (([] : List (List Int)).map rowD) (upd H1 F (.lst [])) := .start al1 nF
  have s2 := s1.but (But.upd (s := F) (o := .lst [])) Fp.symm
  generalize upd H1 F (.lst []) = H2 at f0 s2 ⊢
  refine ⟨_, rfl, _, _, rfl, rfl, 1, (n : Int) + 1, rfl, by omega, for_range (lo := 1) (n := ((n : Int) + 1 - 1).toNat) (fun i σ H => ∃ v1 v2 v3 v4 c', ∃ g : List (List Int), σ = [some (.ref p), some (.int n), some (.int ch), some (.ref F), v1, v2, v3, v4] ∧ FillB K p M H1 F (g.map rowD) H ∧ Src H p c' ∧ c1 ≤ c' ∧ c' ≤ c1 + 5 * i ∧ g.length = i ∧ ∀ r ∈ g, r.length = n ∧ ∀ z ∈ r, 1 ≤ z ∧ z ≤ n)
    ⟨_, _, _, _, c1, [], rfl, f0, s2, Int.le_refl _, by omega, rfl, fun r h => by cases h⟩ ?_ ?_⟩
  · rintro i σ H3 hi ⟨v1, v2, v3, v4, c3, g, rfl, f3, s3, l3, l4, lg, hg⟩
    have hin : i < n := by omega
    refine ⟨sz0, fun L nL => ?_⟩
    have Lp : L ≠ p := fun z => by obtain ⟨o, e⟩ := s3.some; rw [z, e] at nL; cases nL
    have g0 : FillB K p (F :: M) H3 L (([] : List Int).map .int) (upd H3 L (.lst [])) := .start f3.al nL
    have s4 := s3.but (But.upd (s := L) (o := .lst [])) Lp.symm
    generalize upd H3 L (.lst []) = H4 at g0 s4 ⊢
    refine ⟨_, rfl, _, _, rfl, rfl, 1, (n : Int) + 1, rfl, by omega, for_range (lo := 1) (n := ((n : Int) + 1 - 1).toNat) (fun j σ H => ∃ v3 v4 c', ∃ r : List Int, σ = [some (.ref p), some (.int n), some (.int ch), some (.ref F), some (.int (1 + (i : Int))), some (.ref L), v3, v4] ∧ FillB K p (F :: M) H3 L (r.map .int) H ∧ Src H p c' ∧ c3 ≤ c' ∧ c' ≤ c3 + j ∧ r.length = j ∧ ∀ z ∈ r, 1 ≤ z ∧ z ≤ n)
      ⟨_, _, c3, [], rfl, g0, s4, Int.le_refl _, by omega, rfl, fun r h => by cases h⟩ ?_ ?_⟩
    · rintro j σ H5 hj ⟨w3, w4, c5, r, rfl, f5, s5, l5, l6, lr, hr'⟩
      have hjn : j < n := by omega
      generalize hx : (1 : Int) + (i : Int) = x
      generalize hy : (1 : Int) + (j : Int) = y
      have kx : 1 ≤ x ∧ x ≤ n := by omega
      have ky : 1 ≤ y ∧ y ≤ n := by omega
      have s34 : ∀ {U : Addr} {o : HO} {H : Hp}, Src H p c5 → H U = none → Src (upd H U o) p c5 := fun sr n => sr.keep (new_same n)
      refine ⟨_, rfl, _, rfl, _, rfl, _, rfl, _, _, rfl, _, rfl, _, rfl, _, _, rfl, sz5, fun U1 n1 => ?_⟩
      generalize hmx : (if y > x then y else x) = mx
      generalize hmn : (if y < x then y else x) = mn
      have kmx : 1 ≤ mx ∧ mx ≤ n := by rw [← hmx]; split <;> assumption
      have kmn : 1 ≤ mn ∧ mn ≤ n := by rw [← hmn]; split <;> assumption
      have t1 := new_same (o := .lst [.int 1, .int x, .int y, .int mx, .int mn]) n1
      have e1 : (upd H5 U1 (.lst [.int 1, .int x, .int y, .int mx, .int mn])) U1 = some (.lst [.int 1, .int x, .int y, .int mx, .int mn]) := upd_same
      generalize upd H5 U1 (.lst [.int 1, .int x, .int y, .int mx, .int mn]) = H6 at t1 e1 ⊢
      refine ⟨_, rfl, _, rfl, _, rfl, _, _, rfl, rfl, _, _, rfl, rfl, _, rfl, _, _, rfl, rfl, by show (0 : Int) < n; omega, _, _, rfl, rfl, _, rfl, _, rfl, sz2, fun U2 n2 => ?_⟩
      have kmd := mod_kind (x := x) (y := y) (show (1 : Int) ≤ n by omega)
      dsimp only
      generalize (x + y - 2) % (n : Int) + 1 = md at kmd ⊢
      have t2 := new_same (o := .lst [.int x, .int y]) n2
      have e2 : (upd H6 U2 (.lst [.int x, .int y])) U2 = some (.lst [.int x, .int y]) := upd_same
      generalize upd H6 U2 (.lst [.int x, .int y]) = H7 at t2 e2 ⊢
      obtain ⟨pk, hpk, kpk⟩ : ∃ pk : Int, atI [V.int x, .int y] (if decide (V.int x = V.int 1) = true then 1 else 0) = some (.int pk) ∧ 1 ≤ pk ∧ pk ≤ n := by
        by_cases h : V.int x = V.int 1
        · rw [decide_eq_true h]; exact ⟨y, rfl, ky⟩
        · rw [decide_eq_false h]; exact ⟨x, rfl, kx⟩
      refine ⟨_, rfl, rfl, .inr ⟨_, rfl, U2, _, _, .int pk, rfl, rfl, .of e2, hpk, sz2, fun U3 n3 => ?_⟩⟩
      have t3 := new_same (o := .lst [.int md, .int pk]) n3
      have e3 : (upd H7 U3 (.lst [.int md, .int pk])) U3 = some (.lst [.int md, .int pk]) := upd_same
      generalize upd H7 U3 (.lst [.int md, .int pk]) = H8 at t3 e3 ⊢
      refine ⟨U1, U3, _, _, rfl, rfl, t3 _ _ (t2 _ _ e1), e3, sz7, fun U4 n4 => ?_⟩
      have t4 := new_same (o := .lst ([.int 1, .int x, .int y, .int mx, .int mn] ++ [.int md, .int pk])) n4
      have e4 : (upd H8 U4 (.lst ([.int 1, .int x, .int y, .int mx, .int mn] ++ [.int md, .int pk]))) U4 = some (.lst [.int 1, .int x, .int y, .int mx, .int mn, .int md, .int pk]) := upd_same
      generalize upd H8 U4 (.lst ([.int 1, .int x, .int y, .int mx, .int mn] ++ [.int md, .int pk])) = H9 at t4 e4 ⊢
      have t59 : Same H5 H9 := ((t1.trans t2).trans t3).trans t4
      obtain ⟨ys, hL5, _⟩ := f5.has
      refine ⟨_, rfl, .inl ⟨rfl, _, .of (t59 _ _ hL5)⟩, _, rfl, _, rfl, _, rfl, p, n, c5, rfl, s5.keep t59, by omega, by omega, by omega, fun d H10 c10 hd0 hd1 b10 s10 l10 l11 => ?_⟩
      have U4p : U4 ≠ p := fun z => by obtain ⟨o, e⟩ := (s5.keep ((t1.trans t2).trans t3)).some; rw [z, e] at n4; cases n4
      have e4' := b10 _ _ U4p e4
      refine ⟨_, _, rfl, rfl, sz1, fun U5 n5 => ?_⟩
      have t5 := new_same (o := .lst [.int (1 + d)]) n5
      have e5 : (upd H10 U5 (.lst [.int (1 + d)])) U5 = some (.lst [.int (1 + d)]) := upd_same
      have s11 := s10.keep t5
      generalize upd H10 U5 (.lst [.int (1 + d)]) = H11 at t5 e5 s11 ⊢
      refine ⟨U4, U5, _, _, rfl, rfl, t5 _ _ e4', e5, sz8, fun U6 n6 => ?_⟩
      have t6 := new_same (o := .lst ([.int 1, .int x, .int y, .int mx, .int mn, .int md, .int pk] ++ [.int (1 + d)])) n6
      have e6 : (upd H11 U6 (.lst ([.int 1, .int x, .int y, .int mx, .int mn, .int md, .int pk] ++ [.int (1 + d)]))) U6 = some (.lst ([1, x, y, mx, mn, md, pk, 1 + d].map V.int)) := upd_same
      have s12 := s11.keep t6
      generalize upd H11 U6 (.lst ([.int 1, .int x, .int y, .int mx, .int mn, .int md, .int pk] ++ [.int (1 + d)])) = H12 at t6 e6 s12 ⊢
      have all : ∀ z ∈ [1, x, y, mx, mn, md, pk, 1 + d], 1 ≤ z ∧ z ≤ (n : Int) := fun z hz => by
        simp only [List.mem_cons, List.not_mem_nil, or_false] at hz
        rcases hz with rfl | rfl | rfl | rfl | rfl | rfl | rfl | rfl
        · omega
        · exact kx
        · exact ky
        · exact kmx
        · exact kmn
        · exact kmd
        · exact kpk
        · omega
      obtain ⟨k, rfl⟩ : ∃ k : Nat, ch = k := ⟨ch.toNat, by omega⟩
      have hk : k < [1, x, y, mx, mn, md, pk, 1 + d].length := by show k < 8; omega
      have kv := all _ (List.getElem_mem hk)
      refine ⟨_, rfl, U6, _, _, .int ([1, x, y, mx, mn, md, pk, 1 + d][k]), rfl, rfl, .of e6, atI_nat (by rw [List.getElem?_map, List.getElem?_eq_getElem hk]; rfl), ?_⟩
      generalize [1, x, y, mx, mn, md, pk, 1 + d][k] = v at kv ⊢
      have bAll : But p H5 H12 := ((But.aft t59 b10).then t5).then t6
      have al12 : Al (L :: F :: M) H12 := f5.al.src bAll s12
      have f12 := f5.go bAll (List.mem_cons_of_mem _ pM) Lp al12
      obtain ⟨acc, a1, a2, a3⟩ := f12.app nL (.int v) (d := .int v) (by rw [List.length_map, lr]; exact Nat.lt_of_lt_of_le hjn (Nat.le_trans h5 (by decide)))
      refine ⟨L, acc, .int v, rfl, rfl, a1, a2, _, _, c10, r ++ [v], rfl, by rw [List.map_append]; exact a3, s12.but But.upd Lp.symm, by omega, by omega, by rw [List.length_append, lr]; rfl, fun z hz => ?_⟩
      rcases List.mem_append.mp hz with hz | hz
      · exact hr' z hz
      · rw [List.mem_singleton.mp hz]; exact kv
    · rintro σ H5 ⟨w3, w4, c5, r, rfl, f5, s5, l5, l6, lr, hr'⟩
      have en : ((n : Int) + 1 - 1).toNat = n := by omega
      rw [en] at l6 lr
      obtain ⟨al6, dL⟩ := f5.done f3.al nL
      have but35 : But p H3 H5 := f5.but
      have f6 := f3.go but35 pM Fp al6
      obtain ⟨acc, a1, a2, a3⟩ := f6.app nF (y := .ref L) (d := rowD r) dL (by rw [List.length_map, lg]; exact Nat.lt_of_lt_of_le hin (Nat.le_trans h5 (by decide)))
      refine ⟨_, rfl, .inl ⟨rfl, _, .of a1⟩, _, rfl, F, acc, .ref L, rfl, rfl, a1, a2, _, _, _, _, c5, g ++ [r], rfl, by rw [List.map_append]; exact a3, s5.but But.upd Fp.symm, by omega, by omega, by rw [List.length_append, lg]; rfl, fun z hz => ?_⟩
      rcases List.mem_append.mp hz with hz | hz
      · exact hg z hz
      · rw [List.mem_singleton.mp hz]; exact ⟨lr, hr'⟩
  · rintro σ H3 ⟨v1, v2, v3, v4, c3, g, rfl, f3, s3, l3, l4, lg, hg⟩
    have en : ((n : Int) + 1 - 1).toNat = n := by omega
    rw [en] at l4 lg
    obtain ⟨al4, dF⟩ := f3.done al1 nF
    exact ⟨_, rfl, q F H3 c3 g (b1.trans f3.but) s3 (by omega) (by omega) al4 dF ⟨lg, fun r h => (hg r h).1, fun r h => (hg r h).2⟩⟩
end

/-- n rows of n whole numbers, each at most b in size -/
def Sqb (n : Nat) (t : List (List Int)) (b : Int) : Prop := t.length = n ∧ ∀ r ∈ t, r.length = n ∧ ∀ z ∈ r, -b ≤ z ∧ z ≤ b
section
variable {P : Program} {w : World} {K : PySem.W.Frag} {mg : Str → Option Value} {base : Heap} {C : CA}
theorem signed {vp vh : Nat} {σ : L2.St} {H : Hp} {p : Addr} {h c : Int} {M : List Addr} {k : VK} (ep : σ[vp]? = some (some (.ref p))) (eh : σ[vh]? = some (some (.int h))) (h1 : 1 ≤ h) (h2 : h ≤ 1000000000000) (sr : Src H p c) (hc : c ≤ 500000000) (pM : p ∈ M) (al : Al M H)
    (q : ∀ z H4 c4, But p H H4 → Src H4 p c4 → c ≤ c4 → c4 ≤ c + 2 → Al M H4 → -(h - 1) ≤ z → z ≤ h - 1 → k (.int z) H4) :
    tOp (rI CMul fun i j => V.int (i * j)) (tCall (sp_Lpick K C) [] E0 (tCons (tVar vp) (tCons (tLst (tCons (tC (V.int 1)) (tCons (tUn (rU fun i => V.int (-i)) (tC (V.int 1))) tNil))) tNil))) (tCall (sp_Ldraw K C) [] E0 (tCons (tVar vp) (tCons (tVar vh) tNil))) σ H k := by
  refine ⟨_, ep, _, rfl, sz2, fun U n1 => ?_⟩
  have t1 := new_same (o := .lst [.int 1, .int (-1)]) n1
  have e1 : hid M (upd H U (.lst [.int 1, .int (-1)])) U = some (.lst [.int 1, .int (-1)]) := hid_new al n1
  have al1 := al.mono t1
  have s1 := sr.keep t1
  show sp_Lpick K C [.ref p, .ref U] (upd H U (.lst [.int 1, .int (-1)])) _ E0
  generalize upd H U (.lst [.int 1, .int (-1)]) = H1 at t1 e1 al1 s1 ⊢
  refine ⟨p, U, [.int 1, .int (-1)], c, M, rfl, s1, by omega, pM, .of e1, by decide, by decide, fun i x H2 c2 ei b2 s2 l1 l2 => ?_⟩
  obtain ⟨z, rfl, hz⟩ : ∃ z : Int, x = .int z ∧ (z = 1 ∨ z = -1) := by
    have hi : i < 2 := (List.getElem?_eq_some_iff.mp ei).1
    rcases (by omega : i = 0 ∨ i = 1) with rfl | rfl
    · exact ⟨1, (Option.some.inj ei).symm, .inl rfl⟩
    · exact ⟨-1, (Option.some.inj ei).symm, .inr rfl⟩
  refine ⟨_, ep, _, eh, p, h, c2, rfl, s2, by omega, h1, h2, fun d H3 c3 hd0 hd1 b3 s3 l3 l4 => ?_⟩
  refine ⟨_, _, rfl, rfl, ?_, ?_⟩
  · exact .inl (by rcases hz with rfl | rfl <;> decide)
  · refine q _ H3 c3 ((But.aft t1 b2).trans b3) s3 (by omega) (by omega) ((al1.src b2 s2).src b3 s3) ?_ ?_ <;> rcases hz with rfl | rfl <;> omega
theorem But.at_ {p D : Addr} {H H' : Hp} (b : But p H H') (n : D ≠ p) (h : H D ≠ none) : H' D = H D := by
  cases e : H D with
  | none => exact absurd e h
  | some o => exact b _ _ n e
theorem ints_of {R : Int → Prop} : ∀ {ds : List PyData}, (∀ (j : Nat) d, ds[j]? = some d → ∃ z, d = .int z ∧ R z) → ∃ r : List Int, ds = r.map PyData.int ∧ ∀ z ∈ r, R z
  | [], _ => ⟨[], rfl, fun z h => by cases h⟩
  | d :: ds, h => by
    obtain ⟨z, rfl, hz⟩ := h 0 d rfl
    obtain ⟨r, rfl, hr⟩ := ints_of (ds := ds) fun j d e => h (j + 1) d (by simpa using e)
    exact ⟨z :: r, rfl, fun y hy => by
      rcases List.mem_cons.mp hy with rfl | hy
      · exact hz
      · exact hr y hy⟩
theorem signed_row {vp vh vn j : Nat} {σ : L2.St} {H : Hp} {p : Addr} {h c : Int} {n : Nat} {M : List Addr} {k : VK} (ep : σ[vp]? = some (some (.ref p))) (eh : σ[vh]? = some (some (.int h))) (en : σ[vn]? = some (some (.int n))) (jp : j ≠ vp) (jh : j ≠ vh)
    (h1 : 1 ≤ h) (h2 : h ≤ 1000000000000) (hn : n ≤ 1000) (sr : Src H p c) (hc : c ≤ 400000000) (pM : p ∈ M) (al : Al M H)
    (q : ∀ D H4 c4 r, But p H H4 → Src H4 p c4 → c ≤ c4 → c4 ≤ c + 2 * n → Al M H4 → Dp K (hid M H4) (.ref D) (rowD r) → r.length = n → (∀ z ∈ r, -(h - 1) ≤ z ∧ z ≤ h - 1) → k (.ref D) H4) :
    tLc (iRng1 (tCons (tVar vn) tNil)) (gName j) tYes (tOp (rI CMul fun i j => V.int (i * j)) (tCall (sp_Lpick K C) [] E0 (tCons (tVar vp) (tCons (tLst (tCons (tC (V.int 1)) (tCons (tUn (rU fun i => V.int (-i)) (tC (V.int 1))) tNil))) tNil))) (tCall (sp_Ldraw K C) [] E0 (tCons (tVar vp) (tCons (tVar vh) tNil)))) [j] σ H k := by
  refine ⟨_, en, n, rfl, by omega, by omega, fun D nD => ?_⟩
  have Dp_ : D ≠ p := fun z => by obtain ⟨o, e⟩ := sr.some; rw [z, e] at nD; cases nD
  refine lc_mapR (K := K) M (fun _ d => ∃ z, d = .int z ∧ (-(h - 1) ≤ z ∧ z ≤ h - 1)) (fun i H' => But p H H' ∧ ∃ c', Src H' p c' ∧ c ≤ c' ∧ c' ≤ c + 2 * i) al nD ⟨But.same (new_same nD), c, sr.keep (new_same nD), by omega, by omega⟩ ?_ (by exact Nat.le_trans (show ((n : Int)).toNat ≤ 1000 by omega) (by decide)) ?_ ?_
  · rintro i H' o ⟨b, c', s', l1, l2⟩
    exact ⟨fun x o' e hx => by rw [upd_ne (ne_of_none hx nD)]; exact b x o' e hx, c', s'.but But.upd Dp_.symm, l1, l2⟩
  · rintro i H2 hi ⟨keep, al2, b2, c2, s2, l1, l2⟩ κ hk
    have hin : i < n := by omega
    refine ⟨by simp [wipe, List.set_set], ?_⟩
    refine signed (h := h) (c := c2) (M := D :: M) (k := κ) ?_ ?_ h1 h2 s2 (by omega) (List.mem_cons_of_mem _ pM) al2 fun z H4 c4 b4 s4 l3 l4 al4 z0 z1 => hk _ H4 (.int z) ⟨z, rfl, z0, z1⟩ ⟨.int z, b4.hid (List.mem_cons_of_mem _ pM), b4.at_ Dp_ (al2 D (List.mem_cons_self ..)), al4, b2.trans b4, c4, s4, by omega, by omega⟩
    · simp [wipe, jp, ep]
    · simp [wipe, jh, eh]
  · rintro H2 ds hl hr hd keep al2 ⟨b2, c2, s2, l1, l2⟩ nM
    obtain ⟨r, rfl, hr2⟩ := ints_of hr
    exact q D H2 c2 r b2 s2 l1 (by omega) al2 hd (by rw [List.length_map] at hl; omega) hr2
theorem pick_ints {ns : List Int} {i : Nat} {x : V} (e : (ns.map V.int)[i]? = some x) : ∃ z, x = .int z ∧ z ∈ ns := by
  rw [List.getElem?_map] at e
  cases h : ns[i]? with
  | none => rw [h] at e; cases e
  | some z => rw [h] at e; exact ⟨z, (Option.some.inj e).symm, List.mem_of_getElem? h⟩
abbrev s_Lgrid : Stmt := topS 28
abbrev N_Lgrid : List Str := ["_law_source_here", "_law_size", "_law_high", "_law_found", "_law_x", "_law_y"]
abbrev P_Lgrid : List Str := ["_law_source_here", "_law_size"]
theorem sc_Lgrid : FnScope N_Lgrid P_Lgrid (defScope s_Lgrid) := ⟨rfl, rfl, rfl, by decide +kernel, rfl, by decide +kernel, by decide +kernel⟩
def sp_Lgrid (K : PySem.W.Frag) (_ : CA) : Sp := fun vs H Q _ => ∃ (p : Addr) (n : Nat) (c : Int) (M : List Addr), vs = [.ref p, .int n] ∧ 1 ≤ n ∧ n ≤ 5 ∧ Src H p c ∧ c ≤ 100000000 ∧ p ∈ M ∧ Al M H ∧
  ∀ q H' c' t, But p H H' → Src H' p c' → c ≤ c' → c' ≤ c + 51 → Al M H' → Dp K (hid M H') (.ref q) (gD t) → Sqb n t 999999999999 → Q (.ref q) H'
theorem ok_Lgrid {f : Addr} {fd : FuncData} (F : Fun K "_law_grid" "_law_grid" s_Lgrid f fd) (B : Bi mg) (T_Table : ClsT K mg "Table" C.table) (A_Table : ∀ f ∈ (["results", "prices"] : List Str), NoAttr K C.table f) (c_Lpick : Cal P w K mg base CX0 "_law_pick" 2 P_Lpick (sp_Lpick K C)) (c_Ldraw : Cal P w K mg base CX0 "_law_draw" 1 P_Ldraw (sp_Ldraw K C)) : FnOk P w K mg base CX0 3 f fd P_Lgrid (sp_Lgrid K C) := by
  refine F.ok sc_Lgrid (fun vs H Q E h => ?_) (fun cdv A outer s H vs Q E hr h => ?_)
  · obtain ⟨p, n, c, M, rfl, h1, h5, sr, hc, pM, al, q⟩ := h; rfl
  obtain ⟨p, n, c, M, rfl, h1, h5, sr, hc, pM, al, q⟩ := h
  refine ⟨_, (pss_cons (ps_set (i := 2) sc_Lgrid.nd rfl (Or.inr rfl) (pe_call c_Lpick.ok (hr.mono (by decide)) (by rfl) c_Lpick.g c_Lpick.kp c_Lpick.b .nil pass0 (pa_cons (pv 0) (pa_cons (pe_lst (pa_cons pe_int (pa_cons pe_int (pa_cons (pe_op op_pow pe_int pe_int) pa_nil)))) pa_nil))))
      (pss_cons (ps_set (i := 3) sc_Lgrid.nd rfl (Or.inl rfl) (pe_lst pa_nil))
      (pss_cons (ps_for PassesOwn.never rfl (pi_range1 (by rfl) B.n_range (pa_cons (pv 1) pa_nil)) (pg_name (i := 4) sc_Lgrid.nd rfl (Or.inl rfl)) (pss_one (ps_expr (pe_bm PySem.F.plainAttrs_list PySem.F.slot_list_append PySem.F.type_list_append mt_append (pv 3) (pa_cons (pe_lc (own := [("_law_y", 5)]) rfl sc_Lgrid.nd (te := (tOp (rI CMul fun i j => .int (i * j)) (tCall (sp_Lpick K C) [] E0 (tCons (tVar 0) (tCons (tLst (tCons (tC (.int 1)) (tCons (tUn (rU fun i => .int (-i)) (tC (.int 1))) tNil))) tNil))) (tCall (sp_Ldraw K C) [] E0 (tCons (tVar 0) (tCons (tVar 2) tNil))))) (tt := tYes) (pi_range1 (by rfl) B.n_range (pa_cons (pv 1) pa_nil)) (blkOk_by (own := [("_law_y", 5)]) (N := N_Lgrid) (sc := defScope s_Lgrid) (by decide +kernel)) (fun _ _ _ _ _ => (pg_name (i := 5) sc_Lgrid.nd rfl (Or.inl rfl))) (fun _ _ _ _ _ => pts_nil) (fun _ _ _ _ _ => (pe_op op_mul (pe_call c_Lpick.ok (hr.mono (by decide)) (by rfl) c_Lpick.g c_Lpick.kp c_Lpick.b .nil pass0 (pa_cons (pv 0) (pa_cons (pe_lst (pa_cons pe_int (pa_cons (pe_un un_neg pe_int) pa_nil))) pa_nil))) (pe_call c_Ldraw.ok (hr.mono (by decide)) (by rfl) c_Ldraw.g c_Ldraw.kp c_Ldraw.b .nil pass0 (pa_cons (pv 0) (pa_cons (pv 2) pa_nil)))))) pa_nil)))))
      (pss_one (ps_ret (pv 3)))))), ?_⟩
  refine ⟨_, rfl, _, _, rfl, rfl, ⟨by decide, by decide, by decide⟩, sz3, fun U n1 => ?_⟩
  have p12 : (10 : Int) ^ (Int.toNat 12) = 1000000000000 := by decide
  have t1 := new_same (o := .lst [.int 2, .int 4, .int (10 ^ (Int.toNat 12))]) n1
  have e1 : hid M (upd H U (.lst [.int 2, .int 4, .int (10 ^ (Int.toNat 12))])) U = some (.lst ([2, 4, 1000000000000].map V.int)) := by rw [hid_new al n1, p12]; rfl
  have al1 := al.mono t1
  have s1 := sr.keep t1
  generalize upd H U (.lst [.int 2, .int 4, .int (10 ^ (Int.toNat 12))]) = H1 at t1 e1 al1 s1 ⊢
  refine ⟨p, U, _, c, M, rfl, s1, by omega, pM, .of e1, by decide, by decide, fun i x H2 c2 ei b2 s2 l1 l2 => ?_⟩
  obtain ⟨h, rfl, hh⟩ := pick_ints ei
  have h1h : 1 ≤ h ∧ h ≤ 1000000000000 := by
    simp only [List.mem_cons, List.not_mem_nil, or_false] at hh
    omega
  have al2 := al1.src b2 s2
  refine ⟨sz0, fun F nF => ?_⟩
  have Fp : F ≠ p := fun z => by obtain ⟨o, e⟩ := s2.some; rw [z, e] at nF; cases nF
  have f0 : FillB K p M H2 F (([] : List (List Int)).map rowD) (upd H2 F (.lst [])) := .start al2 nF
  have s3 := s2.but (But.upd (s := F) (o := .lst [])) Fp.symm
  generalize upd H2 F (.lst []) = H3 at f0 s3 ⊢
  refine ⟨_, rfl, n, rfl, by omega, by omega, for_range (lo := 0) (n := ((n : Int)).toNat) (fun i σ H => ∃ v1 v2 c', ∃ g : List (List Int), σ = [some (.ref p), some (.int n), some (.int h), some (.ref F), v1, v2] ∧ FillB K p M H2 F (g.map rowD) H ∧ Src H p c' ∧ c2 ≤ c' ∧ c' ≤ c2 + 10 * i ∧ g.length = i ∧ ∀ r ∈ g, r.length = n ∧ ∀ z ∈ r, -(h - 1) ≤ z ∧ z ≤ h - 1)
    ⟨_, _, c2, [], rfl, f0, s3, Int.le_refl _, by omega, rfl, fun r h => by cases h⟩ ?_ ?_⟩
  · rintro i σ H4 hi ⟨v1, v2, c4, g, rfl, f4, s4, l3, l4, lg, hg⟩
    have hin : i < n := by omega
    obtain ⟨ys, hF4, _⟩ := f4.has
    refine ⟨_, rfl, .inl ⟨rfl, _, .of hF4⟩, ?_⟩
    refine signed_row (h := h) (c := c4) (n := n) (M := F :: M) rfl rfl rfl (by decide) (by decide) h1h.1 h1h.2 (by omega) s4 (by omega) (List.mem_cons_of_mem _ pM) f4.al fun L H5 c5 r b5 s5 l5 l6 al5 dL lr hr' => ?_
    have f6 := f4.go b5 pM Fp al5
    obtain ⟨acc, a1, a2, a3⟩ := f6.app nF (y := .ref L) (d := rowD r) dL (by rw [List.length_map, lg]; exact Nat.lt_of_lt_of_le hin (Nat.le_trans h5 (by decide)))
    refine ⟨F, acc, .ref L, rfl, rfl, a1, a2, _, _, c5, g ++ [r], rfl, by rw [List.map_append]; exact a3, s5.but But.upd Fp.symm, by omega, by omega, by rw [List.length_append, lg]; rfl, fun z hz => ?_⟩
    rcases List.mem_append.mp hz with hz | hz
    · exact hg z hz
    · rw [List.mem_singleton.mp hz]; exact ⟨lr, hr'⟩
  · rintro σ H4 ⟨v1, v2, c4, g, rfl, f4, s4, l3, l4, lg, hg⟩
    have en : ((n : Int)).toNat = n := by omega
    rw [en] at l4 lg
    obtain ⟨al4, dF⟩ := f4.done al2 nF
    exact ⟨_, rfl, q F H4 c4 g ((But.aft t1 b2).trans f4.but) s4 (by omega) (by omega) al4 dF ⟨lg, fun r h => ⟨(hg r h).1, fun z hz => by have := (hg r h).2 z hz; omega⟩⟩⟩
end
section
variable {P : Program} {w : World} {K : PySem.W.Frag} {mg : Str → Option Value} {base : Heap} {C : CA}
abbrev s_Lnumbers : Stmt := topS 30
abbrev N_Lnumbers : List Str := ["_law_source_here", "_law_size", "_law_high", "_law_k"]
abbrev P_Lnumbers : List Str := ["_law_source_here", "_law_size"]
theorem sc_Lnumbers : FnScope N_Lnumbers P_Lnumbers (defScope s_Lnumbers) := ⟨rfl, rfl, rfl, by decide +kernel, rfl, by decide +kernel, by decide +kernel⟩
def sp_Lnumbers (K : PySem.W.Frag) (_ : CA) : Sp := fun vs H Q _ => ∃ (p : Addr) (n : Nat) (c : Int) (M : List Addr), vs = [.ref p, .int n] ∧ n ≤ 10 ∧ Src H p c ∧ c ≤ 100000000 ∧ p ∈ M ∧ Al M H ∧
  ∀ q H' c' t, But p H H' → Src H' p c' → c ≤ c' → c' ≤ c + 1 + 2 * n → Al M H' → Dp K (hid M H') (.ref q) (rowD t) → t.length = n → (∀ z ∈ t, -99999999999 ≤ z ∧ z ≤ 99999999999) → Q (.ref q) H'
theorem ok_Lnumbers {f : Addr} {fd : FuncData} (F : Fun K "_law_numbers" "_law_numbers" s_Lnumbers f fd) (B : Bi mg) (T_Table : ClsT K mg "Table" C.table) (A_Table : ∀ f ∈ (["results", "prices"] : List Str), NoAttr K C.table f) (c_Lpick : Cal P w K mg base CX0 "_law_pick" 2 P_Lpick (sp_Lpick K C)) (c_Ldraw : Cal P w K mg base CX0 "_law_draw" 1 P_Ldraw (sp_Ldraw K C)) : FnOk P w K mg base CX0 3 f fd P_Lnumbers (sp_Lnumbers K C) := by
  refine F.ok sc_Lnumbers (fun vs H Q E h => ?_) (fun cdv A outer s H vs Q E hr h => ?_)
  · obtain ⟨p, n, c, M, rfl, h5, sr, hc, pM, al, q⟩ := h; rfl
  obtain ⟨p, n, c, M, rfl, h5, sr, hc, pM, al, q⟩ := h
  refine ⟨_, (pss_cons (ps_set (i := 2) sc_Lnumbers.nd rfl (Or.inr rfl) (pe_call c_Lpick.ok (hr.mono (by decide)) (by rfl) c_Lpick.g c_Lpick.kp c_Lpick.b .nil pass0 (pa_cons (pv 0) (pa_cons (pe_lst (pa_cons pe_int (pa_cons pe_int (pa_cons (pe_op op_pow pe_int pe_int) pa_nil)))) pa_nil))))
      (pss_one (ps_ret (pe_lc (own := [("_law_k", 3)]) rfl sc_Lnumbers.nd (te := (tOp (rI CMul fun i j => .int (i * j)) (tCall (sp_Lpick K C) [] E0 (tCons (tVar 0) (tCons (tLst (tCons (tC (.int 1)) (tCons (tUn (rU fun i => .int (-i)) (tC (.int 1))) tNil))) tNil))) (tCall (sp_Ldraw K C) [] E0 (tCons (tVar 0) (tCons (tVar 2) tNil))))) (tt := tYes) (pi_range1 (by rfl) B.n_range (pa_cons (pv 1) pa_nil)) (blkOk_by (own := [("_law_k", 3)]) (N := N_Lnumbers) (sc := defScope s_Lnumbers) (by decide +kernel)) (fun _ _ _ _ _ => (pg_name (i := 3) sc_Lnumbers.nd rfl (Or.inl rfl))) (fun _ _ _ _ _ => pts_nil) (fun _ _ _ _ _ => (pe_op op_mul (pe_call c_Lpick.ok (hr.mono (by decide)) (by rfl) c_Lpick.g c_Lpick.kp c_Lpick.b .nil pass0 (pa_cons (pv 0) (pa_cons (pe_lst (pa_cons pe_int (pa_cons (pe_un un_neg pe_int) pa_nil))) pa_nil))) (pe_call c_Ldraw.ok (hr.mono (by decide)) (by rfl) c_Ldraw.g c_Ldraw.kp c_Ldraw.b .nil pass0 (pa_cons (pv 0) (pa_cons (pv 2) pa_nil))))))))), ?_⟩
  refine ⟨_, rfl, _, _, rfl, rfl, ⟨by decide, by decide, by decide⟩, sz3, fun U n1 => ?_⟩
  have p12 : (10 : Int) ^ (Int.toNat 11) = 100000000000 := by decide
  have t1 := new_same (o := .lst [.int 3, .int 10, .int (10 ^ (Int.toNat 11))]) n1
  have e1 : hid M (upd H U (.lst [.int 3, .int 10, .int (10 ^ (Int.toNat 11))])) U = some (.lst ([3, 10, 100000000000].map V.int)) := by rw [hid_new al n1, p12]; rfl
  have al1 := al.mono t1
  have s1 := sr.keep t1
  generalize upd H U (.lst [.int 3, .int 10, .int (10 ^ (Int.toNat 11))]) = H1 at t1 e1 al1 s1 ⊢
  refine ⟨p, U, _, c, M, rfl, s1, by omega, pM, .of e1, by decide, by decide, fun i x H2 c2 ei b2 s2 l1 l2 => ?_⟩
  obtain ⟨h, rfl, hh⟩ := pick_ints ei
  have h1h : 1 ≤ h ∧ h ≤ 100000000000 := by
    simp only [List.mem_cons, List.not_mem_nil, or_false] at hh
    omega
  refine signed_row (h := h) (c := c2) (n := n) (M := M) rfl rfl rfl (by decide) (by decide) h1h.1 (by omega) (by omega) s2 (by omega) pM (al1.src b2 s2) fun L H5 c5 r b5 s5 l5 l6 al5 dL lr hr' => ?_
  exact q L H5 c5 r ((But.aft t1 b2).trans b5) s5 (by omega) (by omega) al5 dL lr fun z hz => by have := hr' z hz; omega
end

theorem ints_flat : ∀ r : List Int, PyData.canLayAll0 (r.map .int) = true ∧ PyData.depthAll (r.map .int) = 0
  | [] => ⟨rfl, rfl⟩
  | x :: r => by
    obtain ⟨h1, h2⟩ := ints_flat r
    simp [PyData.canLayAll0, PyData.canLay0, PyData.depthAll, PyData.depth, h1, h2]
theorem rows_flat : ∀ g : List (List Int), PyData.canLayAll0 (g.map rowD) = true ∧ PyData.depthAll (g.map rowD) ≤ 1
  | [] => ⟨rfl, Nat.zero_le _⟩
  | x :: r => by
    obtain ⟨h1, h2⟩ := rows_flat r
    obtain ⟨h3, h4⟩ := ints_flat x
    refine ⟨by simp [rowD, PyData.canLayAll0, PyData.canLay0, h1, h3], ?_⟩
    simp only [rowD, List.map_cons, PyData.depthAll, PyData.depth, h4]
    omega
theorem parts_lay (g t : List (List Int)) : PyData.canLay0 (.tuple [gD g, gD t]) = true ∧ PyData.depth (.tuple [gD g, gD t]) ≤ 3 := by
  obtain ⟨h1, h2⟩ := rows_flat g
  obtain ⟨h3, h4⟩ := rows_flat t
  refine ⟨by simp [gD_def, PyData.canLayAll0, PyData.canLay0, h1, h3], ?_⟩
  simp only [gD_def, PyData.depthAll, PyData.depth]
  omega
theorem parts_shaped (g t : List (List Int)) : SeqAt.shaped (.tuple [gD g, gD t]) = true := by
  obtain ⟨h1, h2⟩ := parts_lay g t
  unfold SeqAt.shaped
  rw [h1, decide_eq_true (Nat.le_trans h2 (by decide))]; rfl
theorem parts_eqv (g t : List (List Int)) : PyData.eqv (.tuple [gD g, gD t]) (.tuple [gD g, gD t]) = true := SeqAt.eqv_refl _ (parts_lay g t).1
theorem Sqb.tbl {n : Nat} {g t : List (List Int)} (j : Sq n g 1 n) (s : Sqb n t 999999999999) (h1 : 1 ≤ n) (h5 : n ≤ 5) : Tbl n g t :=
  ⟨j, ⟨s.1, fun r h => (s.2 r h).1, fun r h c hc => by have := (s.2 r h).2 c hc; have B : BIG = 1000000000000 := rfl; rw [B]; omega⟩, h1, h5⟩

/-- rows that nothing else knows: the list at q of the lists at rs, the numbers t -/
structure RawG (H : Hp) (q : Addr) (rs : List Addr) (t : List (List Int)) : Prop where
  at_ : H q = some (.lst (rs.map .ref))
  len : rs.length = t.length
  row : ∀ (i : Nat) r l, rs[i]? = some r → t[i]? = some l → H r = some (.lst (l.map .int))
  nd : rs.Nodup
  ne : q ∉ rs
theorem RawG.keep {H H' : Hp} {q : Addr} {rs : List Addr} {t : List (List Int)} (x : RawG H q rs t) (s : Same H H') : RawG H' q rs t :=
  ⟨s _ _ x.at_, x.len, fun i r l a b => s _ _ (x.row i r l a b), x.nd, x.ne⟩
theorem RawG.add {H : Hp} {q L : Addr} {rs : List Addr} {t : List (List Int)} {l : List Int} (x : RawG H q rs t) (hL : H L = some (.lst (l.map .int))) (nL : L ∉ rs) (Lq : L ≠ q) : RawG (upd H q (.lst (rs.map V.ref ++ [.ref L]))) q (rs ++ [L]) (t ++ [l]) := by
  have out : ∀ {r}, r ≠ q → upd H q (.lst (rs.map V.ref ++ [.ref L])) r = H r := fun h => upd_ne h
  refine ⟨by rw [upd_same, List.map_append]; rfl, by rw [List.length_append, List.length_append, x.len]; rfl, fun i r k a b => ?_, ?_, ?_⟩
  · rcases Nat.lt_or_ge i rs.length with lt | ge
    · rw [List.getElem?_append_left lt] at a
      rw [List.getElem?_append_left (by rw [← x.len]; exact lt)] at b
      rw [out fun z => x.ne (by rw [← z]; exact List.mem_of_getElem? a)]
      exact x.row i r k a b
    · rw [List.getElem?_append_right ge] at a
      rw [List.getElem?_append_right (by rw [← x.len]; exact ge)] at b
      have i0 : i - rs.length = 0 := by
        cases e : i - rs.length with
        | zero => rfl
        | succ m => rw [e] at a; simp at a
      rw [i0] at a
      rw [← x.len, i0] at b
      obtain rfl : L = r := by simpa using a
      obtain rfl : l = k := by simpa using b
      rw [out Lq]; exact hL
  · rw [List.nodup_append]
    exact ⟨x.nd, by simp, fun a ha b hb => by rw [List.mem_singleton.mp hb]; intro z; exact nL (by rw [← z]; exact ha)⟩
  · intro z
    rcases List.mem_append.mp z with z | z
    · exact x.ne z
    · exact Lq (List.mem_singleton.mp z).symm
theorem g_row {K : PySem.W.Frag} {H : Hp} {a : Addr} {n : Nat} {g : List (List Int)} (d : Dp K H (.ref a) (gD g)) (hl : g.length = n) (hr : ∀ r ∈ g, r.length = n) : ∃ xs, SqL K H a xs ∧ xs.length = n ∧
    ∀ x : Int, 0 ≤ x → x < n → ∃ b r, atI xs x = some (.ref b) ∧ SqL K H b (r.map .int) ∧ g[x.toNat]? = some r ∧ r ∈ g ∧ r.length = n := by
  obtain ⟨xs, h1, h2⟩ := dp_lst d
  have lx : xs.length = n := by rw [dpAll_length h2, List.length_map, hl]
  refine ⟨xs, h1, lx, fun x x0 x1 => ?_⟩
  have lt : x.toNat < xs.length := by omega
  obtain ⟨r, b, e1, e2, e3⟩ := gD_row h2 (List.getElem?_eq_getElem lt)
  have hx : x = (x.toNat : Int) := by omega
  refine ⟨b, r, ?_, e3, e1, List.mem_of_getElem? e1, hr r (List.mem_of_getElem? e1)⟩
  rw [hx]
  exact atI_nat (by rw [← e2]; exact List.getElem?_eq_getElem lt)
theorem r_cell {r : List Int} {n : Nat} {y : Int} (hl : r.length = n) (h0 : 0 ≤ y) (h1 : y < n) : ∃ v, r[y.toNat]? = some v ∧ atI (r.map V.int) y = some (.int v) ∧ v ∈ r := by
  have lt : y.toNat < r.length := by omega
  have hx : y = (y.toNat : Int) := by omega
  refine ⟨r[y.toNat], List.getElem?_eq_getElem lt, ?_, List.getElem_mem lt⟩
  have := atI_nat (xs := r.map V.int) (j := y.toNat) (v := V.int r[y.toNat]) (by rw [List.getElem?_map, List.getElem?_eq_getElem lt]; rfl)
  rw [← hx] at this; exact this
/-- tolls that worths explain -/
def cell (g : List (List Int)) (i j : Nat) : Int := (g.getD i []).getD j 0
def wtv (ws : List Int) (g : List (List Int)) (i j : Nat) : Int := ws.getD i 0 + ws.getD j 0 - ws.getD (cell g i j - 1).toNat 0
def wt (n : Nat) (ws : List Int) (g : List (List Int)) : List (List Int) := (List.range n).map fun i => (List.range n).map (wtv ws g i)
section
variable {P : Program} {w : World} {K : PySem.W.Frag} {mg : Str → Option Value} {base : Heap} {C : CA}
abbrev s_Lworth_tolls : Stmt := topS 29
abbrev N_Lworth_tolls : List Str := ["_law_joins_here", "_law_weights", "_law_found", "_law_x", "_law_line", "_law_y", "_law_kind"]
abbrev P_Lworth_tolls : List Str := ["_law_joins_here", "_law_weights"]
theorem sc_Lworth_tolls : FnScope N_Lworth_tolls P_Lworth_tolls (defScope s_Lworth_tolls) := ⟨rfl, rfl, rfl, by decide +kernel, rfl, by decide +kernel, by decide +kernel⟩
def sp_Lworth_tolls (K : PySem.W.Frag) (_ : CA) : Sp := fun vs H Q _ => ∃ (a b : Addr) (n : Nat) (g : List (List Int)) (ws : List Int), vs = [.ref a, .ref b] ∧ 1 ≤ n ∧ n ≤ 5 ∧ Dp K H (.ref a) (gD g) ∧ Sq n g 1 n ∧ Dp K H (.ref b) (rowD ws) ∧ ws.length = n ∧ (∀ z ∈ ws, -99999999999 ≤ z ∧ z ≤ 99999999999) ∧
  ∀ q H' rs t, Same H H' → H q = none → (∀ r ∈ rs, H r = none) → RawG H' q rs t → Sqb n t 299999999997 → t = wt n ws g → Q (.ref q) H'
theorem ok_Lworth_tolls {f : Addr} {fd : FuncData} (F : Fun K "_law_worth_tolls" "_law_worth_tolls" s_Lworth_tolls f fd) (B : Bi mg) (T_Table : ClsT K mg "Table" C.table) (A_Table : ∀ f ∈ (["results", "prices"] : List Str), NoAttr K C.table f) : FnOk P w K mg base CX0 1 f fd P_Lworth_tolls (sp_Lworth_tolls K C) := by
  refine F.ok sc_Lworth_tolls (fun vs H Q E h => ?_) (fun cdv A outer s H vs Q E hr h => ?_)
  · obtain ⟨a, b, n, g, ws, rfl, h1, h5, dg, sq, dw, lw', hw, q⟩ := h; rfl
  obtain ⟨a, b, n, g, ws, rfl, h1, h5, dg, sq, dw, lw', hw, q⟩ := h
  refine ⟨_, (pss_cons (ps_set (i := 2) sc_Lworth_tolls.nd rfl (Or.inl rfl) (pe_lst pa_nil))
      (pss_cons (ps_for PassesOwn.never rfl (pi_range1 (by rfl) B.n_range (pa_cons (pe_callB (id := "len") call_len (by rfl) B.n_len (by decide +kernel) (pa_cons (pv 0) pa_nil)) pa_nil)) (pg_name (i := 3) sc_Lworth_tolls.nd rfl (Or.inl rfl)) (pss_cons (ps_set (i := 4) sc_Lworth_tolls.nd rfl (Or.inl rfl) (pe_lst pa_nil))
      (pss_cons (ps_for PassesOwn.never rfl (pi_range1 (by rfl) B.n_range (pa_cons (pe_callB (id := "len") call_len (by rfl) B.n_len (by decide +kernel) (pa_cons (pv 0) pa_nil)) pa_nil)) (pg_name (i := 5) sc_Lworth_tolls.nd rfl (Or.inl rfl)) (pss_cons (ps_set (i := 6) sc_Lworth_tolls.nd rfl (Or.inl rfl) (pe_ix ix_list (pe_ix ix_list (pv 0) (pv 3) (fun _ _ => rfl)) (pv 5) (fun _ _ => rfl)))
      (pss_one (ps_expr (pe_bm PySem.F.plainAttrs_list PySem.F.slot_list_append PySem.F.type_list_append mt_append (pv 4) (pa_cons (pe_op op_sub (pe_op op_add (pe_ix ix_list (pv 1) (pv 3) (fun _ _ => rfl)) (pe_ix ix_list (pv 1) (pv 5) (fun _ _ => rfl))) (pe_ix ix_list (pv 1) (pe_op op_sub (pv 6) pe_int) (fun _ _ => rfl))) pa_nil))))))
      (pss_one (ps_expr (pe_bm PySem.F.plainAttrs_list PySem.F.slot_list_append PySem.F.type_list_append mt_append (pv 2) (pa_cons (pv 4) pa_nil)))))))
      (pss_one (ps_ret (pv 2))))), ?_⟩
  obtain ⟨gx, hg, lg, gr⟩ := g_row dg sq.len sq.row
  obtain ⟨wx, hwx, wall⟩ := dp_lst dw
  rw [dpAll_ints wall] at hwx
  refine ⟨sz0, fun F nF => ?_⟩
  have f0 : RawG (upd H F (.lst [])) F [] [] := ⟨upd_same, rfl, fun i r l a => by simp at a, by simp, by simp⟩
  have t0 := new_same (o := .lst []) nF
  generalize upd H F (.lst []) = H1 at f0 t0 ⊢
  refine ⟨_, rfl, _, _, rfl, .inl ⟨_, hg.mono t0, lg.symm⟩, n, rfl, by omega, by omega, for_range (lo := 0) (n := ((n : Int)).toNat) (fun i σ H' => ∃ v1 v2 v3 v4, ∃ rs t, σ = [some (.ref a), some (.ref b), some (.ref F), v1, v2, v3, v4] ∧ Same H H' ∧ RawG H' F rs t ∧ (∀ r ∈ rs, H r = none) ∧ t.length = i ∧ (t = (List.range i).map fun i => (List.range n).map (wtv ws g i)) ∧ ∀ r ∈ t, r.length = n ∧ ∀ z ∈ r, -299999999997 ≤ z ∧ z ≤ 299999999997)
    ⟨_, _, _, _, [], [], rfl, t0, f0, (fun r h => by cases h), rfl, rfl, fun r h => by cases h⟩ ?_ ?_⟩
  · rintro i σ H2 hi ⟨v1, v2, v3, v4, rs, t, rfl, t2, f2, fr, lt, et, ht⟩
    have hin : i < n := by omega
    refine ⟨sz0, fun L nL => ?_⟩
    have g0 : (upd H2 L (.lst [])) L = some (.lst (([] : List Int).map .int)) := upd_same
    have t3 := new_same (o := .lst []) nL
    generalize upd H2 L (.lst []) = H3 at g0 t3 ⊢
    refine ⟨_, rfl, _, _, rfl, .inl ⟨_, hg.mono (t2.trans t3), lg.symm⟩, n, rfl, by omega, by omega, for_range (lo := 0) (n := ((n : Int)).toNat) (fun j σ H' => ∃ v3 v4, ∃ l : List Int, σ = [some (.ref a), some (.ref b), some (.ref F), some (.int (0 + (i : Int))), some (.ref L), v3, v4] ∧ Same H2 H' ∧ H' L = some (.lst (l.map .int)) ∧ l.length = j ∧ (l = (List.range j).map (wtv ws g i)) ∧ ∀ z ∈ l, -299999999997 ≤ z ∧ z ≤ 299999999997)
      ⟨_, _, [], rfl, t3, g0, rfl, rfl, fun r h => by cases h⟩ ?_ ?_⟩
    · rintro j σ H4 hj ⟨w3, w4, l, rfl, t4, hL, ll, el, hl⟩
      have hjn : j < n := by omega
      have t24 := t2.trans t4
      obtain ⟨b1, r, ix, hr, er, rg, lr⟩ := gr (0 + (i : Int)) (by omega) (by omega)
      obtain ⟨k, ek, iy, kr⟩ := r_cell (y := 0 + (j : Int)) lr (by omega) (by omega)
      have kk := sq.cell r rg k kr
      obtain ⟨z1, ez1, i1, m1⟩ := r_cell (y := 0 + (i : Int)) lw' (by omega) (by omega)
      obtain ⟨z2, ez2, i2, m2⟩ := r_cell (y := 0 + (j : Int)) lw' (by omega) (by omega)
      obtain ⟨z3, ez3, i3, m3⟩ := r_cell (y := k - 1) lw' (by omega) (by omega)
      have ev : wtv ws g i j = z1 + z2 - z3 := by
        have e1 : (0 + (i : Int)).toNat = i := by omega
        have e2 : (0 + (j : Int)).toNat = j := by omega
        rw [e1] at er ez1; rw [e2] at ek ez2
        have ec : cell g i j = k := by simp only [cell, List.getD_eq_getElem?_getD, er, ek, Option.getD_some]
        simp only [wtv, ec, List.getD_eq_getElem?_getD, ez1, ez2, ez3, Option.getD_some]
      have q1 := hw _ m1; have q2 := hw _ m2; have q3 := hw _ m3
      refine ⟨_, rfl, _, rfl, a, _, _, _, rfl, rfl, hg.mono t24, ix, _, rfl, b1, _, _, _, rfl, rfl, hr.mono t24, iy, ?_⟩
      refine ⟨_, rfl, .inl ⟨rfl, _, .of hL⟩, _, rfl, _, rfl, b, _, _, _, rfl, rfl, hwx.mono t24, i1, _, rfl, _, rfl, b, _, _, _, rfl, rfl, hwx.mono t24, i2, _, _, rfl, rfl, ?_⟩
      refine ⟨_, rfl, _, rfl, _, _, rfl, rfl, b, _, _, _, rfl, rfl, hwx.mono t24, i3, _, _, rfl, rfl, ?_⟩
      refine ⟨L, l.map .int, .int (z1 + z2 - z3), rfl, rfl, hL, by rw [List.length_map, ll]; exact Nat.lt_of_lt_of_le hjn (Nat.le_trans h5 (by decide)), _, _, l ++ [z1 + z2 - z3], rfl, fun x o e => by rw [upd_ne (ne_of_none e nL)]; exact t4 _ _ e, by rw [upd_same, List.map_append]; rfl, by rw [List.length_append, ll]; rfl, by rw [List.range_succ, List.map_append, ← el]; show l ++ _ = l ++ [wtv ws g i j]; rw [ev], fun z hz => ?_⟩
      rcases List.mem_append.mp hz with hz | hz
      · exact hl z hz
      · rw [List.mem_singleton.mp hz]; omega
    · rintro σ H4 ⟨w3, w4, l, rfl, t4, hL, ll, el, hl⟩
      have f4 := f2.keep t4
      have nLr : L ∉ rs := fun z => by
        obtain ⟨i, e⟩ := List.getElem?_of_mem z
        have lt : i < t.length := by rw [← f2.len]; exact (List.getElem?_eq_some_iff.mp e).1
        have := f2.row i L _ e (List.getElem?_eq_getElem lt)
        rw [nL] at this; cases this
      have LF : L ≠ F := fun z => by have := f2.at_; rw [← z, nL] at this; cases this
      have f5 := f4.add hL nLr LF
      refine ⟨_, rfl, .inl ⟨rfl, _, .of f4.at_⟩, _, rfl, F, rs.map .ref, .ref L, rfl, rfl, f4.at_, by rw [List.length_map, f2.len, lt]; exact Nat.lt_of_lt_of_le hin (Nat.le_trans h5 (by decide)), _, _, _, _, rs ++ [L], t ++ [l], rfl, fun x o e => by rw [upd_ne (ne_of_none e nF)]; exact (t2.trans t4) _ _ e, f5, fun r hr => ?_, by rw [List.length_append, lt]; rfl, ?_, fun r hr => ?_⟩
      · rcases List.mem_append.mp hr with hr | hr
        · exact fr r hr
        · rw [List.mem_singleton.mp hr]
          cases e : H L with
          | none => rfl
          | some o => rw [t2 _ _ e] at nL; cases nL
      · have en : ((n : Int)).toNat = n := by omega
        rw [en] at el
        rw [List.range_succ, List.map_append, ← et, el]; rfl
      · rcases List.mem_append.mp hr with hr | hr
        · exact ht r hr
        · rw [List.mem_singleton.mp hr]; exact ⟨by omega, hl⟩
  · rintro σ H4 ⟨v1, v2, v3, v4, rs, t, rfl, t4, f4, fr, lt, et, ht⟩
    have en : ((n : Int)).toNat = n := by omega
    exact ⟨_, rfl, q F H4 rs t t4 nF fr f4 ⟨by omega, ht⟩ (by rw [et, en]; rfl)⟩
end

theorem RawG.dp {K : PySem.W.Frag} {M : List Addr} {H : Hp} {q : Addr} {rs : List Addr} {t : List (List Int)} (x : RawG H q rs t) (nq : q ∉ M) (nr : ∀ r ∈ rs, r ∉ M) : Dp K (hid M H) (.ref q) (gD t) := by
  have all : ∀ (rs : List Addr) (t : List (List Int)), rs.length = t.length → (∀ (i : Nat) r l, rs[i]? = some r → t[i]? = some l → H r = some (.lst (l.map .int))) → (∀ r ∈ rs, r ∉ M) → DpAll K (hid M H) (rs.map .ref) (t.map fun r => PyData.list (r.map .int)) := by
    intro rs
    induction rs with
    | nil => intro t e _ _; cases t with
      | nil => exact .nil
      | cons => cases e
    | cons r rs ih => intro t e h n; cases t with
      | nil => cases e
      | cons l t => exact .cons (.lst (.of (by rw [hid_out (n r (List.mem_cons_self ..))]; exact h 0 r l rfl rfl)) (ints_dpAll l)) (ih t (Nat.succ.inj e) (fun i r' l' a b => h (i + 1) r' l' (by simpa using a) (by simpa using b)) fun r' h' => n r' (List.mem_cons_of_mem _ h'))
  exact .lst (.of (by rw [hid_out nq]; exact x.at_)) (all rs t x.len x.row nr)
theorem RawG.set {H : Hp} {q r : Addr} {rs : List Addr} {t : List (List Int)} {i j : Nat} {l : List Int} {v : Int} (x : RawG H q rs t) (er : rs[i]? = some r) (el : t[i]? = some l) : RawG (upd H r (.lst ((l.map V.int).set j (.int v)))) q rs (t.set i (l.set j v)) := by
  have mr : r ∈ rs := List.mem_of_getElem? er
  refine ⟨by rw [upd_ne fun z => x.ne (by rw [z]; exact mr)]; exact x.at_, by rw [List.length_set]; exact x.len, fun k r' l' a b => ?_, x.nd, x.ne⟩
  have hi : i < t.length := (List.getElem?_eq_some_iff.mp el).1
  by_cases e : k = i
  · subst e
    rw [er] at a; cases a
    rw [List.getElem?_set_self hi] at b; cases b
    rw [upd_same, List.map_set]
  · rw [List.getElem?_set_ne (Ne.symm e)] at b
    have : r' ≠ r := fun z => e (by
      subst z
      have h1 := (List.getElem?_eq_some_iff.mp a).1
      exact (List.getElem?_inj h1 x.nd).mp (a.trans er.symm))
    rw [upd_ne this]; exact x.row k r' l' a b
theorem RawG.but {H H' : Hp} {p q : Addr} {rs : List Addr} {t : List (List Int)} (x : RawG H q rs t) (s : But p H H') (n : q ≠ p) (nr : p ∉ rs) : RawG H' q rs t :=
  ⟨s _ _ n x.at_, x.len, fun i r l a b => s _ _ (fun z => nr (by rw [← z]; exact List.mem_of_getElem? a)) (x.row i r l a b), x.nd, x.ne⟩
theorem But.none {H H' : Hp} {p r : Addr} (b : But p H H') (n : r ≠ p) (h : H' r = none) : H r = none := by
  cases e : H r with
  | none => rfl
  | some o => rw [b _ _ n e] at h; cases h
theorem Src.ne {H : Hp} {p r : Addr} {c : Int} (s : Src H p c) (h : H r = none) : r ≠ p := fun z => by
  obtain ⟨o, e⟩ := s.some
  rw [z, e] at h; cases h
theorem Sqb.set {n x y : Nat} {t : List (List Int)} {l : List Int} {v B B' : Int} (h : Sqb n t B) (el : t[x]? = some l) (hB : B ≤ B') (h0 : -B' ≤ v) (h1 : v ≤ B') : Sqb n (t.set x (l.set y v)) B' := by
  refine ⟨by rw [List.length_set]; exact h.1, fun r hr => ?_⟩
  have wide : ∀ r ∈ t, r.length = n ∧ ∀ z ∈ r, -B' ≤ z ∧ z ≤ B' := fun r hr => ⟨(h.2 r hr).1, fun z hz => by have := (h.2 r hr).2 z hz; omega⟩
  rcases List.mem_or_eq_of_mem_set hr with hr | rfl
  · exact wide r hr
  · have w := wide l (List.mem_of_getElem? el)
    refine ⟨by rw [List.length_set]; exact w.1, fun z hz => ?_⟩
    rcases List.mem_or_eq_of_mem_set hz with hz | rfl
    · exact w.2 z hz
    · exact ⟨h0, h1⟩
theorem ixN_of {n j : Nat} (hj : j < n) : ixN n (j : Int) = some j := by
  unfold ixN
  rw [if_pos (by omega), if_pos (by omega)]; rfl
theorem ix2 {K : PySem.W.Frag} {vg vx vy : Nat} {σ : L2.St} {H : Hp} {k : VK} {J : Addr} {n : Nat} {g : List (List Int)} {lo hi x y : Int} (eg : σ[vg]? = some (some (.ref J))) (ex : σ[vx]? = some (some (.int x))) (ey : σ[vy]? = some (some (.int y)))
    (d : Dp K H (.ref J) (gD g)) (s : Sq n g lo hi) (hx : 1 ≤ x ∧ x ≤ n) (hy : 1 ≤ y ∧ y ≤ n) (q : k (.int (at2 g x y)) H) :
    tOp (rIxL K) (tOp (rIxL K) (tVar vg) (tOp (rI0 fun i j => V.int (i - j)) (tVar vx) (tC (V.int 1)))) (tOp (rI0 fun i j => V.int (i - j)) (tVar vy) (tC (V.int 1))) σ H k := by
  obtain ⟨gx, hg, lg, gr⟩ := g_row d s.len s.row
  obtain ⟨b, r, i1, h1, e1, _, lr⟩ := gr (x - 1) (by omega) (by omega)
  obtain ⟨v, e2, i2, _⟩ := r_cell (y := y - 1) lr (by omega) (by omega)
  have ev : at2 g x y = v := by simp only [at2, List.getD_eq_getElem?_getD, e1, e2, Option.getD_some]
  rw [ev] at q
  exact ⟨_, eg, _, ex, _, _, rfl, rfl, J, _, _, .ref b, rfl, rfl, hg, i1, _, ey, _, _, rfl, rfl, b, _, _, .int v, rfl, rfl, h1, i2, q⟩

/-- joins that are firm -/
def fjv (c : Nat) (n x y : Int) : Int :=
  if c = 0 then 1 else if c = 1 then x else if c = 2 then y else if c = 3 then (if y > x then y else x) else if c = 4 then (if y < x then y else x) else if c = 5 then (x + y - 2) % n + 1
  else if c = 6 then (if x = 1 then y else x) else if n = 4 then (x - 1) / 2 * 2 + (y - 1) % 2 + 1 else x
def fj (c n : Nat) : List (List Int) := (List.range n).map fun i => (List.range n).map fun j => fjv c n (1 + (i : Nat)) (1 + (j : Nat))
theorem pick2 {a b x z : Int} : atI [V.int a, .int b] (if decide (V.int x = V.int z) = true then 1 else 0) = some (.int (if x = z then b else a)) := by
  by_cases h : x = z
  · subst h; rw [decide_eq_true rfl, if_pos rfl, if_pos rfl]; rfl
  · have : ¬ (V.int x = V.int z) := fun e => h (by cases e; rfl)
    rw [decide_eq_false this, if_neg Bool.false_ne_true, if_neg h]; rfl
theorem fj_at {c : Nat} (hc : c < 8) (n x y : Int) : [V.int 1, .int x, .int y, .int (if y > x then y else x), .int (if y < x then y else x), .int ((x + y - 2) % n + 1), .int (if x = 1 then y else x), .int (if n = 4 then (x - 1) / 2 * 2 + (y - 1) % 2 + 1 else x)][c]? = some (.int (fjv c n x y)) := by
  rcases (by omega : c = 0 ∨ c = 1 ∨ c = 2 ∨ c = 3 ∨ c = 4 ∨ c = 5 ∨ c = 6 ∨ c = 7) with rfl | rfl | rfl | rfl | rfl | rfl | rfl | rfl <;> rfl
section
variable {P : Program} {w : World} {K : PySem.W.Frag} {mg : Str → Option Value} {base : Heap} {C : CA}
abbrev s_Lfirm_joins : Stmt := topS 32
abbrev N_Lfirm_joins : List Str := ["_law_choice", "_law_size", "_law_found", "_law_x", "_law_line", "_law_y", "_law_some", "_law_band"]
abbrev P_Lfirm_joins : List Str := ["_law_choice", "_law_size"]
theorem sc_Lfirm_joins : FnScope N_Lfirm_joins P_Lfirm_joins (defScope s_Lfirm_joins) := ⟨rfl, rfl, rfl, by decide +kernel, rfl, by decide +kernel, by decide +kernel⟩
def sp_Lfirm_joins (K : PySem.W.Frag) (_ : CA) : Sp := fun vs H Q _ => ∃ (c n : Nat) (M : List Addr), vs = [.int c, .int n] ∧ c < 8 ∧ 1 ≤ n ∧ n ≤ 5 ∧ Al M H ∧
  ∀ q H', Same H H' → Al M H' → Dp K (hid M H') (.ref q) (gD (fj c n)) → Q (.ref q) H'
theorem ok_Lfirm_joins {f : Addr} {fd : FuncData} (F : Fun K "_law_firm_joins" "_law_firm_joins" s_Lfirm_joins f fd) (B : Bi mg) (T_Table : ClsT K mg "Table" C.table) (A_Table : ∀ f ∈ (["results", "prices"] : List Str), NoAttr K C.table f) : FnOk P w K mg base CX0 1 f fd P_Lfirm_joins (sp_Lfirm_joins K C) := by
  refine F.ok sc_Lfirm_joins (fun vs H Q E h => ?_) (fun cdv A outer s H vs Q E hr h => ?_)
  · obtain ⟨c, n, M, rfl, hc, h1, h5, al, q⟩ := h; rfl
  obtain ⟨c, n, M, rfl, hc, h1, h5, al, q⟩ := h
  refine ⟨_, (pss_cons (ps_set (i := 2) sc_Lfirm_joins.nd rfl (Or.inl rfl) (pe_lst pa_nil))
      (pss_cons (ps_for PassesOwn.never rfl (pi_range2 (by rfl) B.n_range (pa_cons pe_int (pa_cons (pe_op op_add (pv 1) pe_int) pa_nil))) (pg_name (i := 3) sc_Lfirm_joins.nd rfl (Or.inl rfl)) (pss_cons (ps_set (i := 4) sc_Lfirm_joins.nd rfl (Or.inl rfl) (pe_lst pa_nil))
      (pss_cons (ps_for PassesOwn.never rfl (pi_range2 (by rfl) B.n_range (pa_cons pe_int (pa_cons (pe_op op_add (pv 1) pe_int) pa_nil))) (pg_name (i := 5) sc_Lfirm_joins.nd rfl (Or.inl rfl)) (pss_cons (ps_set (i := 6) sc_Lfirm_joins.nd rfl (Or.inl rfl) (pe_lst (pa_cons pe_int (pa_cons (pv 3) (pa_cons (pv 5) (pa_cons (pe_callB (id := "max") (call_max2 rfl) (by rfl) B.n_max (by decide +kernel) (pa_cons (pv 3) (pa_cons (pv 5) pa_nil))) (pa_cons (pe_callB (id := "min") (call_min2 rfl) (by rfl) B.n_min (by decide +kernel) (pa_cons (pv 3) (pa_cons (pv 5) pa_nil))) pa_nil)))))))
      (pss_cons (ps_set (i := 7) sc_Lfirm_joins.nd rfl (Or.inl rfl) (pe_op op_add (pe_op op_add (pe_op op_mul (pe_op op_fdiv (pe_op op_sub (pv 3) pe_int) pe_int) pe_int) (pe_op op_mod (pe_op op_sub (pv 5) pe_int) pe_int)) pe_int))
      (pss_cons (ps_set (i := 6) sc_Lfirm_joins.nd rfl (Or.inl rfl) (pe_op op_cat (pv 6) (pe_lst (pa_cons (pe_op op_add (pe_op op_mod (pe_op op_sub (pe_op op_add (pv 3) (pv 5)) pe_int) (pv 1)) pe_int) (pa_cons (pe_ix ix_list (pe_lst (pa_cons (pv 3) (pa_cons (pv 5) pa_nil))) (pe_callTy (T := "int") call_int1 (by rfl) B.n_int (by decide +kernel) (pa_cons (pe_cmpR op_eq (pv 3) pe_int (nomark _)) pa_nil)) (fun _ _ => rfl)) (pa_cons (pe_ix ix_list (pe_lst (pa_cons (pv 3) (pa_cons (pv 7) pa_nil))) (pe_callTy (T := "int") call_int1 (by rfl) B.n_int (by decide +kernel) (pa_cons (pe_cmpR op_eq (pv 1) pe_int (nomark _)) pa_nil)) (fun _ _ => rfl)) pa_nil))))))
      (pss_one (ps_expr (pe_bm PySem.F.plainAttrs_list PySem.F.slot_list_append PySem.F.type_list_append mt_append (pv 4) (pa_cons (pe_ix ix_list (pv 6) (pv 0) (fun _ _ => rfl)) pa_nil))))))))
      (pss_one (ps_expr (pe_bm PySem.F.plainAttrs_list PySem.F.slot_list_append PySem.F.type_list_append mt_append (pv 2) (pa_cons (pv 4) pa_nil)))))))
      (pss_one (ps_ret (pv 2))))), ?_⟩
  refine ⟨sz0, fun F nF => ?_⟩
  have f0 : Fill K M H F (((List.range 0).map fun i => (List.range n).map fun j => fjv c n (1 + (i : Nat)) (1 + (j : Nat))).map rowD) (upd H F (.lst [])) := .start al nF
  generalize upd H F (.lst []) = H1 at f0 ⊢
  refine ⟨_, rfl, _, _, rfl, rfl, 1, (n : Int) + 1, rfl, by omega, for_range (lo := 1) (n := ((n : Int) + 1 - 1).toNat) (fun i σ H' => ∃ v1 v2 v3 v4 v5, σ = [some (.int c), some (.int n), some (.ref F), v1, v2, v3, v4, v5] ∧ Fill K M H F (((List.range i).map fun i => (List.range n).map fun j => fjv c n (1 + (i : Nat)) (1 + (j : Nat))).map rowD) H')
    ⟨_, _, _, _, _, rfl, f0⟩ ?_ ?_⟩
  · rintro i σ H3 hi ⟨v1, v2, v3, v4, v5, rfl, f3⟩
    have hin : i < n := by omega
    refine ⟨sz0, fun L nL => ?_⟩
    have g0 : Fill K (F :: M) H3 L (((List.range 0).map fun j => fjv c n (1 + (i : Nat)) (1 + (j : Nat))).map .int) (upd H3 L (.lst [])) := .start f3.al nL
    generalize upd H3 L (.lst []) = H4 at g0 ⊢
    refine ⟨_, rfl, _, _, rfl, rfl, 1, (n : Int) + 1, rfl, by omega, for_range (lo := 1) (n := ((n : Int) + 1 - 1).toNat) (fun j σ H' => ∃ v3 v4 v5, σ = [some (.int c), some (.int n), some (.ref F), some (.int (1 + (i : Int))), some (.ref L), v3, v4, v5] ∧ Fill K (F :: M) H3 L (((List.range j).map fun j => fjv c n (1 + (i : Nat)) (1 + (j : Nat))).map .int) H')
      ⟨_, _, _, rfl, g0⟩ ?_ ?_⟩
    · rintro j σ H5 hj ⟨w3, w4, w5, rfl, f5⟩
      have hjn : j < n := by omega
      have ef : fjv c n (1 + (i : Nat)) (1 + (j : Nat)) = fjv c n (1 + (i : Int)) (1 + (j : Int)) := rfl
      rw [List.range_succ, List.map_append, List.map_append]
      show _
      generalize hx : (1 : Int) + (i : Int) = x
      generalize hy : (1 : Int) + (j : Int) = y
      refine ⟨_, rfl, _, rfl, _, rfl, _, rfl, _, _, rfl, _, rfl, _, rfl, _, _, rfl, sz5, fun U1 n1 => ?_⟩
      have t1 := new_same (o := .lst [.int 1, .int x, .int y, .int (if y > x then y else x), .int (if y < x then y else x)]) n1
      have e1 : (upd H5 U1 (.lst [.int 1, .int x, .int y, .int (if y > x then y else x), .int (if y < x then y else x)])) U1 = some (.lst [.int 1, .int x, .int y, .int (if y > x then y else x), .int (if y < x then y else x)]) := upd_same
      generalize upd H5 U1 (.lst [.int 1, .int x, .int y, .int (if y > x then y else x), .int (if y < x then y else x)]) = H6 at t1 e1 ⊢
      refine ⟨_, rfl, _, _, rfl, rfl, _, _, rfl, rfl, ⟨by decide, by decide⟩, _, _, rfl, rfl, .inr ⟨by decide, by decide⟩, _, rfl, _, _, rfl, rfl, _, _, rfl, rfl, by show (0 : Int) < 2; decide, _, _, rfl, rfl, _, _, rfl, rfl, ?_⟩
      refine ⟨_, rfl, _, rfl, _, rfl, _, _, rfl, rfl, _, _, rfl, rfl, _, rfl, _, _, rfl, rfl, by show (0 : Int) < n; omega, _, _, rfl, rfl, _, rfl, _, rfl, sz2, fun U2 n2 => ?_⟩
      dsimp only
      generalize hbd : (x - 1) / 2 * 2 + (y - 1) % 2 + 1 = bd
      generalize hmd : (x + y - 2) % (n : Int) + 1 = md
      have t2 := new_same (o := .lst [.int x, .int y]) n2
      have e2 : (upd H6 U2 (.lst [.int x, .int y])) U2 = some (.lst [.int x, .int y]) := upd_same
      generalize upd H6 U2 (.lst [.int x, .int y]) = H7 at t2 e2 ⊢
      refine ⟨_, rfl, rfl, .inr ⟨_, rfl, U2, _, _, _, rfl, rfl, .of e2, pick2, _, rfl, _, rfl, sz2, fun U3 n3 => ?_⟩⟩
      have t3 := new_same (o := .lst [.int x, .int bd]) n3
      have e3 : (upd H7 U3 (.lst [.int x, .int bd])) U3 = some (.lst [.int x, .int bd]) := upd_same
      generalize upd H7 U3 (.lst [.int x, .int bd]) = H8 at t3 e3 ⊢
      refine ⟨_, rfl, rfl, .inr ⟨_, rfl, U3, _, _, _, rfl, rfl, .of e3, pick2, sz3, fun U4 n4 => ?_⟩⟩
      have t4 := new_same (o := .lst [.int md, .int (if x = 1 then y else x), .int (if (n : Int) = 4 then bd else x)]) n4
      have e4 : (upd H8 U4 (.lst [.int md, .int (if x = 1 then y else x), .int (if (n : Int) = 4 then bd else x)])) U4 = some (.lst [.int md, .int (if x = 1 then y else x), .int (if (n : Int) = 4 then bd else x)]) := upd_same
      generalize upd H8 U4 (.lst [.int md, .int (if x = 1 then y else x), .int (if (n : Int) = 4 then bd else x)]) = H9 at t4 e4 ⊢
      refine ⟨U1, U4, _, _, rfl, rfl, t4 _ _ (t3 _ _ (t2 _ _ e1)), e4, sz8, fun U5 n5 => ?_⟩
      have fa := fj_at hc n x y
      rw [hbd, hmd] at fa
      generalize hl8 : [V.int 1, .int x, .int y, .int (if y > x then y else x), .int (if y < x then y else x)] ++ [.int md, .int (if x = 1 then y else x), .int (if (n : Int) = 4 then bd else x)] = l8
      have fa8 : l8[c]? = some (.int (fjv c n x y)) := by rw [← hl8]; exact fa
      have t5 := new_same (o := .lst l8) n5
      have e5 : (upd H9 U5 (.lst l8)) U5 = some (.lst l8) := upd_same
      generalize upd H9 U5 (.lst l8) = H10 at t5 e5 ⊢
      have tAll : Same H5 H10 := (((t1.trans t2).trans t3).trans t4).trans t5
      obtain ⟨ys, hL5, _⟩ := f5.has
      have hL := tAll _ _ hL5
      obtain ⟨acc, a1, a2, a3⟩ := f5.app nL tAll (.int (fjv c n x y)) (by rw [List.length_map, List.length_map, List.length_range]; exact Nat.lt_of_lt_of_le hjn (Nat.le_trans h5 (by decide)))
      refine ⟨_, rfl, .inl ⟨rfl, _, .of hL⟩, _, rfl, _, rfl, U5, _, _, .int (fjv c n x y), rfl, rfl, .of e5, atI_nat fa8, L, acc, .int (fjv c n x y), rfl, rfl, a1, a2, _, _, _, rfl, ?_⟩
      show Fill K (F :: M) H3 L (_ ++ [PyData.int (fjv c n x (1 + (j : Int)))]) _
      rw [hx] at a3
      rw [hy]; exact a3
    · rintro σ H5 ⟨w3, w4, w5, rfl, f5⟩
      have en : ((n : Int) + 1 - 1).toNat = n := by omega
      rw [en] at f5
      obtain ⟨al6, dL⟩ := f5.done f3.al nL
      obtain ⟨acc, a1, a2, a3⟩ := f3.app nF f5.same (y := .ref L) (d := rowD ((List.range n).map fun j => fjv c n (1 + (i : Nat)) (1 + (j : Nat)))) dL (by rw [List.length_map, List.length_map, List.length_range]; exact Nat.lt_of_lt_of_le hin (Nat.le_trans h5 (by decide)))
      refine ⟨_, rfl, .inl ⟨rfl, _, .of a1⟩, _, rfl, F, acc, .ref L, rfl, rfl, a1, a2, _, _, _, _, _, rfl, ?_⟩
      rw [List.range_succ, List.map_append, List.map_append]
      exact a3
  · rintro σ H3 ⟨v1, v2, v3, v4, v5, rfl, f3⟩
    have en : ((n : Int) + 1 - 1).toNat = n := by omega
    rw [en] at f3
    obtain ⟨al4, dF⟩ := f3.done al nF
    exact ⟨_, rfl, q F H3 f3.same al4 dF⟩
end

/-! the firm tables of these joins and worths -/
def mo (c : Nat) (n x y : Int) : Int := if c = 7 then x % 2 * (y / 2) else (x + y) / n
def tt (c n : Nat) (ws : List Int) (f : Int) : List (List Int) := (List.range n).map fun i => (List.range n).map fun j => wtv ws (fj c n) i j + f * mo c n (i : Nat) (j : Nat)
def ok3 (c n : Nat) (x y z : Int) : Bool :=
  decide (1 ≤ fjv c n x y ∧ fjv c n x y ≤ n) && fjv c n (fjv c n x y) z == fjv c n x (fjv c n y z) &&
  (!(c == 5 || c == 7 && n == 4) || mo c n (x - 1) (y - 1) + mo c n (fjv c n x y - 1) (z - 1) == mo c n (y - 1) (z - 1) + mo c n (x - 1) (fjv c n y z - 1))
def okAll : Bool := (List.range 8).all fun c => (List.range 6).all fun n => (List.range n).all fun x => (List.range n).all fun y => (List.range n).all fun z => ok3 c n (1 + (x : Int)) (1 + (y : Int)) (1 + (z : Int))
theorem okAll_is : okAll = true := by decide +kernel
theorem ok3_of {c n : Nat} (hc : c < 8) (hn : n ≤ 5) {x y z : Int} (hx : 1 ≤ x ∧ x ≤ n) (hy : 1 ≤ y ∧ y ≤ n) (hz : 1 ≤ z ∧ z ≤ n) : ok3 c n x y z = true := by
  have h := okAll_is
  unfold okAll at h
  have h1 := List.all_eq_true.mp h c (List.mem_range.mpr hc)
  have h2 := List.all_eq_true.mp h1 n (List.mem_range.mpr (by omega))
  have h3 := List.all_eq_true.mp h2 (x - 1).toNat (List.mem_range.mpr (by omega))
  have h4 := List.all_eq_true.mp h3 (y - 1).toNat (List.mem_range.mpr (by omega))
  have h5 := List.all_eq_true.mp h4 (z - 1).toNat (List.mem_range.mpr (by omega))
  have ex : (1 : Int) + ((x - 1).toNat : Int) = x := by omega
  have ey : (1 : Int) + ((y - 1).toNat : Int) = y := by omega
  have ez : (1 : Int) + ((z - 1).toNat : Int) = z := by omega
  rw [ex, ey, ez] at h5; exact h5
theorem fj_in {c n : Nat} (hc : c < 8) (hn : n ≤ 5) {x y : Int} (hx : 1 ≤ x ∧ x ≤ n) (hy : 1 ≤ y ∧ y ≤ n) : 1 ≤ fjv c n x y ∧ fjv c n x y ≤ n := by
  have h := ok3_of hc hn hx hy hx
  simp only [ok3, Bool.and_eq_true, decide_eq_true_eq] at h
  exact h.1.1
theorem grid_at2 {n : Nat} {f : Nat → Nat → Int} {x y : Int} (hx : 1 ≤ x ∧ x ≤ n) (hy : 1 ≤ y ∧ y ≤ n) : at2 ((List.range n).map fun i => (List.range n).map (f i)) x y = f (x - 1).toNat (y - 1).toNat := by
  simp only [at2, List.getD_eq_getElem?_getD, List.getElem?_map, List.getElem?_range (show (x - 1).toNat < n by omega), Option.map_some, Option.getD_some, List.getElem?_range (show (y - 1).toNat < n by omega)]
theorem fj_at2 {c n : Nat} {x y : Int} (hx : 1 ≤ x ∧ x ≤ n) (hy : 1 ≤ y ∧ y ≤ n) : at2 (fj c n) x y = fjv c n x y := by
  unfold fj
  rw [grid_at2 hx hy]
  have ex : (1 : Int) + ((x - 1).toNat : Int) = x := by omega
  have ey : (1 : Int) + ((y - 1).toNat : Int) = y := by omega
  rw [ex, ey]
def wo (ws : List Int) (x : Int) : Int := ws.getD (x - 1).toNat 0
theorem cell_at2 {n : Nat} {g : List (List Int)} {i j : Nat} : cell g i j = at2 g (1 + (i : Int)) (1 + (j : Int)) := by
  unfold cell at2
  rw [show ((1 : Int) + (i : Int) - 1).toNat = i by omega, show ((1 : Int) + (j : Int) - 1).toNat = j by omega]
theorem tt_at2 {c n : Nat} {ws : List Int} {f : Int} {x y : Int} (hx : 1 ≤ x ∧ x ≤ n) (hy : 1 ≤ y ∧ y ≤ n) : at2 (tt c n ws f) x y = wo ws x + wo ws y - wo ws (fjv c n x y) + f * mo c n (x - 1) (y - 1) := by
  unfold tt
  rw [grid_at2 hx hy]
  have ex : (((x - 1).toNat : Nat) : Int) = x - 1 := by omega
  have ey : (((y - 1).toNat : Nat) : Int) = y - 1 := by omega
  unfold wtv
  rw [cell_at2 (n := n), ex, ey]
  rw [show (1 : Int) + (x - 1) = x by omega, show (1 : Int) + (y - 1) = y by omega, fj_at2 hx hy]
  rfl
/-- when the factor counts -/
def Fac (c n : Nat) (f : Int) : Prop := f = 0 ∨ (c = 5 ∨ c = 7 ∧ n = 4)
theorem both_same {c n : Nat} {ws : List Int} {f : Int} (hc : c < 8) (hn : n ≤ 5) (hf : Fac c n f) {a : Tr} (i3 : In3 n a) : (lw (fj c n) (tt c n ws f) a).1 = (rw' (fj c n) (tt c n ws f) a).1 ∧ (lw (fj c n) (tt c n ws f) a).2 = (rw' (fj c n) (tt c n ws f) a).2 := by
  obtain ⟨x, y, z⟩ := a
  have hx : 1 ≤ x ∧ x ≤ (n : Int) := i3.x
  have hy : 1 ≤ y ∧ y ≤ (n : Int) := i3.y
  have hz : 1 ≤ z ∧ z ≤ (n : Int) := i3.z
  have kxy := fj_in hc hn hx hy
  have kyz := fj_in hc hn hy hz
  have h := ok3_of hc hn hx hy hz
  simp only [ok3, Bool.and_eq_true, beq_iff_eq] at h
  obtain ⟨⟨_, h2⟩, h3⟩ := h
  unfold lw rw'
  dsimp only
  rw [fj_at2 hx hy, fj_at2 hy hz, fj_at2 kxy hz, fj_at2 hx kyz, tt_at2 hx hy, tt_at2 hy hz, tt_at2 kxy hz, tt_at2 hx kyz, h2]
  refine ⟨rfl, ?_⟩
  have hm : f * mo c n (x - 1) (y - 1) + f * mo c n (fjv c n x y - 1) (z - 1) = f * mo c n (y - 1) (z - 1) + f * mo c n (x - 1) (fjv c n y z - 1) := by
    rcases hf with rfl | hf
    · simp
    · have : (c == 5 || c == 7 && n == 4) = true := by
        rcases hf with rfl | ⟨rfl, rfl⟩ <;> rfl
      rw [this] at h3
      simp only [Bool.not_true, Bool.false_or, beq_iff_eq] at h3
      rw [← Int.mul_add, ← Int.mul_add, h3]
  omega
theorem stmt_firm {c n : Nat} {ws : List Int} {f : Int} (hc : c < 8) (hn : n ≤ 5) (hf : Fac c n f) : stmt (fj c n) (tt c n ws f) n = firmD := by
  refine stmt_2 ?_ ?_
  · refine List.find?_eq_none.mpr fun a ha => ?_
    have := (both_same (ws := ws) hc hn hf (tri_in3 ha)).1
    simp [bad0, this]
  · refine List.find?_eq_none.mpr fun a ha => ?_
    have := (both_same (ws := ws) hc hn hf (tri_in3 ha)).2
    simp [bad1, this]
/-- a firm table: joining is associative, with the tolls -/
structure Firm (n : Nat) (g t : List (List Int)) : Prop where
  kind : ∀ {x y : Int}, 1 ≤ x ∧ x ≤ n → 1 ≤ y ∧ y ≤ n → 1 ≤ at2 g x y ∧ at2 g x y ≤ n
  one : ∀ {x y z : Int}, 1 ≤ x ∧ x ≤ n → 1 ≤ y ∧ y ≤ n → 1 ≤ z ∧ z ≤ n → at2 g (at2 g x y) z = at2 g x (at2 g y z)
  two : ∀ {x y z : Int}, 1 ≤ x ∧ x ≤ n → 1 ≤ y ∧ y ≤ n → 1 ≤ z ∧ z ≤ n → at2 t x y + at2 t (at2 g x y) z = at2 t y z + at2 t x (at2 g y z)
def cmb (g t : List (List Int)) (s u : Int × Int) : Int × Int := (at2 g s.1 u.1, s.2 + u.2 + at2 t s.1 u.1)
theorem fold_in {n : Nat} {g t : List (List Int)} (F : Firm n g t) : ∀ {ks : List Int} {s : Int × Int}, 1 ≤ s.1 ∧ s.1 ≤ n → (∀ k ∈ ks, 1 ≤ k ∧ k ≤ n) → 1 ≤ (ks.foldl (stp g t) s).1 ∧ (ks.foldl (stp g t) s).1 ≤ n
  | [], _, h, _ => h
  | k :: ks, s, h, hk => fold_in F (ks := ks) (s := stp g t s k) (F.kind h (hk k (List.mem_cons_self ..))) fun x hx => hk x (List.mem_cons_of_mem _ hx)
theorem fold_cmb {n : Nat} {g t : List (List Int)} (F : Firm n g t) {s : Int × Int} (hs : 1 ≤ s.1 ∧ s.1 ≤ n) : ∀ {ks : List Int} {u : Int × Int}, 1 ≤ u.1 ∧ u.1 ≤ n → (∀ k ∈ ks, 1 ≤ k ∧ k ≤ n) → ks.foldl (stp g t) (cmb g t s u) = cmb g t s (ks.foldl (stp g t) u)
  | [], _, _, _ => rfl
  | k :: ks, u, hu, hk => by
    have h0 := hk k (List.mem_cons_self ..)
    have e : stp g t (cmb g t s u) k = cmb g t s (stp g t u k) := by
      unfold stp cmb
      dsimp only
      refine Prod.ext (F.one hs hu h0) ?_
      have := F.two hs hu h0
      show s.2 + u.2 + at2 t s.1 u.1 + at2 t (at2 g s.1 u.1) k = s.2 + (u.2 + at2 t u.1 k) + at2 t s.1 (at2 g u.1 k)
      omega
    rw [List.foldl_cons, e, List.foldl_cons]
    exact fold_cmb F hs (F.kind hu h0) fun x hx => hk x (List.mem_cons_of_mem _ hx)
theorem tot_app {n : Nat} {g t : List (List Int)} (F : Firm n g t) {l r : List Int} (hl : l ≠ []) (hr : r ≠ []) (hk : ∀ k ∈ l ++ r, 1 ≤ k ∧ k ≤ n) : tot g t (l ++ r) = cmb g t (tot g t l) (tot g t r) := by
  cases l with
  | nil => exact absurd rfl hl
  | cons a l =>
    cases r with
    | nil => exact absurd rfl hr
    | cons b r =>
      show (l ++ b :: r).foldl (stp g t) (a, 0) = cmb g t (l.foldl (stp g t) (a, 0)) (r.foldl (stp g t) (b, 0))
      have ha := hk a (by simp)
      have hb := hk b (by simp)
      have hi := fold_in F (ks := l) (s := (a, 0)) ha fun x hx => hk x (by simp [hx])
      rw [List.foldl_append, List.foldl_cons, ← fold_cmb F hi hb fun x hx => hk x (by simp [hx])]
      have : stp g t (l.foldl (stp g t) (a, 0)) b = cmb g t (l.foldl (stp g t) (a, 0)) (b, 0) := by
        unfold stp cmb; simp
      rw [this]
theorem fj_firm {c n : Nat} {ws : List Int} {f : Int} (hc : c < 8) (hn : n ≤ 5) (hf : Fac c n f) : Firm n (fj c n) (tt c n ws f) := by
  refine ⟨fun hx hy => by rw [fj_at2 hx hy]; exact fj_in hc hn hx hy, fun {x y z} hx hy hz => ?_, fun {x y z} hx hy hz => ?_⟩
  · exact (both_same (ws := ws) hc hn hf (a := (x, y, z)) ⟨hx, hy, hz⟩).1
  · exact (both_same (ws := ws) hc hn hf (a := (x, y, z)) ⟨hx, hy, hz⟩).2
/-- worths telescope -/
theorem fold_wo {c n : Nat} {ws : List Int} (hc : c < 8) (hn : n ≤ 5) : ∀ {ks : List Int} {s : Int × Int}, 1 ≤ s.1 ∧ s.1 ≤ n → (∀ k ∈ ks, 1 ≤ k ∧ k ≤ n) →
    (ks.foldl (stp (fj c n) (tt c n ws 0)) s).2 = s.2 + wo ws s.1 + (ks.map (wo ws)).sum - wo ws (ks.foldl (stp (fj c n) (tt c n ws 0)) s).1
  | [], s, _, _ => by simp
  | k :: ks, s, h, hk => by
    have h0 := hk k (List.mem_cons_self ..)
    have F := fj_firm (ws := ws) hc hn (.inl rfl : Fac c n 0)
    rw [List.foldl_cons, fold_wo hc hn (F.kind h h0) fun x hx => hk x (List.mem_cons_of_mem _ hx)]
    have e1 : (stp (fj c n) (tt c n ws 0) s k).2 = s.2 + (wo ws s.1 + wo ws k - wo ws (fjv c n s.1 k)) := by
      unfold stp; dsimp only; rw [tt_at2 h h0]; simp
    have e2 : (stp (fj c n) (tt c n ws 0) s k).1 = fjv c n s.1 k := by unfold stp; dsimp only; rw [fj_at2 h h0]
    rw [e1, e2, List.map_cons, List.sum_cons]
    omega
theorem tot_wo {c n : Nat} {ws : List Int} (hc : c < 8) (hn : n ≤ 5) {ks : List Int} (h1 : 1 ≤ ks.length) (hk : ∀ k ∈ ks, 1 ≤ k ∧ k ≤ n) : (tot (fj c n) (tt c n ws 0) ks).2 = (ks.map (wo ws)).sum - wo ws (tot (fj c n) (tt c n ws 0) ks).1 := by
  cases ks with
  | nil => exact absurd h1 (by decide)
  | cons a ks =>
    show (ks.foldl (stp (fj c n) (tt c n ws 0)) (a, 0)).2 = _
    rw [fold_wo hc hn (hk a (List.mem_cons_self ..)) fun x hx => hk x (List.mem_cons_of_mem _ hx)]
    simp [tot]
/-- sizes -/
theorem tot_small {n : Nat} {g t : List (List Int)} (T : Tbl n g t) : ∀ {ks : List Int} {s : Int × Int} {B : Nat}, 1 ≤ s.1 ∧ s.1 ≤ n → (∀ k ∈ ks, 1 ≤ k ∧ k ≤ n) → s.2.natAbs ≤ B * 1000000000000 → (ks.foldl (stp g t) s).2.natAbs ≤ (B + ks.length) * 1000000000000
  | [], _, _, _, _, h => h
  | k :: ks, s, B, h, hk, hb => by
    have h0 := hk k (List.mem_cons_self ..)
    rw [List.foldl_cons, List.length_cons, show B + (ks.length + 1) = (B + 1) + ks.length by omega]
    refine tot_small T (T.stp h h0) (fun x hx => hk x (List.mem_cons_of_mem _ hx)) ?_
    obtain ⟨_, _, _, c1, c2⟩ := T.t.at2 h h0
    have e : BIG = 1000000000000 := rfl
    rw [e] at c1 c2
    show (s.2 + at2 t s.1 k).natAbs ≤ _
    omega

/-- all but rs is kept -/
def Out (rs : List Addr) (H H' : Hp) : Prop := ∀ b o, b ∉ rs → H b = some o → H' b = some o
theorem Out.refl {rs : List Addr} {H : Hp} : Out rs H H := fun _ _ _ h => h
theorem Out.then {rs : List Addr} {H H' H2 : Hp} (x : Out rs H H') (s : Same H' H2) : Out rs H H2 := fun b o n h => s b o (x b o n h)
theorem Out.write {rs : List Addr} {H H' : Hp} {r : Addr} {o : HO} (x : Out rs H H') (m : r ∈ rs) : Out rs H (upd H' r o) := fun b o' n h => by
  rw [upd_ne (fun z => n (by rw [z]; exact m))]; exact x b o' n h
theorem Out.hid {rs M : List Addr} {H H' : Hp} (x : Out rs H H') (m : ∀ r ∈ rs, r ∈ M) : Same (hid M H) (hid M H') := fun b o h => by
  obtain ⟨h1, h2⟩ := hid_some h
  rw [hid_out h2]; exact x b o (fun z => h2 (m b z)) h1
theorem hid_fresh {p : Addr} {rs : List Addr} {H : Hp} (n : ∀ r ∈ rs, H r = none) : Same (hid [p] H) (hid (p :: rs) H) := fun b o h => by
  obtain ⟨h1, h2⟩ := hid_some h
  rw [hid_out fun z => Or.elim (List.mem_cons.mp z) (fun q => h2 (by rw [q]; exact List.mem_singleton.mpr rfl)) fun q => by rw [n b q] at h1; cases h1]
  exact h1
theorem hid_more {p : Addr} {rs : List Addr} {H : Hp} : Same (hid (p :: rs) H) (hid [p] H) := fun b o h => by
  obtain ⟨h1, h2⟩ := hid_some h
  rw [hid_out fun z => h2 (by rw [List.mem_singleton.mp z]; exact List.mem_cons_self ..)]; exact h1
/-- tolls under way: rows ahead of i, and of row i what is ahead of j, are changed -/
def tq (c n : Nat) (ws : List Int) (f : Int) (i j : Nat) : List (List Int) := (List.range n).map fun a => (List.range n).map fun b => wtv ws (fj c n) a b + if a < i ∨ a = i ∧ b < j then f * mo c n (a : Nat) (b : Nat) else 0
theorem tq_0 {c n : Nat} {ws : List Int} {f : Int} : tq c n ws f 0 0 = wt n ws (fj c n) := by simp [tq, wt]
theorem tq_j {c n : Nat} {ws : List Int} {f : Int} {i : Nat} : tq c n ws f i n = tq c n ws f (i + 1) 0 := by
  unfold tq
  refine List.map_congr_left fun a ha => List.map_congr_left fun b hb => ?_
  have hb := List.mem_range.mp hb
  have : (a < i ∨ a = i ∧ b < n) ↔ (a < i + 1 ∨ a = i + 1 ∧ b < 0) := by omega
  simp only [this]
theorem tq_n {c n : Nat} {ws : List Int} {f : Int} : tq c n ws f n 0 = tt c n ws f := by
  unfold tq tt
  refine List.map_congr_left fun a ha => List.map_congr_left fun b hb => ?_
  have ha := List.mem_range.mp ha
  rw [if_pos (.inl ha)]
theorem tq_row {c n : Nat} {ws : List Int} {f : Int} {i j a : Nat} (ha : a < n) : (tq c n ws f i j)[a]? = some ((List.range n).map fun b => wtv ws (fj c n) a b + if a < i ∨ a = i ∧ b < j then f * mo c n (a : Nat) (b : Nat) else 0) := by
  unfold tq
  rw [List.getElem?_map, List.getElem?_range ha]; rfl
theorem tq_set {c n : Nat} {ws : List Int} {f : Int} {i j : Nat} (hi : i < n) (hj : j < n) :
    (tq c n ws f i j).set i (((List.range n).map fun b => wtv ws (fj c n) i b + if i < i ∨ i = i ∧ b < j then f * mo c n (i : Nat) (b : Nat) else 0).set j (wtv ws (fj c n) i j + f * mo c n (i : Nat) (j : Nat))) = tq c n ws f i (j + 1) := by
  apply List.ext_getElem?
  intro a
  rcases Nat.lt_or_ge a n with ha | ha
  · rw [tq_row ha]
    by_cases e : a = i
    · subst e
      rw [List.getElem?_set_self (by simp [tq, ha])]
      congr 1
      apply List.ext_getElem?
      intro b
      rcases Nat.lt_or_ge b n with hb | hb
      · by_cases e2 : b = j
        · subst e2
          rw [List.getElem?_set_self (by simp [hb]), List.getElem?_map, List.getElem?_range hb]
          simp
        · rw [List.getElem?_set_ne (Ne.symm e2), List.getElem?_map, List.getElem?_map, List.getElem?_range hb]
          by_cases e4 : b < j
          · have e5 : b < j + 1 := by omega
            simp [e4, e5]
          · have e5 : ¬ b < j + 1 := by omega
            simp [e4, e5]
      · rw [List.getElem?_eq_none (by simp [hb]), List.getElem?_eq_none (by simp [hb])]
    · rw [List.getElem?_set_ne (Ne.symm e), tq_row ha]
      congr 1
      refine List.map_congr_left fun b hb => ?_
      have : (a < i ∨ a = i ∧ b < j) ↔ (a < i ∨ a = i ∧ b < j + 1) := by omega
      simp only [this]
  · rw [List.getElem?_eq_none (by simp [tq, ha]), List.getElem?_eq_none (by simp [tq, ha])]
theorem fac_read {v4 v3 : Nat} {σ : L2.St} {H : Hp} {k : VK} {c n : Int} (h4 : σ[v4]? = some (some (.int c))) (h3 : σ[v3]? = some (some (.int n))) (q : ∀ b : Bool, (b = true ↔ (c = 5 ∨ c = 7 ∧ n = 4)) → k (.bl b) H) :
    tOrV (tOp rEq (tVar v4) (tC (V.int 5))) (tAndV (tOp rEq (tVar v4) (tC (V.int 7))) (tOp rEq (tVar v3) (tC (V.int 4)))) σ H k := by
  have di : ∀ {x y : Int}, (decide (V.int x = V.int y) = true ↔ x = y) := fun {x y} => by rw [dec_int, beq_iff_eq]
  refine ⟨_, h4, rfl, _, rfl, ite2 (fun e => q true ⟨fun _ => .inl (di.mp e), fun _ => rfl⟩) fun e => ?_⟩
  refine ⟨_, h4, rfl, _, rfl, ite2 (fun e7 => ⟨_, h3, rfl, q _ ?_⟩) fun e7 => q false ?_⟩
  · rw [di]
    exact ⟨fun e4 => .inr ⟨di.mp e7, e4⟩, fun o => Or.elim o (fun z => absurd (di.mpr z) e) fun z => z.2⟩
  · exact ⟨(fun z => nomatch z), fun o => Or.elim o (fun z => absurd (di.mpr z) e) fun z => absurd (di.mpr z.1) e7⟩
section
variable {K : PySem.W.Frag} {C : CA}
/-- [1 + draw(source, n) for ..] -/
theorem drawn {vp vn j m : Nat} {σ : L2.St} {H : Hp} {p : Addr} {c : Int} {n : Nat} {M : List Addr} {Qd : Hp → Prop} (ep : σ[vp]? = some (some (.ref p))) (en : σ[vn]? = some (some (.int n))) (jp : j ≠ vp) (jn : j ≠ vn)
    (h1 : 1 ≤ n) (h2 : n ≤ 1000) (hm : m ≤ 1000) (sr : Src H p c) (hc : c ≤ 400000000) (pM : p ∈ M) (al : Al M H) {D : Addr} (nD : H D = none)
    (q : ∀ H4 c4 r, But p H H4 → Src H4 p c4 → c ≤ c4 → c4 ≤ c + m → Al M H4 → Dp K (hid M H4) (.ref D) (rowD r) → r.length = m → (∀ z ∈ r, 1 ≤ z ∧ z ≤ (n : Int)) → Qd H4) :
    ∃ W : Nat → Nat → Hp → Prop, (∃ m', W 0 m' (upd H D (.lst []))) ∧ ∀ i m' H, W i m' H →
      ((Itr 0 m).stop i H ∧ Qd H) ∨ ((Itr 0 m).go i H ∧ ∃ Nx : Hp → Prop, (∀ H', Nx H' → ∃ m2, m2 < m' ∧ W (i + 1) m2 H') ∧ ∀ x H', (Itr 0 m).yld i H x H' → gName j x (wipe σ [j]) H' fun σ2 H2 => wipe σ2 [j] = wipe σ [j] ∧ tYes σ2 H2 fun b H3 =>
        if b = true then (tOp (rI0 fun i j => V.int (i + j)) (tC (V.int 1)) (tCall (sp_Ldraw K C) [] E0 (tCons (tVar vp) (tCons (tVar vn) tNil)))) σ2 H3 fun y H4 => ∃ acc, H4 D = some (.lst acc) ∧ acc.length < sizeLine ∧ Nx (upd H4 D (.lst (acc ++ [y]))) else Nx H3) := by
  have Dp_ : D ≠ p := sr.ne nD
  refine lc_mapR (K := K) M (fun _ d => ∃ z, d = .int z ∧ (1 ≤ z ∧ z ≤ (n : Int))) (fun i H' => But p H H' ∧ ∃ c', Src H' p c' ∧ c ≤ c' ∧ c' ≤ c + i) al nD ⟨But.same (new_same nD), c, sr.keep (new_same nD), by omega, by omega⟩ ?_ (by exact Nat.le_trans hm (by decide)) ?_ ?_
  · rintro i H' o ⟨b, c', s', l1, l2⟩
    exact ⟨fun x o' e hx => by rw [upd_ne (ne_of_none hx nD)]; exact b x o' e hx, c', s'.but But.upd Dp_.symm, l1, l2⟩
  · rintro i H2 hi ⟨keep, al2, b2, c2, s2, l1, l2⟩ κ hk
    refine ⟨by simp [wipe, List.set_set], ?_⟩
    refine ⟨.ref p, by simp [wipe, jp, ep], .int n, by simp [wipe, jn, en], p, n, c2, rfl, s2, by omega, by omega, by omega, fun d H4 c4 d0 d1 b4 s4 l3 l4 => ?_⟩
    refine ⟨_, _, rfl, rfl, ?_⟩
    have al4 := al2.src b4 s4
    exact hk _ H4 (.int (1 + d)) ⟨_, rfl, by omega, by omega⟩ ⟨.int _, b4.hid (List.mem_cons_of_mem _ pM), b4.at_ Dp_ (al2 D (List.mem_cons_self ..)), al4, b2.trans b4, c4, s4, by omega, by omega⟩
  · rintro H2 ds hl hr hd keep al2 ⟨b2, c2, s2, l1, l2⟩ nM
    obtain ⟨r, rfl, hr2⟩ := ints_of hr
    exact q H2 c2 r b2 s2 l1 (by omega) al2 hd (by rw [List.length_map] at hl; omega) hr2
end

theorem fj_sq {c n : Nat} (hc : c < 8) (hn : n ≤ 5) : Sq n (fj c n) 1 n := by
  refine ⟨by simp [fj], fun r hr => ?_, fun r hr z hz => ?_⟩
  · unfold fj at hr
    obtain ⟨i, _, rfl⟩ := List.mem_map.mp hr
    simp
  · unfold fj at hr
    obtain ⟨i, hi, rfl⟩ := List.mem_map.mp hr
    obtain ⟨j, hj, rfl⟩ := List.mem_map.mp hz
    have hi := List.mem_range.mp hi
    have hj := List.mem_range.mp hj
    exact fj_in hc hn (by omega) (by omega)
theorem al_src {H : Hp} {p : Addr} {c : Int} (s : Src H p c) : Al [p] H := fun m hm => by
  rw [List.mem_singleton.mp hm]
  obtain ⟨o, e⟩ := s.some
  rw [e]; exact fun q => nomatch q
theorem mo_small {c n : Nat} {i j : Nat} (h1 : 1 ≤ n) (hi : i < n) (hj : j < n) (h5 : n ≤ 5) : 0 ≤ mo c n (i : Nat) (j : Nat) ∧ mo c n (i : Nat) (j : Nat) ≤ 10 := by
  unfold mo
  split
  · have h : ((i : Int) % 2 = 0) ∨ ((i : Int) % 2 = 1) := by omega
    rcases h with h | h <;> rw [h] <;> omega
  · have h1 := Int.ediv_nonneg (a := (i : Int) + j) (b := (n : Int)) (by omega) (by omega)
    have h2 := Int.ediv_le_self (a := (i : Int) + j) (n : Int) (by omega)
    omega
theorem tt_tbl {c n : Nat} {ws : List Int} {fc : Int} (sb : Sqb n (wt n ws (fj c n)) 299999999997) (hc : c < 8) (h1 : 1 ≤ n) (h5 : n ≤ 5) (f0 : -3 ≤ fc) (f1 : fc ≤ 3) : Tbl n (fj c n) (tt c n ws fc) := by
  refine ⟨fj_sq hc h5, ⟨by simp [tt], fun r hr => ?_, fun r hr z hz => ?_⟩, h1, h5⟩
  · unfold tt at hr
    obtain ⟨i, _, rfl⟩ := List.mem_map.mp hr
    simp
  · unfold tt at hr
    obtain ⟨i, hi, rfl⟩ := List.mem_map.mp hr
    obtain ⟨j, hj, rfl⟩ := List.mem_map.mp hz
    have hw := (sb.2 _ (List.mem_map.mpr ⟨i, hi, rfl⟩)).2 _ (List.mem_map.mpr ⟨j, hj, rfl⟩)
    have hm := mo_small (c := c) h1 (List.mem_range.mp hi) (List.mem_range.mp hj) h5
    have B : BIG = 1000000000000 := rfl
    rw [B]
    generalize mo c n (i : Nat) (j : Nat) = m at hm ⊢
    have hf : fc = -3 ∨ fc = -2 ∨ fc = -1 ∨ fc = 0 ∨ fc = 1 ∨ fc = 2 ∨ fc = 3 := by omega
    rcases hf with rfl | rfl | rfl | rfl | rfl | rfl | rfl <;> omega
theorem row_flat (r : List Int) : PyData.canLay0 (rowD r) = true ∧ PyData.depth (rowD r) = 1 := by
  obtain ⟨h1, h2⟩ := ints_flat r
  exact ⟨by simp [rowD, PyData.canLay0, h1], by simp [rowD, PyData.depth, h2]⟩
theorem row_shaped (r : List Int) : SeqAt.shaped (rowD r) = true := by
  obtain ⟨h1, h2⟩ := row_flat r
  unfold SeqAt.shaped
  rw [h1, h2]; rfl
theorem row_eqv (r : List Int) : PyData.eqv (rowD r) (rowD r) = true := SeqAt.eqv_refl _ (row_flat r).1
theorem pair_eqv (i j : Int) : PyData.eqv (.tuple [.int i, .int j]) (.tuple [.int i, .int j]) = true := SeqAt.eqv_refl _ (by simp [PyData.canLay0, PyData.canLayAll0])
/-- whole numbers of sixteen digits -/
theorem pair_shw {i j : Int} (hi : i.natAbs < 10 ^ 16) (hj : j.natAbs < 10 ^ 16) : Shw (.tuple [.int i, .int j]) := by
  have lg : ∀ {i : Int}, i.natAbs < 10 ^ 16 → i.natAbs.log2 < 54 := fun {i} h => by
    by_cases e : i.natAbs = 0
    · rw [e]; decide
    · exact (Nat.log2_lt e).mpr (Nat.lt_trans h (by decide))
  have li := lg hi
  have lj := lg hj
  refine ⟨?_, by simp [PyData.hasDict, PyData.hasDictAll], by simp [PyData.depth, PyData.depthAll], ?_⟩
  · simp only [PyData.showable, PyData.showableAll, Bool.and_true, Bool.and_eq_true, decide_eq_true_eq]
    omega
  · have ln : ∀ {i : Int}, i.natAbs < 10 ^ 16 → PyData.leavesShort 17 (.int i) = true := fun {i} h => by
      simp only [PyData.leavesShort, decide_eq_true_eq]
      have e := int_text_length_le10 (k := 16) (by decide) h
      show (Str.ofString (toString i)).length ≤ 17
      rw [PySem.ofString_length]; exact e
    have h := PyData.shown_le 17 (by decide) (.tuple [.int i, .int j]) (by simp only [PyData.leavesShort, PyData.leavesShortAll, Bool.and_true, Bool.and_eq_true] at *; exact ⟨by simpa [PyData.leavesShort] using ln hi, by simpa [PyData.leavesShort] using ln hj⟩)
    have w : PyData.weight (.tuple [.int i, .int j]) ≤ 200 := by
      simp only [PyData.weight, PyData.weightAll]
      split <;> split <;> omega
    rw [sizeLine_eq]
    omega
theorem lst_ints {K : PySem.W.Frag} {H : Hp} {a : Addr} {r : List Int} (d : Dp K H (.ref a) (.list (r.map .int))) : SqL K H a (r.map V.int) := by
  obtain ⟨xs, h1, h2⟩ := dp_lst d
  rw [dpAll_ints h2] at h1; exact h1
theorem pr_read {K : PySem.W.Frag} {H : Hp} {a : Addr} {i j : Int} (d : Dp K H (.ref a) (.tuple [.int i, .int j])) : SqT K H a [.int i, .int j] := by
  obtain ⟨xs, h1, h2⟩ := dp_tup d
  rw [dpAll_ints (ns := [i, j]) h2] at h1; exact h1
theorem tot_in {n : Nat} {g t : List (List Int)} (F : Firm n g t) {ks : List Int} (h : ks ≠ []) (hk : ∀ k ∈ ks, 1 ≤ k ∧ k ≤ n) : 1 ≤ (tot g t ks).1 ∧ (tot g t ks).1 ≤ n := by
  cases ks with
  | nil => exact absurd rfl h
  | cons a r => exact fold_in F (ks := r) (s := (a, 0)) (hk a (List.mem_cons_self ..)) fun x hx => hk x (List.mem_cons_of_mem _ hx)
theorem ixT {K : PySem.W.Frag} {vg v1 v2 : Nat} {σ : L2.St} {H : Hp} {k : VK} {J Y1 Y2 : Addr} {n : Nat} {g : List (List Int)} {lo hi : Int} {u1 u2 : Int × Int} (eg : σ[vg]? = some (some (.ref J))) (e1 : σ[v1]? = some (some (.ref Y1))) (e2 : σ[v2]? = some (some (.ref Y2)))
    (d : Dp K H (.ref J) (gD g)) (s : Sq n g lo hi) (h1 : SqT K H Y1 [.int u1.1, .int u1.2]) (h2 : SqT K H Y2 [.int u2.1, .int u2.2]) (hx : 1 ≤ u1.1 ∧ u1.1 ≤ n) (hy : 1 ≤ u2.1 ∧ u2.1 ≤ n) (q : k (.int (at2 g u1.1 u2.1)) H) :
    tOp (rIxL K) (tOp (rIxL K) (tVar vg) (tOp (rI0 fun i j => V.int (i - j)) (tOp (rIxT K) (tVar v1) (tC (V.int 0))) (tC (V.int 1)))) (tOp (rI0 fun i j => V.int (i - j)) (tOp (rIxT K) (tVar v2) (tC (V.int 0))) (tC (V.int 1))) σ H k := by
  obtain ⟨gx, hg, lg, gr⟩ := g_row d s.len s.row
  obtain ⟨b, r, i1, hb, e3, _, lr⟩ := gr (u1.1 - 1) (by omega) (by omega)
  obtain ⟨v, e4, i2, _⟩ := r_cell (y := u2.1 - 1) lr (by omega) (by omega)
  have ev : at2 g u1.1 u2.1 = v := by simp only [at2, List.getD_eq_getElem?_getD, e3, e4, Option.getD_some]
  rw [ev] at q
  exact ⟨_, eg, _, e1, Y1, _, 0, _, rfl, rfl, h1, rfl, _, _, rfl, rfl, J, _, _, .ref b, rfl, rfl, hg, i1, _, e2, Y2, _, 0, _, rfl, rfl, h2, rfl, _, _, rfl, rfl, b, _, _, .int v, rfl, rfl, hb, i2, q⟩
section
variable {P : Program} {w : World} {K : PySem.W.Frag} {mg : Str → Option Value} {base : Heap} {C : CA}
abbrev s_law : Stmt := topS 33
abbrev N_law : List Str := ["_law_script", "_law_cell", "_law_source_here", "_law_size", "_law_choice", "_law_joins_here", "_law_weights", "_law_tolls", "_law_factor", "_law_x", "_law_table", "_law_row", "_law_other", "_law_original", "_law_expected", "_law_base", "_law_at", "_law_y", "_law_kind", "_law_paid", "_law_more", "_law_k", "_law_one"]
abbrev P_law : List Str := ["_law_script"]
theorem sc_law : FnScope N_law P_law (defScope s_law) := ⟨rfl, rfl, rfl, by decide +kernel, rfl, by decide +kernel, by decide +kernel⟩
def sp_law (K : PySem.W.Frag) (_ : CA) : Sp := fun vs H Q _ => ∃ (a : Addr) (ns : List Int), vs = [.ref a] ∧ SqL K H a (ns.map V.int) ∧ ns.length ≤ 63 ∧ ∀ H', Q (.bl true) H'
theorem ok_law {f : Addr} {fd : FuncData} (F : Fun K "law" "law" s_law f fd) (B : Bi mg) (T_Table : ClsT K mg "Table" C.table) (A_Table : ∀ f ∈ (["results", "prices"] : List Str), NoAttr K C.table f) (c_Lsource : Cal P w K mg base CX0 "_law_source" 1 P_Lsource (sp_Lsource K C)) (c_Ldraw : Cal P w K mg base CX0 "_law_draw" 1 P_Ldraw (sp_Ldraw K C)) (c_Lfirm_joins : Cal P w K mg base CX0 "_law_firm_joins" 1 P_Lfirm_joins (sp_Lfirm_joins K C)) (c_Lnumbers : Cal P w K mg base CX0 "_law_numbers" 3 P_Lnumbers (sp_Lnumbers K C)) (c_Lworth_tolls : Cal P w K mg base CX0 "_law_worth_tolls" 1 P_Lworth_tolls (sp_Lworth_tolls K C)) (c_Table___init__ : ICal P w K mg base CX0 C.table 5 P_Table___init__ (sp_Table___init__ K C)) (c_Lcell_at : Cal P w K mg base CX0 "_law_cell_at" 1 P_Lcell_at (sp_Lcell_at K C)) (c_three : Cal P w K mg base CX0 "three" 6 P_three (sp_three K C)) (c_total : Cal P w K mg base CX0 "total" 7 P_total (sp_total K C)) (c_Lpick : Cal P w K mg base CX0 "_law_pick" 2 P_Lpick (sp_Lpick K C)) : FnG P w K mg base 8 f fd P_law (sp_law K C) := by
  refine okG F sc_law (fun vs H Q E h => ?_) (fun cdv A outer s H vs Q E hG hr h => ?_)
  · obtain ⟨a, ns, rfl, hx, hl, q⟩ := h; rfl
  obtain ⟨a, ns, rfl, hx, hl, q⟩ := h
  refine ⟨_, (pss_cons (ps_for PassesOwn.never rfl (pi_list (pe_op op_cat (pe_lst (pa_cons (pe_call c_Lcell_at.ok (hr.mono (by decide)) (by rfl) c_Lcell_at.g c_Lcell_at.kp c_Lcell_at.b .nil pass0 (pa_cons (pv 0) (pa_cons pe_int pa_nil))) pa_nil)) (pe_slice sl_list (pv 0) (po_some pe_int) (po_some pe_int)))) (pg_name (i := 1) sc_law.nd rfl (Or.inl rfl)) (pss_cons (ps_set (i := 2) sc_law.nd rfl (Or.inr rfl) (pe_call c_Lsource.ok (hr.mono (by decide)) (by rfl) c_Lsource.g c_Lsource.kp c_Lsource.b .nil pass0 (pa_cons (pv 1) pa_nil)))
      (pss_cons (ps_set (i := 3) sc_law.nd rfl (Or.inr rfl) (pe_op op_add pe_int (pe_call c_Ldraw.ok (hr.mono (by decide)) (by rfl) c_Ldraw.g c_Ldraw.kp c_Ldraw.b .nil pass0 (pa_cons (pv 2) (pa_cons pe_int pa_nil)))))
      (pss_cons (ps_set (i := 4) sc_law.nd rfl (Or.inl rfl) (pe_call c_Ldraw.ok (hr.mono (by decide)) (by rfl) c_Ldraw.g c_Ldraw.kp c_Ldraw.b .nil pass0 (pa_cons (pv 2) (pa_cons pe_int pa_nil))))
      (pss_cons (ps_set (i := 5) sc_law.nd rfl (Or.inl rfl) (pe_call c_Lfirm_joins.ok (hr.mono (by decide)) (by rfl) c_Lfirm_joins.g c_Lfirm_joins.kp c_Lfirm_joins.b .nil pass0 (pa_cons (pv 4) (pa_cons (pv 3) pa_nil))))
      (pss_cons (ps_set (i := 6) sc_law.nd rfl (Or.inr rfl) (pe_call c_Lnumbers.ok (hr.mono (by decide)) (by rfl) c_Lnumbers.g c_Lnumbers.kp c_Lnumbers.b .nil pass0 (pa_cons (pv 2) (pa_cons (pv 3) pa_nil))))
      (pss_cons (ps_set (i := 7) sc_law.nd rfl (Or.inl rfl) (pe_call c_Lworth_tolls.ok (hr.mono (by decide)) (by rfl) c_Lworth_tolls.g c_Lworth_tolls.kp c_Lworth_tolls.b .nil pass0 (pa_cons (pv 5) (pa_cons (pv 6) pa_nil))))
      (pss_cons (ps_set (i := 8) sc_law.nd rfl (Or.inl rfl) (pe_op op_mul (pe_op op_sub (pe_call c_Ldraw.ok (hr.mono (by decide)) (by rfl) c_Ldraw.g c_Ldraw.kp c_Ldraw.b .nil pass0 (pa_cons (pv 2) (pa_cons pe_int pa_nil))) pe_int) (pe_callTy (T := "int") call_int1 (by rfl) B.n_int (by decide +kernel) (pa_cons (pe_or (pe_cmpR op_eq (pv 4) pe_int (nomark _)) (pe_one (pe_and (pe_cmpR op_eq (pv 4) pe_int (nomark _)) (pe_one (pe_cmpR op_eq (pv 3) pe_int (nomark _)))))) pa_nil))))
      (pss_cons (ps_for PassesOwn.never rfl (pi_range1 (by rfl) B.n_range (pa_cons (pv 3) pa_nil)) (pg_name (i := 9) sc_law.nd rfl (Or.inl rfl)) (pss_one (ps_for PassesOwn.never rfl (pi_range1 (by rfl) B.n_range (pa_cons (pv 3) pa_nil)) (pg_name (i := 17) sc_law.nd rfl (Or.inl rfl)) (pss_cons (ps_set (i := 20) sc_law.nd rfl (Or.inl rfl) (pe_ix ix_list (pe_lst (pa_cons (pe_op op_fdiv (pe_op op_add (pv 9) (pv 17)) (pv 3)) (pa_cons (pe_op op_mul (pe_op op_mod (pv 9) pe_int) (pe_op op_fdiv (pv 17) pe_int)) pa_nil))) (pe_callTy (T := "int") call_int1 (by rfl) B.n_int (by decide +kernel) (pa_cons (pe_cmpR op_eq (pv 4) pe_int (nomark _)) pa_nil)) (fun _ _ => rfl)))
      (pss_one (ps_asg (pe_op op_add (pe_ix ix_list (pe_ix ix_list (pv 7) (pv 9) (fun _ _ => rfl)) (pv 17) (fun _ _ => rfl)) (pe_op op_mul (pv 8) (pv 20))) (pg_sub (pe_ix ix_list (pv 7) (pv 9) (fun _ _ => rfl)) (pv 17) set_list)))))))
      (pss_cons (ps_set (i := 10) sc_law.nd rfl (Or.inl rfl) (pe_make c_Table___init__.ma c_Table___init__.ok (hr.mono (by decide)) (by rfl) T_Table.g c_Table___init__.b .nil pass0 (pa_cons (pv 5) (pa_cons (pv 7) pa_nil))))
      (pss_cons (ps_setLc (i := 11) (own := [("_law_k", 21)]) rfl sc_law.nd rfl rfl (sw_true rfl rfl rfl (by decide +kernel)) (te := (tOp (rI0 fun i j => .int (i + j)) (tC (.int 1)) (tCall (sp_Ldraw K C) [] E0 (tCons (tVar 2) (tCons (tVar 3) tNil))))) (tt := tYes) (pi_range1 (by rfl) B.n_range (pa_cons (pe_call c_Lpick.ok (hr.mono (by decide)) (by rfl) c_Lpick.g c_Lpick.kp c_Lpick.b .nil pass0 (pa_cons (pv 2) (pa_cons (pe_lst (pa_cons pe_int (pa_cons pe_int (pa_cons pe_int (pa_cons pe_int (pa_cons pe_int pa_nil)))))) pa_nil))) pa_nil)) (blkOk_by (own := [("_law_k", 21)]) (N := N_law) (sc := defScope s_law) (by decide +kernel)) (fun _ _ _ _ _ => (pg_name (i := 21) sc_law.nd rfl (Or.inl rfl))) (fun _ _ _ _ _ => pts_nil) (fun _ _ _ _ _ => (pe_op op_add pe_int (pe_call c_Ldraw.ok (hr.mono (by decide)) (by rfl) c_Ldraw.g c_Ldraw.kp c_Ldraw.b .nil pass0 (pa_cons (pv 2) (pa_cons (pv 3) pa_nil))))))
      (pss_cons (ps_par (i := 18) (j := 19) rfl sc_law.nd rfl rfl (by decide) rfl rfl (pa_cons (pe_ix ix_list (pv 11) pe_int (fun _ _ => rfl)) (pa_cons pe_int pa_nil)) (by rfl))
      (pss_cons (ps_for PassesOwn.never rfl (pi_list (pe_slice sl_list (pv 11) (po_some pe_int) po_none)) (pg_name (i := 12) sc_law.nd rfl (Or.inl rfl)) (pss_cons (ps_set (i := 19) sc_law.nd rfl (Or.inl rfl) (pe_op op_add (pv 19) (pe_ix ix_list (pe_ix ix_list (pv 7) (pe_op op_sub (pv 18) pe_int) (fun _ _ => rfl)) (pe_op op_sub (pv 12) pe_int) (fun _ _ => rfl))))
      (pss_one (ps_set (i := 18) sc_law.nd rfl (Or.inl rfl) (pe_ix ix_list (pe_ix ix_list (pv 5) (pe_op op_sub (pv 18) pe_int) (fun _ _ => rfl)) (pe_op op_sub (pv 12) pe_int) (fun _ _ => rfl))))))
      (pss_cons (ps_set (i := 13) sc_law.nd rfl (Or.inl rfl) (pe_callTy (T := "list") call_list_of (by rfl) B.n_list (by decide +kernel) (pa_cons (pv 11) pa_nil)))
      (pss_cons (ps_set (i := 14) sc_law.nd rfl (Or.inl rfl) (pe_tup (pa_cons (pv 18) (pa_cons (pv 19) pa_nil))))
      (pss_cons (ps_set (i := 15) sc_law.nd rfl (Or.inl rfl) (pe_callB (id := "sum") (cr_sum rfl) (by rfl) B.n_sum (by decide +kernel) (pa_cons (pe_lc (own := [("_law_one", 22)]) rfl sc_law.nd (te := (tOp (rIxL K) (tVar 6) (tOp (rI0 fun i j => .int (i - j)) (tVar 22) (tC (.int 1))))) (tt := tYes) (pi_list (pv 11)) (blkOk_by (own := [("_law_one", 22)]) (N := N_law) (sc := defScope s_law) (by decide +kernel)) (fun _ _ _ _ _ => (pg_name (i := 22) sc_law.nd rfl (Or.inl rfl))) (fun _ _ _ _ _ => pts_nil) (fun _ _ _ _ _ => (pe_ix ix_list (pv 6) (pe_op op_sub (pv 22) pe_int) (fun _ _ => rfl)))) pa_nil)))
      (pss_cons (ps_if (PW.pt (pw_and (pt_cmpR op_eq (pv 8) pe_int (nomark _)) (pw_and1 (pt_cmpR op_ne (pv 19) (pe_op op_sub (pv 15) (pe_ix ix_list (pv 6) (pe_op op_sub (pv 18) pe_int) (fun _ _ => rfl))) (nomark _))))) (pss_one (ps_ret pe_bl)) pss_nil)
      (pss_cons (ps_if (PW.pt (pw_or (pt_cmpR (op_neD hr.units) (pe_call c_three.ok (hr.mono (by decide)) (by rfl) c_three.g c_three.kp c_three.b .nil pass0 (pa_cons (pv 10) pa_nil)) (pe_tup (pa_cons pe_str pa_nil)) (nomark _)) (pw_or (pt_cmpR op_ne (pe_callB (id := "repr") (call_repr hG hr) (by rfl) B.n_repr (by decide +kernel) (pa_cons (pe_call c_total.ok (hr.mono (by decide)) (by rfl) c_total.g c_total.kp c_total.b .nil pass0 (pa_cons (pv 10) (pa_cons (pv 11) pa_nil))) pa_nil)) (pe_callB (id := "repr") (call_repr hG hr) (by rfl) B.n_repr (by decide +kernel) (pa_cons (pv 14) pa_nil)) (nomark _)) (pw_or1 (pt_cmpR (op_neD hr.units) (pv 11) (pv 13) (nomark _)))))) (pss_one (ps_ret pe_bl)) pss_nil)
      (pss_cons (ps_set (i := 16) sc_law.nd rfl (Or.inl rfl) (pe_call c_Ldraw.ok (hr.mono (by decide)) (by rfl) c_Ldraw.g c_Ldraw.kp c_Ldraw.b .nil pass0 (pa_cons (pv 2) (pa_cons (pe_callB (id := "len") call_len (by rfl) B.n_len (by decide +kernel) (pa_cons (pv 11) pa_nil)) pa_nil))))
      (pss_one (ps_if (pt_cmpR op_gt (pv 16) pe_int (nomark _)) (pss_cons (ps_par (i := 22) (j := 12) rfl sc_law.nd rfl rfl (by decide) rfl rfl (pa_cons (pe_call c_total.ok (hr.mono (by decide)) (by rfl) c_total.g c_total.kp c_total.b .nil pass0 (pa_cons (pv 10) (pa_cons (pe_slice sl_list (pv 11) po_none (po_some (pv 16))) pa_nil))) (pa_cons (pe_call c_total.ok (hr.mono (by decide)) (by rfl) c_total.g c_total.kp c_total.b .nil pass0 (pa_cons (pv 10) (pa_cons (pe_slice sl_list (pv 11) (po_some (pv 16)) po_none) pa_nil))) pa_nil)) (by rfl))
      (pss_cons (ps_set (i := 19) sc_law.nd rfl (Or.inl rfl) (pe_op op_add (pe_op op_add (pe_ix ix_tup (pv 22) pe_int (fun _ _ => rfl)) (pe_ix ix_tup (pv 12) pe_int (fun _ _ => rfl))) (pe_ix ix_list (pe_ix ix_list (pv 7) (pe_op op_sub (pe_ix ix_tup (pv 22) pe_int (fun _ _ => rfl)) pe_int) (fun _ _ => rfl)) (pe_op op_sub (pe_ix ix_tup (pv 12) pe_int (fun _ _ => rfl)) pe_int) (fun _ _ => rfl))))
      (pss_one (ps_if (pt_cmpR (op_neD hr.units) (pe_tup (pa_cons (pe_ix ix_list (pe_ix ix_list (pv 5) (pe_op op_sub (pe_ix ix_tup (pv 22) pe_int (fun _ _ => rfl)) pe_int) (fun _ _ => rfl)) (pe_op op_sub (pe_ix ix_tup (pv 12) pe_int (fun _ _ => rfl)) pe_int) (fun _ _ => rfl)) (pa_cons (pv 19) pa_nil))) (pv 14) (nomark _)) (pss_one (ps_ret pe_bl)) pss_nil)))) pss_nil)))))))))))))))))))))
      (pss_one (ps_ret pe_bl))), ?_⟩
  refine ⟨_, rfl, a, ns, rfl, hx, hl, fun z => ⟨sz1, fun U nU => ?_⟩⟩
  have t1 := new_same (o := .lst [.int z]) nU
  have e1 : (upd H U (.lst [.int z])) U = some (.lst [.int z]) := upd_same
  generalize upd H U (.lst [.int z]) = H1 at t1 e1 ⊢
  obtain ⟨ms, em, lm⟩ := cut_ints (ns := ns) (lo := some 1) (hi := some 4)
  refine ⟨_, rfl, _, rfl, _, rfl, a, _, rfl, t1.seq hx, fun W nW => ?_⟩
  rw [em]
  have t2 := new_same (o := .lst (ms.map V.int)) nW
  have e2 : (upd H1 W (.lst (ms.map V.int))) W = some (.lst (ms.map V.int)) := upd_same
  generalize upd H1 W (.lst (ms.map V.int)) = H2 at t2 e2 ⊢
  refine ⟨U, W, _, _, rfl, rfl, t2 _ _ e1, e2, by rw [List.length_map]; exact Nat.le_trans (show 1 + ms.length ≤ 64 by omega) (by decide), fun L nL => ?_⟩
  have hL : SqL K (upd H2 L (.lst ([V.int z] ++ ms.map V.int))) L ((z :: ms).map V.int) := .of upd_same
  generalize upd H2 L (.lst ([V.int z] ++ ms.map V.int)) = H3 at hL ⊢
  refine ⟨L, rfl, ⟨_, hL⟩, for_list (xs := (z :: ms).map V.int) (fun _ σ H' => ∃ v1 v2 v3 v4 v5 v6 v7 v8 v9 v10 v11 v12 v13 v14 v15 v16 v17 v18 v19 v20 v21 v22, σ = [some (.ref a), v1, v2, v3, v4, v5, v6, v7, v8, v9, v10, v11, v12, v13, v14, v15, v16, v17, v18, v19, v20, v21, v22] ∧ Same H3 H') ⟨_, _, _, _, _, _, _, _, _, _, _, _, _, _, _, _, _, _, _, _, _, _, rfl, .refl _⟩ (fun _ σ H' _ ⟨_, _, _, _, _, _, _, _, _, _, _, _, _, _, _, _, _, _, _, _, _, _, _, s⟩ => s.seq hL) ?_ ?_⟩
  · rintro i x σ H4 hi ⟨v1, v2, v3, v4, v5, v6, v7, v8, v9, v10, v11, v12, v13, v14, v15, v16, v17, v18, v19, v20, v21, v22, rfl, s4⟩
    obtain ⟨y, rfl, _⟩ := pick_ints hi
    refine ⟨_, rfl, y, rfl, fun p H5 np s5 sr5 => ?_⟩
    have n3 : H3 p = none := by
      cases e : H3 p with
      | none => rfl
      | some o => rw [s4 _ _ e] at np; cases np
    have al5 : Al [p] H5 := fun m hm => by
      rw [List.mem_singleton.mp hm]
      obtain ⟨o, e⟩ := sr5.some
      rw [e]; exact fun q => nomatch q
    have pM : p ∈ [p] := List.mem_singleton.mpr rfl
    refine ⟨_, rfl, p, 5, 0, rfl, sr5, by decide, by decide, by decide, fun d H6 c6 d0 d5 b6 sr6 l6 l6' => ⟨_, _, rfl, rfl, ?_⟩⟩
    obtain ⟨n, hn, n1, n5⟩ : ∃ n : Nat, (1 : Int) + d = n ∧ 1 ≤ n ∧ n ≤ 5 := ⟨(1 + d).toNat, by omega, by omega, by omega⟩
    dsimp only
    rw [hn]
    refine ⟨_, rfl, p, 8, c6, rfl, sr6, by omega, by decide, by decide, fun ch H7 c7 ch0 ch8 b7 sr7 l7 l7' => ?_⟩
    obtain ⟨c, rfl⟩ : ∃ c : Nat, ch = c := ⟨ch.toNat, by omega⟩
    have hc : c < 8 := by omega
    have al7 := (al5.src b6 sr6).src b7 sr7
    have sq := fj_sq hc n5
    refine ⟨_, rfl, _, rfl, c, n, [p], rfl, hc, n1, n5, al7, fun J H8 s8 al8 dJ => ?_⟩
    refine ⟨_, rfl, _, rfl, p, n, c7, [p], rfl, by omega, sr7.keep s8, by omega, pM, al8, fun W H9 c9 ws b9 sr9 l9 l9' al9 dW lW hW => ?_⟩
    have dJ9 := dJ.mono (b9.hid pM)
    refine ⟨_, rfl, _, rfl, J, W, n, fj c n, ws, rfl, n1, n5, dJ9.mono hid_le, sq, dW.mono hid_le, lW, hW, fun R H10 rs t s10 nR nrs raw sb et => ?_⟩
    subst et
    have al10 := al9.mono s10
    refine ⟨_, rfl, p, 7, c9, rfl, sr9.keep s10, by omega, by decide, by decide, fun e H11 c11 he0 he7 b11 sr11 l11 l11' => ⟨_, _, rfl, rfl, ?_⟩⟩
    refine fac_read (c := c) (n := n) rfl rfl fun fb hfb => .inr ⟨_, rfl, _, _, rfl, rfl, .inl ⟨by omega, by omega⟩, ?_⟩
    have hfc : Fac c n ((e - 3) * (if fb = true then 1 else 0)) ∧ -3 ≤ (e - 3) * (if fb = true then 1 else 0) ∧ (e - 3) * (if fb = true then 1 else 0) ≤ 3 := by
      cases fb with
      | true =>
        refine ⟨.inr ?_, by simp; omega, by simp; omega⟩
        have := hfb.mp rfl
        omega
      | false => exact ⟨.inl (by simp), by simp, by simp⟩
    dsimp only
    generalize (e - 3) * (if fb = true then 1 else 0) = fc at hfc ⊢
    obtain ⟨hf, f0, f1⟩ := hfc
    have Rp : R ≠ p := sr9.ne nR
    have prs : p ∉ rs := fun z => sr9.ne (nrs p z) rfl
    have raw11 := raw.but b11 Rp prs
    have al11 := al10.src b11 sr11
    have n11 : ∀ r ∈ rs, r ∉ [p] := fun r hr => al9.new (nrs r hr)
    refine ⟨_, rfl, n, rfl, by omega, by omega, for_range (lo := 0) (n := ((n : Int)).toNat) (fun i σ H' => ∃ v9 v10 v11 v12 v13 v14 v15 v16 v17 v18 v19 v20 v21 v22, σ = [some (.ref a), some (.int y), some (.ref p), some (.int n), some (.int c), some (.ref J), some (.ref W), some (.ref R), some (.int fc), v9, v10, v11, v12, v13, v14, v15, v16, v17, v18, v19, v20, v21, v22] ∧ Out rs H11 H' ∧ RawG H' R rs (tq c n ws fc i 0)) ⟨_, _, _, _, _, _, _, _, _, _, _, _, _, _, rfl, .refl, by rw [tq_0]; exact raw11⟩ ?_ ?_⟩
    · rintro i σ H12 hi ⟨v9, v10, v11, v12, v13, v14, v15, v16, v17, v18, v19, v20, v21, v22, rfl, o12, raw12⟩
      have hin : i < n := by omega
      refine ⟨_, rfl, n, rfl, by omega, by omega, for_range (lo := 0) (n := ((n : Int)).toNat) (fun j σ H' => ∃ v10 v11 v12 v13 v14 v15 v16 v17 v18 v19 v20 v21 v22, σ = [some (.ref a), some (.int y), some (.ref p), some (.int n), some (.int c), some (.ref J), some (.ref W), some (.ref R), some (.int fc), some (.int (0 + (i : Int))), v10, v11, v12, v13, v14, v15, v16, v17, v18, v19, v20, v21, v22] ∧ Out rs H11 H' ∧ RawG H' R rs (tq c n ws fc i j)) ⟨_, _, _, _, _, _, _, _, _, _, _, _, _, rfl, o12, raw12⟩ ?_ ?_⟩
      · rintro j σ H13 hj ⟨v10, v11, v12, v13, v14, v15, v16, v17, v18, v19, v20, v21, v22, rfl, o13, raw13⟩
        have hjn : j < n := by omega
        have lrs : rs.length = n := raw13.len.trans (by simp [tq])
        obtain ⟨r, er⟩ : ∃ r, rs[i]? = some r := ⟨_, List.getElem?_eq_getElem (by omega)⟩
        have mr : r ∈ rs := List.mem_of_getElem? er
        have el := tq_row (c := c) (ws := ws) (f := fc) (i := i) (j := j) hin
        have ir : atI (rs.map V.ref) (0 + (i : Int)) = some (.ref r) := by rw [Int.zero_add]; exact atI_nat (by rw [List.getElem?_map, er]; rfl)
        have iv : atI (((List.range n).map fun b => wtv ws (fj c n) i b + if i < i ∨ i = i ∧ b < j then fc * mo c n (i : Nat) (b : Nat) else 0).map V.int) (0 + (j : Int)) = some (.int (wtv ws (fj c n) i j)) := by
          rw [Int.zero_add]
          exact atI_nat (by simp [List.getElem?_map, List.getElem?_range hjn])
        have il : ixN (((List.range n).map fun b => wtv ws (fj c n) i b + if i < i ∨ i = i ∧ b < j then fc * mo c n (i : Nat) (b : Nat) else 0).map V.int).length (0 + (j : Int)) = some j := by
          rw [Int.zero_add]; exact ixN_of (by simp [hjn])
        refine ⟨_, rfl, _, rfl, _, _, rfl, rfl, _, rfl, _, _, rfl, rfl, ⟨by omega, by omega⟩, _, rfl, _, _, rfl, rfl, by show (0 : Int) < 2; decide, _, rfl, _, _, rfl, rfl, ⟨by decide, by decide⟩, _, _, rfl, rfl, .inl ⟨by omega, by omega⟩, sz2, fun Y nY => ?_⟩
        dsimp only
        have t14 := new_same (o := .lst [.int ((0 + (i : Int) + (0 + (j : Int))) / (n : Int)), .int ((0 + (i : Int)) % 2 * ((0 + (j : Int)) / 2))]) nY
        have eY : (upd H13 Y (.lst [.int ((0 + (i : Int) + (0 + (j : Int))) / (n : Int)), .int ((0 + (i : Int)) % 2 * ((0 + (j : Int)) / 2))])) Y = some (.lst [.int ((0 + (i : Int) + (0 + (j : Int))) / (n : Int)), .int ((0 + (i : Int)) % 2 * ((0 + (j : Int)) / 2))]) := upd_same
        generalize upd H13 Y (.lst [.int ((0 + (i : Int) + (0 + (j : Int))) / (n : Int)), .int ((0 + (i : Int)) % 2 * ((0 + (j : Int)) / 2))]) = H14 at t14 eY ⊢
        have em : (if (c : Int) = 7 then (0 + (i : Int)) % 2 * ((0 + (j : Int)) / 2) else (0 + (i : Int) + (0 + (j : Int))) / (n : Int)) = mo c n (i : Nat) (j : Nat) := by
          unfold mo
          rw [Int.zero_add, Int.zero_add]
          by_cases h7 : c = 7
          · rw [if_pos h7, if_pos (by omega)]
          · rw [if_neg h7, if_neg (by omega)]
        have raw14 := raw13.keep t14
        refine ⟨_, rfl, rfl, .inr ⟨_, rfl, Y, _, _, _, rfl, rfl, .of eY, pick2, ?_⟩⟩
        rw [em]
        refine ⟨_, rfl, _, rfl, R, _, _, .ref r, rfl, rfl, .of raw14.at_, ir, _, rfl, r, _, _, _, rfl, rfl, .of (raw14.row i r _ er el), iv, _, rfl, _, rfl, _, _, rfl, rfl, .inl ⟨by omega, by omega⟩, _, _, rfl, rfl, ?_⟩
        refine ⟨_, rfl, _, rfl, R, _, _, .ref r, rfl, rfl, .of raw14.at_, ir, _, rfl, r, _, _, j, rfl, rfl, raw14.row i r _ er el, il, ?_⟩
        have rw15 := raw14.set (j := j) (v := wtv ws (fj c n) i j + fc * mo c n (i : Nat) (j : Nat)) er el
        rw [tq_set hin hjn] at rw15
        exact ⟨_, _, _, _, _, _, _, _, _, _, _, _, _, rfl, (o13.then t14).write mr, rw15⟩
      · rintro σ H13 ⟨v10, v11, v12, v13, v14, v15, v16, v17, v18, v19, v20, v21, v22, rfl, o13, raw13⟩
        have en : ((n : Int)).toNat = n := by omega
        rw [en, tq_j] at raw13
        exact ⟨_, _, _, _, _, _, _, _, _, _, _, _, _, _, rfl, o13, raw13⟩
    · rintro σ H12 ⟨v9, v10, v11, v12, v13, v14, v15, v16, v17, v18, v19, v20, v21, v22, rfl, o12, raw12⟩
      have en : ((n : Int)).toNat = n := by omega
      rw [en, tq_n] at raw12
      have sr12 : Src H12 p c11 := by
        obtain ⟨u, v, h, q⟩ := sr11.at_
        exact ⟨u, v, o12 _ _ prs h, q⟩
      have al12 := al_src sr12
      have up : ∀ {d v}, Dp K (hid [p] H9) v d → Dp K (hid [p] H12) v d := fun h => ((((h.mono (hid_fresh nrs)).mono s10.hid).mono (b11.hid (List.mem_cons_self ..))).mono (o12.hid fun r hr => List.mem_cons_of_mem _ hr)).mono hid_more
      have dJ12 := up dJ9
      have dW12 := up dW
      have dR12 := raw12.dp (K := K) (M := [p]) (al9.new nR) n11
      have b912 : But p H9 H12 := fun b o ne h => o12 b o (fun z => by rw [nrs b z] at h; cases h) (b11 b o ne (s10 b o h))
      have b312 : But p H3 H12 := (But.same (s4.trans s5)).trans (((b6.trans b7).then s8).trans (b9.trans b912))
      have T' := tt_tbl sb hc n1 n5 f0 f1
      have F' := fj_firm (ws := ws) hc n5 hf
      have fi := stmt_firm (ws := ws) hc n5 hf
      refine ⟨_, rfl, _, rfl, fun x dx nx nd ndx => ?_⟩
      have t13 := made_same (a := .own x) (b := .ins C.table dx []) nx nd ndx
      have e13 : (upd (upd H12 dx (.own x)) x (.ins C.table dx [])) x = some (.ins C.table dx []) := upd_same
      generalize upd (upd H12 dx (.own x)) x (.ins C.table dx []) = H13 at t13 e13 ⊢
      refine ⟨x, dx, _, _, n, fj c n, tt c n ws fc, [p], rfl, e13, al12.new nx, al12.mono t13, dJ12.mono t13.hid, dR12.mono t13.hid, T', fun H14 b14 tb14 al14 => ⟨rfl, ?_⟩⟩
      have s14 : Same H12 H14 := fun b o e => b14 _ _ (ne_of_none e nx) (t13 _ _ e)
      have dJ14 := dJ12.mono s14.hid
      have dW14 := dW12.mono s14.hid
      have dR14 := dR12.mono s14.hid
      have sr14 := sr12.keep s14
      refine ⟨_, rfl, sz5, fun U2 nU2 => ?_⟩
      have t15 := new_same (o := .lst [.int 1, .int 2, .int 9, .int 200, .int 1000]) nU2
      have e15 : hid [p] (upd H14 U2 (.lst [.int 1, .int 2, .int 9, .int 200, .int 1000])) U2 = some (.lst ([1, 2, 9, 200, 1000].map V.int)) := hid_new al14 nU2
      generalize upd H14 U2 (.lst [.int 1, .int 2, .int 9, .int 200, .int 1000]) = H15 at t15 e15 ⊢
      refine ⟨p, U2, _, c11, [p], rfl, sr14.keep t15, by omega, pM, .of e15, by decide, by decide, fun i1 x1 H16 c16 ei1 b16 sr16 l16 l16' => ?_⟩
      obtain ⟨m, rfl, hm⟩ := pick_ints ei1
      have hm1 : 1 ≤ m ∧ m ≤ 1000 := by
        simp only [List.mem_cons, List.not_mem_nil, or_false] at hm
        omega
      have b1416 : But p H14 H16 := But.aft t15 b16
      have al16 := (al14.mono t15).src b16 sr16
      refine ⟨m, rfl, by omega, by omega, fun D nD => ?_⟩
      refine drawn (K := K) (C := C) (vp := 2) (vn := 3) (j := 21) (m := m.toNat) (n := n) (c := c16) (M := [p]) ?_ ?_ (by decide) (by decide) n1 (by omega) (by omega) sr16 (by omega) pM al16 nD fun H17 c17 r b17 sr17 l17 l17' al17 dr lr hr' => ?_
      · rfl
      · rfl
      have b1417 : But p H14 H17 := b1416.trans b17
      have g17 : Same (hid [p] H14) (hid [p] H17) := b1417.hid pM
      have dJ17 := dJ14.mono g17
      have dW17 := dW14.mono g17
      have dR17 := dR14.mono g17
      have tb17 := tb14.mono g17
      have hD : SqL K (hid [p] H17) D (r.map V.int) := by
        obtain ⟨xs, h1, h2⟩ := dp_lst dr
        rw [dpAll_ints h2] at h1; exact h1
      have row : RowAt K (hid [p] H17) D n r := ⟨hD, hr', by omega, by omega⟩
      obtain ⟨k0, rest, rfl⟩ : ∃ k0 rest, r = k0 :: rest := by
        cases r with
        | nil => simp at lr; omega
        | cons a b => exact ⟨a, b, rfl⟩
      have hk0 := hr' k0 (List.mem_cons_self ..)
      refine ⟨_, rfl, D, _, 0, _, rfl, rfl, hD.mono hid_le, atI_nat (j := 0) rfl, _, _, rfl, ?_⟩
      have fr : cutV ((k0 :: rest).map V.int) (some 1) none = rest.map V.int := cut_from (ns := k0 :: rest) (k := 1) (by show 1 ≤ rest.length + 1; omega)
      refine ⟨_, rfl, _, rfl, D, _, rfl, hD.mono hid_le, fun Z nZ => ?_⟩
      rw [fr]
      have s18 := new_same (o := .lst (rest.map V.int)) nZ
      have eZ : SqL K (upd H17 Z (.lst (rest.map V.int))) Z (rest.map V.int) := .of upd_same
      generalize upd H17 Z (.lst (rest.map V.int)) = H18 at s18 eZ ⊢
      have dJ18 := (dJ17.mono s18.hid).mono hid_le
      have dR18 := (dR17.mono s18.hid).mono hid_le
      refine ⟨Z, rfl, ⟨_, eZ⟩, for_list (xs := rest.map V.int) (fun i σ H' => ∃ v9 v12 v13 v14 v15 v16 v17 v20 v21 v22, H' = H18 ∧ σ = [some (.ref a), some (.int y), some (.ref p), some (.int n), some (.int c), some (.ref J), some (.ref W), some (.ref R), some (.int fc), v9, some (.ref x), some (.ref D), v12, v13, v14, v15, v16, v17, some (.int ((rest.take i).foldl (stp (fj c n) (tt c n ws fc)) (k0, 0)).1), some (.int ((rest.take i).foldl (stp (fj c n) (tt c n ws fc)) (k0, 0)).2), v20, v21, v22] ∧ 1 ≤ ((rest.take i).foldl (stp (fj c n) (tt c n ws fc)) (k0, 0)).1 ∧ ((rest.take i).foldl (stp (fj c n) (tt c n ws fc)) (k0, 0)).1 ≤ n) ⟨_, _, _, _, _, _, _, _, _, _, rfl, rfl, hk0⟩ (fun i σ H' _ ⟨_, _, _, _, _, _, _, _, _, _, e, _⟩ => by rw [e]; exact eZ) ?_ ?_⟩
      · rintro i xx σ H19 hi ⟨v9, v12, v13, v14, v15, v16, v17, v20, v21, v22, rfl, rfl, hk⟩
        obtain ⟨zz, ez, rfl⟩ := ints_at hi
        have hz := hr' zz (List.mem_cons_of_mem _ (List.mem_of_getElem? ez))
        have en : (rest.take (i + 1)).foldl (stp (fj c n) (tt c n ws fc)) (k0, 0) = stp (fj c n) (tt c n ws fc) ((rest.take i).foldl (stp (fj c n) (tt c n ws fc)) (k0, 0)) zz := by rw [take_succ ez, List.foldl_append]; rfl
        rw [en]
        generalize (rest.take i).foldl (stp (fj c n) (tt c n ws fc)) (k0, 0) = stt at hk ⊢
        refine ⟨_, rfl, ?_⟩
        refine ix2 rfl rfl rfl dR18 T'.t hk hz ⟨_, _, rfl, rfl, ?_⟩
        refine ix2 rfl rfl rfl dJ18 T'.j hk hz ?_
        exact ⟨_, _, _, _, _, _, _, _, _, _, rfl, rfl, T'.stp hk hz⟩
      · rintro σ H18 ⟨v9, v12, v13, v14, v15, v16, v17, v20, v21, v22, rfl, rfl, hk⟩
        rw [List.length_map, List.take_length] at hk
        rw [List.length_map, List.take_length]
        have al18 := al17.mono s18
        have hD18 := hD.mono s18.hid
        refine ⟨_, rfl, D, _, rfl, .inl (hD18.mono hid_le), fun O nO => ?_⟩
        obtain ⟨s19, al19, dO⟩ := new_lst (K := K) al18 (ints_dpAll (k0 :: rest)) nO
        generalize upd H18 O (.lst ((k0 :: rest).map V.int)) = H19 at s19 al19 dO ⊢
        have etp : tot (fj c n) (tt c n ws fc) (k0 :: rest) = rest.foldl (stp (fj c n) (tt c n ws fc)) (k0, 0) := rfl
        generalize rest.foldl (stp (fj c n) (tt c n ws fc)) (k0, 0) = tp at hk etp ⊢
        refine ⟨_, rfl, _, rfl, sz2, fun X nX => ?_⟩
        obtain ⟨s20, al20, dX⟩ := new_tup (K := K) al19 (.cons (.int tp.1) (.cons (.int tp.2) .nil)) nX
        generalize upd H19 X (.tup [.int tp.1, .int tp.2]) = H20 at s20 al20 dX ⊢
        have s1720 := (s18.trans s19).trans s20
        have hD20 := hD.mono s1720.hid
        have dW20 := dW17.mono s1720.hid
        obtain ⟨wx, hWs, wall⟩ := dp_lst dW20
        rw [dpAll_ints wall] at hWs
        refine ⟨_, rfl, D, rfl, ⟨_, hD20.mono hid_le⟩, fun D2 nD2 => ?_⟩
        refine lc_map (K := K) [p] (fun j d => ((k0 :: rest).map fun k => PyData.int (wo ws k))[j]? = some d) (fun _ H' => ∀ b o, H20 b = some o → b ≠ D2 → H' b = some o) al20 nD2 hD20 (fun b o h n => by rw [upd_ne n]; exact h) (fun _ H' o h b o' e n => by rw [upd_ne n]; exact h b o' e n) (by rw [List.length_map]; exact Nat.le_trans row.l2 (by decide)) ?_ ?_
        · intro j xx H21 ej ah κ hk2
          obtain ⟨zz, ez, rfl⟩ := ints_at ej
          have hz := hr' zz (List.mem_of_getElem? ez)
          obtain ⟨vv, ev, iv, _⟩ := r_cell (y := zz - 1) lW (by omega) (by omega)
          have ew : wo ws zz = vv := by simp only [wo, List.getD_eq_getElem?_getD, ev, Option.getD_some]
          refine ⟨by simp [wipe, List.set_set], _, rfl, _, rfl, _, _, rfl, rfl, W, _, _, .int vv, rfl, rfl, (hWs.mono ah.keep).mono hid_le, iv, ?_⟩
          exact hk2 _ H21 (.int vv) (by rw [List.getElem?_map, ez]; simp [ew]) ⟨.int vv, .refl _, rfl, ah.al, ah.s⟩
        · intro H21 ds hlen hR hdd keep al21 stt nM
          have e : ds = ((k0 :: rest).map (wo ws)).map PyData.int := list_is (by rw [hlen, List.length_map, List.length_map, List.length_map]) fun j d ej => by
            have := hR j d ej
            rw [List.map_map]; exact this
          subst e
          have s21 : Same H20 H21 := fun b o e => stt b o e (ne_of_none e nD2)
          obtain ⟨sx, hsx, sall⟩ := dp_lst hdd
          rw [dpAll_ints sall] at hsx
          refine ⟨D2, _, rfl, hsx.mono hid_le, ?_⟩
          have s1721 := s1720.trans s21
          have hW21 := (hWs.mono s21.hid).mono hid_le
          obtain ⟨wv, ewv, iwv, _⟩ := r_cell (y := tp.1 - 1) lW (by omega) (by omega)
          have ewo : wo ws tp.1 = wv := by simp only [wo, List.getD_eq_getElem?_getD, ewv, Option.getD_some]
          refine ⟨_, rfl, rfl, _, rfl, ?_⟩
          refine (fun y => ite2 (fun e0 => ?_) (fun _ => y)) ?_
          · have f00 : fc = 0 := by
              have := of_decide_eq_true e0
              cases this; rfl
            refine ⟨_, rfl, _, rfl, _, rfl, _, rfl, _, _, rfl, rfl, W, _, _, .int wv, rfl, rfl, hW21, iwv, _, _, rfl, rfl, rfl, _, rfl, iteNS ?_ y⟩
            subst f00
            have := tot_wo (ws := ws) hc n5 (ks := k0 :: rest) row.l1 hr'
            rw [etp, ewo] at this
            rw [this]
          · refine iteF ?_
            have tb21 := tb17.mono s1721.hid
            refine ⟨_, rfl, x, n, fj c n, tt c n ws fc, [p], rfl, tb21, T', al21, fun Y1 H22 s22 al22 d22 => ⟨sz1, fun Y2 nY2 => ?_⟩⟩
            rw [fi] at d22
            obtain ⟨s23, al23, d23⟩ := new_tup (K := K) al22 (.cons (.str "firm") .nil) nY2
            refine ⟨firmD, firmD, (d22.mono s23.hid).mono hid_le, d23.mono hid_le, by decide +kernel, by decide +kernel, _, rfl, ?_⟩
            rw [firm_self]
            refine iteF ?_
            generalize upd H22 Y2 (.tup [.str "firm"]) = H23 at s23 al23 d23 ⊢
            have s1723 := (s1721.trans s22).trans s23
            refine ⟨_, rfl, _, rfl, x, D, n, fj c n, tt c n ws fc, k0 :: rest, [p], rfl, tb17.mono s1723.hid, T', row.mono s1723.hid, fi, al23, fun Y3 H24 s24 al24 d24 => ?_⟩
            rw [etp] at d24
            have sw : Shw (.tuple [.int tp.1, .int tp.2]) := by
              refine pair_shw ?_ ?_
              · have h5 := T'.h5; omega
              · have := tot_small T' (ks := rest) (s := (k0, 0)) (B := 0) hk0 (fun z hz => hr' z (List.mem_cons_of_mem _ hz)) (Nat.zero_le _)
                have e2 : (rest.foldl (stp (fj c n) (tt c n ws fc)) (k0, 0)) = tp := etp
                rw [e2] at this
                have l2 := row.l2
                rw [List.length_cons] at l2
                omega
            have s2024 := ((s21.trans s22).trans s23).trans s24
            have dX24 := (dX.mono s2024.hid).mono hid_le
            refine ⟨_, .tuple [.int tp.1, .int tp.2], rfl, d24.mono hid_le, sw.sh, sw.nd, sw.dp, sw.ln, _, rfl, _, .tuple [.int tp.1, .int tp.2], rfl, dX24, sw.sh, sw.nd, sw.dp, sw.ln, rfl, _, rfl, iteNS rfl ?_⟩
            have s1724 := s1723.trans s24
            have s1924 := s20.trans s2024
            refine ⟨_, rfl, _, rfl, rowD (k0 :: rest), rowD (k0 :: rest), (dr.mono s1724.hid).mono hid_le, (dO.mono s1924.hid).mono hid_le, row_shaped _, row_shaped _, _, rfl, ?_⟩
            rw [row_eqv]
            refine iteF ?_
            have hD24 := hD.mono s1724.hid
            refine ⟨_, rfl, _, rfl, _, (k0 :: rest).length, rfl, .inl ⟨_, hD24.mono hid_le, (List.length_map ..).symm⟩, p, _, c17, rfl, sr17.keep s1724, by omega, by have := row.l1; omega, by have := row.l2; omega, fun dt H25 c25 dt0 dt1 b25 sr25 l25 l25' => ?_⟩
            have g25 : Same (hid [p] H17) (hid [p] H25) := s1724.hid.trans (b25.hid pM)
            have al25 := al24.src b25 sr25
            have s325 : But p H3 H25 := ((b312.then s14).trans b1417).trans ((But.same s1724).trans b25)
            have fin : ∀ H', Same H25 H' → Same H3 H' := fun H' sx b o e => sx b o (s325 b o (ne_of_none e n3) e)
            refine ⟨_, rfl, _, _, rfl, rfl, _, rfl, ite2 (fun hpos => ?_) fun _ => ⟨_, _, _, _, _, _, _, _, _, _, _, _, _, _, _, _, _, _, _, _, _, _, rfl, fin _ (.refl _)⟩⟩
            obtain ⟨kk, rfl⟩ : ∃ kk : Nat, dt = kk := ⟨dt.toNat, by omega⟩
            have hpos : 0 < kk := by have := of_decide_eq_true hpos; omega
            have hlt : kk < (k0 :: rest).length := by omega
            have tb25 := tb17.mono g25
            have row25 := row.mono g25
            have rowT : ∀ {H' S}, SqL K (hid [p] H') S (((k0 :: rest).take kk).map V.int) → RowAt K (hid [p] H') S n ((k0 :: rest).take kk) := fun h => ⟨h, fun z hz => hr' z (List.mem_of_mem_take hz), by rw [List.length_take]; omega, by have := row.l2; rw [List.length_take]; omega⟩
            have rowDr : ∀ {H' S}, SqL K (hid [p] H') S (((k0 :: rest).drop kk).map V.int) → RowAt K (hid [p] H') S n ((k0 :: rest).drop kk) := fun h => ⟨h, fun z hz => hr' z (List.mem_of_mem_drop hz), by rw [List.length_drop]; omega, by have := row.l2; rw [List.length_drop]; omega⟩
            refine ⟨_, rfl, _, rfl, _, rfl, _, rfl, D, _, rfl, row25.at_.mono hid_le, fun S1 nS1 => ?_⟩
            rw [cut_to (by omega)]
            obtain ⟨s26, al26, dS1⟩ := new_lst (K := K) al25 (ints_dpAll ((k0 :: rest).take kk)) nS1
            generalize upd H25 S1 (.lst (((k0 :: rest).take kk).map V.int)) = H26 at s26 al26 dS1 ⊢
            refine ⟨x, S1, n, fj c n, tt c n ws fc, (k0 :: rest).take kk, [p], rfl, tb25.mono s26.hid, T', rowT (lst_ints dS1), fi, al26, fun Y4 H27 s27 al27 d27 => ?_⟩
            have s2527 := s26.trans s27
            refine ⟨_, rfl, _, rfl, _, rfl, _, rfl, D, _, rfl, (row25.mono s2527.hid).at_.mono hid_le, fun S2 nS2 => ?_⟩
            rw [cut_from (by omega)]
            obtain ⟨s28, al28, dS2⟩ := new_lst (K := K) al27 (ints_dpAll ((k0 :: rest).drop kk)) nS2
            generalize upd H27 S2 (.lst (((k0 :: rest).drop kk).map V.int)) = H28 at s28 al28 dS2 ⊢
            have s2528 := s2527.trans s28
            refine ⟨x, S2, n, fj c n, tt c n ws fc, (k0 :: rest).drop kk, [p], rfl, tb25.mono s2528.hid, T', rowDr (lst_ints dS2), fi, al28, fun Y5 H29 s29 al29 d29 => ?_⟩
            have s2529 := s2528.trans s29
            have nT : (k0 :: rest).take kk ≠ [] := fun z => by have := congrArg List.length z; rw [List.length_take] at this; simp at this; omega
            have nD3 : (k0 :: rest).drop kk ≠ [] := fun z => by have := congrArg List.length z; rw [List.length_drop] at this; simp at this; simp at hlt; omega
            have comb := tot_app F' nT nD3 (by rw [List.take_append_drop]; exact hr')
            rw [List.take_append_drop, etp] at comb
            have k1 := tot_in F' nT fun z hz => hr' z (List.mem_of_mem_take hz)
            have k2 := tot_in F' nD3 fun z hz => hr' z (List.mem_of_mem_drop hz)
            have d27' := d27.mono (s28.trans s29).hid
            generalize tot (fj c n) (tt c n ws fc) ((k0 :: rest).take kk) = u1 at d27' comb k1
            generalize tot (fj c n) (tt c n ws fc) ((k0 :: rest).drop kk) = u2 at d29 comb k2
            have hT1 : SqT K H29 Y4 [.int u1.1, .int u1.2] := (pr_read d27').mono hid_le
            have hT2 : SqT K H29 Y5 [.int u2.1, .int u2.2] := (pr_read d29).mono hid_le
            have g29 := g25.trans s2529.hid
            have dJ29 := (dJ17.mono g29).mono hid_le
            have dR29 := (dR17.mono g29).mono hid_le
            refine ⟨_, _, rfl, ?_⟩
            refine ⟨_, rfl, Y4, _, 1, _, rfl, rfl, hT1, rfl, _, rfl, Y5, _, 1, _, rfl, rfl, hT2, rfl, _, _, rfl, rfl, ?_⟩
            refine ixT rfl rfl rfl dR29 T'.t hT1 hT2 k1 k2 ⟨_, _, rfl, rfl, ?_⟩
            refine ixT rfl rfl rfl dJ29 T'.j hT1 hT2 k1 k2 ⟨_, rfl, sz2, fun Z2 nZ2 => ?_⟩
            obtain ⟨s30, al30, d30⟩ := new_tup (K := K) al29 (.cons (.int (at2 (fj c n) u1.1 u2.1)) (.cons (.int (u1.2 + u2.2 + at2 (tt c n ws fc) u1.1 u2.1)) .nil)) nZ2
            have dX30 := dX.mono ((s2024.hid.trans (b25.hid pM)).trans (s2529.trans s30).hid)
            refine ⟨_, rfl, _, _, d30.mono hid_le, dX30.mono hid_le, pair_shaped _ _, pair_shaped _ _, _, rfl, ?_⟩
            have e1 : tp.1 = at2 (fj c n) u1.1 u2.1 := by rw [comb]; rfl
            have e2 : tp.2 = u1.2 + u2.2 + at2 (tt c n ws fc) u1.1 u2.1 := by rw [comb]; rfl
            rw [e1, e2, pair_eqv]
            exact iteF ⟨_, _, _, _, _, _, _, _, _, _, _, _, _, _, _, _, _, _, _, _, _, _, rfl, fin _ (s2529.trans s30)⟩
  · rintro σ H4 ⟨v1, v2, v3, v4, v5, v6, v7, v8, v9, v10, v11, v12, v13, v14, v15, v16, v17, v18, v19, v20, v21, v22, rfl, s4⟩
    exact q H4
end

/-! how keywords-only parameters are bound -/
theorem kb12 {K : PySem.W.Frag} {x qual : Str} {st : Stmt} {f : Addr} {fd : FuncData} {ps ks : List Str} (F : Fun K x qual st f fd) (h3 : ps.length = 3)
    (h : ∀ (kV doc pm : Value) (an : Option Addr) (cdv ct a b c : Value), bindArgs (PySem.W.fnOf x qual (defArgs st) (defBody st) (defScope st) .none kV doc pm an cdv ct) ⟨[a], ks.zip [b, c]⟩ = pure (ps.zip [a, b, c])) : KBinds K fd ps ks g12 g12 := by
  obtain ⟨oc, od, kV, doc, pm, an, cdv, ct, osl, rfl, lk, hcd⟩ := F.ex
  refine ⟨fun s us ws _ hl => ?_, g12_rel⟩
  rcases us with _ | ⟨a, _ | ⟨a2, us⟩⟩ <;> rcases ws with _ | ⟨b, _ | ⟨c, _ | ⟨d, ws⟩⟩⟩ <;> first | exact .of_eq (h ..) | (simp [g12, h3] at hl)
theorem kb33 {K : PySem.W.Frag} {x qual : Str} {st : Stmt} {f : Addr} {fd : FuncData} {ps ks : List Str} (F : Fun K x qual st f fd) (h6 : ps.length = 6)
    (h : ∀ (kV doc pm : Value) (an : Option Addr) (cdv ct a b c d e g : Value), bindArgs (PySem.W.fnOf x qual (defArgs st) (defBody st) (defScope st) .none kV doc pm an cdv ct) ⟨[a, b, c], ks.zip [d, e, g]⟩ = pure (ps.zip [a, b, c, d, e, g])) : KBinds K fd ps ks g33 g33 := by
  obtain ⟨oc, od, kV, doc, pm, an, cdv, ct, osl, rfl, lk, hcd⟩ := F.ex
  refine ⟨fun s us ws _ hl => ?_, g33_rel⟩
  rcases us with _ | ⟨a, _ | ⟨a2, _ | ⟨a3, _ | ⟨a4, us⟩⟩⟩⟩ <;> rcases ws with _ | ⟨b, _ | ⟨c, _ | ⟨d, _ | ⟨e, ws⟩⟩⟩⟩ <;> first | exact .of_eq (h ..) | (simp [g33, h6] at hl)

/-! what the top has written, and the law's own head -/
theorem all_mk {l : PySem.W.OpenLaw} {w : World} {K : PySem.W.Frag} {h : Heap} {mg : Str → Option Value} {fa C_Table f_Lsource f_Ldraw f_Lfirm_joins f_Lpick f_Lnumbers f_Lworth_tolls f_is_integer f_is_between f_check_grid f_check_joins f_Table___init__ f_Lcell_at f_triples f_Table_count f_Table_check_kind f_Table_join f_Table_toll f_left_first f_right_first f_three f_check_long_row f_total f_law : Addr} (X : K.In h) (G : h.Ns mainGlobals mg) (hfa : mg "law" = some (.ref fa))
    {od_Lsource an_Lsource : Option Addr} {sl_Lsource : Array (Option Value)} {oc_Lsource kV_Lsource dc_Lsource pm_Lsource cd_Lsource ct_Lsource : Value}
    {od_Ldraw an_Ldraw : Option Addr} {sl_Ldraw : Array (Option Value)} {oc_Ldraw kV_Ldraw dc_Ldraw pm_Ldraw cd_Ldraw ct_Ldraw : Value}
    {od_Lfirm_joins an_Lfirm_joins : Option Addr} {sl_Lfirm_joins : Array (Option Value)} {oc_Lfirm_joins kV_Lfirm_joins dc_Lfirm_joins pm_Lfirm_joins cd_Lfirm_joins ct_Lfirm_joins : Value}
    {od_Lpick an_Lpick : Option Addr} {sl_Lpick : Array (Option Value)} {oc_Lpick kV_Lpick dc_Lpick pm_Lpick cd_Lpick ct_Lpick : Value}
    {od_Lnumbers an_Lnumbers : Option Addr} {sl_Lnumbers : Array (Option Value)} {oc_Lnumbers kV_Lnumbers dc_Lnumbers pm_Lnumbers cd_Lnumbers ct_Lnumbers : Value}
    {od_Lworth_tolls an_Lworth_tolls : Option Addr} {sl_Lworth_tolls : Array (Option Value)} {oc_Lworth_tolls kV_Lworth_tolls dc_Lworth_tolls pm_Lworth_tolls cd_Lworth_tolls ct_Lworth_tolls : Value}
    {od_is_integer an_is_integer : Option Addr} {sl_is_integer : Array (Option Value)} {oc_is_integer kV_is_integer dc_is_integer pm_is_integer cd_is_integer ct_is_integer : Value}
    {od_is_between an_is_between : Option Addr} {sl_is_between : Array (Option Value)} {oc_is_between kV_is_between dc_is_between pm_is_between cd_is_between ct_is_between : Value}
    {od_check_grid an_check_grid : Option Addr} {sl_check_grid : Array (Option Value)} {oc_check_grid kV_check_grid dc_check_grid pm_check_grid cd_check_grid ct_check_grid : Value}
    {od_check_joins an_check_joins : Option Addr} {sl_check_joins : Array (Option Value)} {oc_check_joins kV_check_joins dc_check_joins pm_check_joins cd_check_joins ct_check_joins : Value}
    {od_Table___init__ an_Table___init__ : Option Addr} {sl_Table___init__ : Array (Option Value)} {oc_Table___init__ kV_Table___init__ dc_Table___init__ pm_Table___init__ cd_Table___init__ ct_Table___init__ : Value}
    {od_Lcell_at an_Lcell_at : Option Addr} {sl_Lcell_at : Array (Option Value)} {oc_Lcell_at kV_Lcell_at dc_Lcell_at pm_Lcell_at cd_Lcell_at ct_Lcell_at : Value}
    {od_triples an_triples : Option Addr} {sl_triples : Array (Option Value)} {oc_triples kV_triples dc_triples pm_triples cd_triples ct_triples : Value}
    {od_Table_count an_Table_count : Option Addr} {sl_Table_count : Array (Option Value)} {oc_Table_count kV_Table_count dc_Table_count pm_Table_count cd_Table_count ct_Table_count : Value}
    {od_Table_check_kind an_Table_check_kind : Option Addr} {sl_Table_check_kind : Array (Option Value)} {oc_Table_check_kind kV_Table_check_kind dc_Table_check_kind pm_Table_check_kind cd_Table_check_kind ct_Table_check_kind : Value}
    {od_Table_join an_Table_join : Option Addr} {sl_Table_join : Array (Option Value)} {oc_Table_join kV_Table_join dc_Table_join pm_Table_join cd_Table_join ct_Table_join : Value}
    {od_Table_toll an_Table_toll : Option Addr} {sl_Table_toll : Array (Option Value)} {oc_Table_toll kV_Table_toll dc_Table_toll pm_Table_toll cd_Table_toll ct_Table_toll : Value}
    {od_left_first an_left_first : Option Addr} {sl_left_first : Array (Option Value)} {oc_left_first kV_left_first dc_left_first pm_left_first cd_left_first ct_left_first : Value}
    {od_right_first an_right_first : Option Addr} {sl_right_first : Array (Option Value)} {oc_right_first kV_right_first dc_right_first pm_right_first cd_right_first ct_right_first : Value}
    {od_three an_three : Option Addr} {sl_three : Array (Option Value)} {oc_three kV_three dc_three pm_three cd_three ct_three : Value}
    {od_check_long_row an_check_long_row : Option Addr} {sl_check_long_row : Array (Option Value)} {oc_check_long_row kV_check_long_row dc_check_long_row pm_check_long_row cd_check_long_row ct_check_long_row : Value}
    {od_total an_total : Option Addr} {sl_total : Array (Option Value)} {oc_total kV_total dc_total pm_total cd_total ct_total : Value}
    {od_law an_law : Option Addr} {sl_law : Array (Option Value)} {oc_law kV_law dc_law pm_law cd_law ct_law : Value}
    {t_MOST_KINDS : _}
    {t_TOLL_BOUND : _}
    {t_MOST_FIRM_ITEMS : _}
    (a_Lsource : PySem.W.nsIn K mainGlobals "_law_source" = some (some (.ref f_Lsource)))
    (l_Lsource : K.lookup f_Lsource = some ⟨oc_Lsource, od_Lsource, .func (PySem.W.fnOf "_law_source" "_law_source" (defArgs s_Lsource) (defBody s_Lsource) (defScope s_Lsource) .none kV_Lsource dc_Lsource pm_Lsource an_Lsource cd_Lsource ct_Lsource), sl_Lsource⟩) (e_Lsource : PySem.W.codeIn K cd_Lsource "_law_source" = true) (k_Lsource : PySem.W.keepIn K (.ref f_Lsource) = true)
    (a_Ldraw : PySem.W.nsIn K mainGlobals "_law_draw" = some (some (.ref f_Ldraw)))
    (l_Ldraw : K.lookup f_Ldraw = some ⟨oc_Ldraw, od_Ldraw, .func (PySem.W.fnOf "_law_draw" "_law_draw" (defArgs s_Ldraw) (defBody s_Ldraw) (defScope s_Ldraw) .none kV_Ldraw dc_Ldraw pm_Ldraw an_Ldraw cd_Ldraw ct_Ldraw), sl_Ldraw⟩) (e_Ldraw : PySem.W.codeIn K cd_Ldraw "_law_draw" = true) (k_Ldraw : PySem.W.keepIn K (.ref f_Ldraw) = true)
    (a_Lfirm_joins : PySem.W.nsIn K mainGlobals "_law_firm_joins" = some (some (.ref f_Lfirm_joins)))
    (l_Lfirm_joins : K.lookup f_Lfirm_joins = some ⟨oc_Lfirm_joins, od_Lfirm_joins, .func (PySem.W.fnOf "_law_firm_joins" "_law_firm_joins" (defArgs s_Lfirm_joins) (defBody s_Lfirm_joins) (defScope s_Lfirm_joins) .none kV_Lfirm_joins dc_Lfirm_joins pm_Lfirm_joins an_Lfirm_joins cd_Lfirm_joins ct_Lfirm_joins), sl_Lfirm_joins⟩) (e_Lfirm_joins : PySem.W.codeIn K cd_Lfirm_joins "_law_firm_joins" = true) (k_Lfirm_joins : PySem.W.keepIn K (.ref f_Lfirm_joins) = true)
    (a_Lpick : PySem.W.nsIn K mainGlobals "_law_pick" = some (some (.ref f_Lpick)))
    (l_Lpick : K.lookup f_Lpick = some ⟨oc_Lpick, od_Lpick, .func (PySem.W.fnOf "_law_pick" "_law_pick" (defArgs s_Lpick) (defBody s_Lpick) (defScope s_Lpick) .none kV_Lpick dc_Lpick pm_Lpick an_Lpick cd_Lpick ct_Lpick), sl_Lpick⟩) (e_Lpick : PySem.W.codeIn K cd_Lpick "_law_pick" = true) (k_Lpick : PySem.W.keepIn K (.ref f_Lpick) = true)
    (a_Lnumbers : PySem.W.nsIn K mainGlobals "_law_numbers" = some (some (.ref f_Lnumbers)))
    (l_Lnumbers : K.lookup f_Lnumbers = some ⟨oc_Lnumbers, od_Lnumbers, .func (PySem.W.fnOf "_law_numbers" "_law_numbers" (defArgs s_Lnumbers) (defBody s_Lnumbers) (defScope s_Lnumbers) .none kV_Lnumbers dc_Lnumbers pm_Lnumbers an_Lnumbers cd_Lnumbers ct_Lnumbers), sl_Lnumbers⟩) (e_Lnumbers : PySem.W.codeIn K cd_Lnumbers "_law_numbers" = true) (k_Lnumbers : PySem.W.keepIn K (.ref f_Lnumbers) = true)
    (a_Lworth_tolls : PySem.W.nsIn K mainGlobals "_law_worth_tolls" = some (some (.ref f_Lworth_tolls)))
    (l_Lworth_tolls : K.lookup f_Lworth_tolls = some ⟨oc_Lworth_tolls, od_Lworth_tolls, .func (PySem.W.fnOf "_law_worth_tolls" "_law_worth_tolls" (defArgs s_Lworth_tolls) (defBody s_Lworth_tolls) (defScope s_Lworth_tolls) .none kV_Lworth_tolls dc_Lworth_tolls pm_Lworth_tolls an_Lworth_tolls cd_Lworth_tolls ct_Lworth_tolls), sl_Lworth_tolls⟩) (e_Lworth_tolls : PySem.W.codeIn K cd_Lworth_tolls "_law_worth_tolls" = true) (k_Lworth_tolls : PySem.W.keepIn K (.ref f_Lworth_tolls) = true)
    (a_is_integer : PySem.W.nsIn K mainGlobals "is_integer" = some (some (.ref f_is_integer)))
    (l_is_integer : K.lookup f_is_integer = some ⟨oc_is_integer, od_is_integer, .func (PySem.W.fnOf "is_integer" "is_integer" (defArgs s_is_integer) (defBody s_is_integer) (defScope s_is_integer) .none kV_is_integer dc_is_integer pm_is_integer an_is_integer cd_is_integer ct_is_integer), sl_is_integer⟩) (e_is_integer : PySem.W.codeIn K cd_is_integer "is_integer" = true) (k_is_integer : PySem.W.keepIn K (.ref f_is_integer) = true)
    (a_is_between : PySem.W.nsIn K mainGlobals "is_between" = some (some (.ref f_is_between)))
    (l_is_between : K.lookup f_is_between = some ⟨oc_is_between, od_is_between, .func (PySem.W.fnOf "is_between" "is_between" (defArgs s_is_between) (defBody s_is_between) (defScope s_is_between) .none kV_is_between dc_is_between pm_is_between an_is_between cd_is_between ct_is_between), sl_is_between⟩) (e_is_between : PySem.W.codeIn K cd_is_between "is_between" = true) (k_is_between : PySem.W.keepIn K (.ref f_is_between) = true)
    (a_check_grid : PySem.W.nsIn K mainGlobals "check_grid" = some (some (.ref f_check_grid)))
    (l_check_grid : K.lookup f_check_grid = some ⟨oc_check_grid, od_check_grid, .func (PySem.W.fnOf "check_grid" "check_grid" (defArgs s_check_grid) (defBody s_check_grid) (defScope s_check_grid) .none kV_check_grid dc_check_grid pm_check_grid an_check_grid cd_check_grid ct_check_grid), sl_check_grid⟩) (e_check_grid : PySem.W.codeIn K cd_check_grid "check_grid" = true) (k_check_grid : PySem.W.keepIn K (.ref f_check_grid) = true)
    (a_check_joins : PySem.W.nsIn K mainGlobals "check_joins" = some (some (.ref f_check_joins)))
    (l_check_joins : K.lookup f_check_joins = some ⟨oc_check_joins, od_check_joins, .func (PySem.W.fnOf "check_joins" "check_joins" (defArgs s_check_joins) (defBody s_check_joins) (defScope s_check_joins) .none kV_check_joins dc_check_joins pm_check_joins an_check_joins cd_check_joins ct_check_joins), sl_check_joins⟩) (e_check_joins : PySem.W.codeIn K cd_check_joins "check_joins" = true) (k_check_joins : PySem.W.keepIn K (.ref f_check_joins) = true)
    (a_Table___init__ : PySem.W.findIn K (.ref C_Table) "__init__" = some (some (.ref f_Table___init__))) (i_Table___init__ : PySem.W.isFn K (.ref f_Table___init__) = true)
    (l_Table___init__ : K.lookup f_Table___init__ = some ⟨oc_Table___init__, od_Table___init__, .func (PySem.W.fnOf "__init__" "Table.__init__" (defArgs s_Table___init__) (defBody s_Table___init__) (defScope s_Table___init__) .none kV_Table___init__ dc_Table___init__ pm_Table___init__ an_Table___init__ cd_Table___init__ ct_Table___init__), sl_Table___init__⟩) (e_Table___init__ : PySem.W.codeIn K cd_Table___init__ "Table.__init__" = true) (k_Table___init__ : PySem.W.keepIn K (.ref f_Table___init__) = true)
    (a_Lcell_at : PySem.W.nsIn K mainGlobals "_law_cell_at" = some (some (.ref f_Lcell_at)))
    (l_Lcell_at : K.lookup f_Lcell_at = some ⟨oc_Lcell_at, od_Lcell_at, .func (PySem.W.fnOf "_law_cell_at" "_law_cell_at" (defArgs s_Lcell_at) (defBody s_Lcell_at) (defScope s_Lcell_at) .none kV_Lcell_at dc_Lcell_at pm_Lcell_at an_Lcell_at cd_Lcell_at ct_Lcell_at), sl_Lcell_at⟩) (e_Lcell_at : PySem.W.codeIn K cd_Lcell_at "_law_cell_at" = true) (k_Lcell_at : PySem.W.keepIn K (.ref f_Lcell_at) = true)
    (a_triples : PySem.W.nsIn K mainGlobals "triples" = some (some (.ref f_triples)))
    (l_triples : K.lookup f_triples = some ⟨oc_triples, od_triples, .func (PySem.W.fnOf "triples" "triples" (defArgs s_triples) (defBody s_triples) (defScope s_triples) .none kV_triples dc_triples pm_triples an_triples cd_triples ct_triples), sl_triples⟩) (e_triples : PySem.W.codeIn K cd_triples "triples" = true) (k_triples : PySem.W.keepIn K (.ref f_triples) = true)
    (a_Table_count : PySem.W.findIn K (.ref C_Table) "count" = some (some (.ref f_Table_count))) (i_Table_count : PySem.W.isFn K (.ref f_Table_count) = true)
    (l_Table_count : K.lookup f_Table_count = some ⟨oc_Table_count, od_Table_count, .func (PySem.W.fnOf "count" "Table.count" (defArgs s_Table_count) (defBody s_Table_count) (defScope s_Table_count) .none kV_Table_count dc_Table_count pm_Table_count an_Table_count cd_Table_count ct_Table_count), sl_Table_count⟩) (e_Table_count : PySem.W.codeIn K cd_Table_count "Table.count" = true) (k_Table_count : PySem.W.keepIn K (.ref f_Table_count) = true)
    (a_Table_check_kind : PySem.W.findIn K (.ref C_Table) "check_kind" = some (some (.ref f_Table_check_kind))) (i_Table_check_kind : PySem.W.isFn K (.ref f_Table_check_kind) = true)
    (l_Table_check_kind : K.lookup f_Table_check_kind = some ⟨oc_Table_check_kind, od_Table_check_kind, .func (PySem.W.fnOf "check_kind" "Table.check_kind" (defArgs s_Table_check_kind) (defBody s_Table_check_kind) (defScope s_Table_check_kind) .none kV_Table_check_kind dc_Table_check_kind pm_Table_check_kind an_Table_check_kind cd_Table_check_kind ct_Table_check_kind), sl_Table_check_kind⟩) (e_Table_check_kind : PySem.W.codeIn K cd_Table_check_kind "Table.check_kind" = true) (k_Table_check_kind : PySem.W.keepIn K (.ref f_Table_check_kind) = true)
    (a_Table_join : PySem.W.findIn K (.ref C_Table) "join" = some (some (.ref f_Table_join))) (i_Table_join : PySem.W.isFn K (.ref f_Table_join) = true)
    (l_Table_join : K.lookup f_Table_join = some ⟨oc_Table_join, od_Table_join, .func (PySem.W.fnOf "join" "Table.join" (defArgs s_Table_join) (defBody s_Table_join) (defScope s_Table_join) .none kV_Table_join dc_Table_join pm_Table_join an_Table_join cd_Table_join ct_Table_join), sl_Table_join⟩) (e_Table_join : PySem.W.codeIn K cd_Table_join "Table.join" = true) (k_Table_join : PySem.W.keepIn K (.ref f_Table_join) = true)
    (a_Table_toll : PySem.W.findIn K (.ref C_Table) "toll" = some (some (.ref f_Table_toll))) (i_Table_toll : PySem.W.isFn K (.ref f_Table_toll) = true)
    (l_Table_toll : K.lookup f_Table_toll = some ⟨oc_Table_toll, od_Table_toll, .func (PySem.W.fnOf "toll" "Table.toll" (defArgs s_Table_toll) (defBody s_Table_toll) (defScope s_Table_toll) .none kV_Table_toll dc_Table_toll pm_Table_toll an_Table_toll cd_Table_toll ct_Table_toll), sl_Table_toll⟩) (e_Table_toll : PySem.W.codeIn K cd_Table_toll "Table.toll" = true) (k_Table_toll : PySem.W.keepIn K (.ref f_Table_toll) = true)
    (a_left_first : PySem.W.nsIn K mainGlobals "left_first" = some (some (.ref f_left_first)))
    (l_left_first : K.lookup f_left_first = some ⟨oc_left_first, od_left_first, .func (PySem.W.fnOf "left_first" "left_first" (defArgs s_left_first) (defBody s_left_first) (defScope s_left_first) .none kV_left_first dc_left_first pm_left_first an_left_first cd_left_first ct_left_first), sl_left_first⟩) (e_left_first : PySem.W.codeIn K cd_left_first "left_first" = true) (k_left_first : PySem.W.keepIn K (.ref f_left_first) = true)
    (a_right_first : PySem.W.nsIn K mainGlobals "right_first" = some (some (.ref f_right_first)))
    (l_right_first : K.lookup f_right_first = some ⟨oc_right_first, od_right_first, .func (PySem.W.fnOf "right_first" "right_first" (defArgs s_right_first) (defBody s_right_first) (defScope s_right_first) .none kV_right_first dc_right_first pm_right_first an_right_first cd_right_first ct_right_first), sl_right_first⟩) (e_right_first : PySem.W.codeIn K cd_right_first "right_first" = true) (k_right_first : PySem.W.keepIn K (.ref f_right_first) = true)
    (a_three : PySem.W.nsIn K mainGlobals "three" = some (some (.ref f_three)))
    (l_three : K.lookup f_three = some ⟨oc_three, od_three, .func (PySem.W.fnOf "three" "three" (defArgs s_three) (defBody s_three) (defScope s_three) .none kV_three dc_three pm_three an_three cd_three ct_three), sl_three⟩) (e_three : PySem.W.codeIn K cd_three "three" = true) (k_three : PySem.W.keepIn K (.ref f_three) = true)
    (a_check_long_row : PySem.W.nsIn K mainGlobals "check_long_row" = some (some (.ref f_check_long_row)))
    (l_check_long_row : K.lookup f_check_long_row = some ⟨oc_check_long_row, od_check_long_row, .func (PySem.W.fnOf "check_long_row" "check_long_row" (defArgs s_check_long_row) (defBody s_check_long_row) (defScope s_check_long_row) .none kV_check_long_row dc_check_long_row pm_check_long_row an_check_long_row cd_check_long_row ct_check_long_row), sl_check_long_row⟩) (e_check_long_row : PySem.W.codeIn K cd_check_long_row "check_long_row" = true) (k_check_long_row : PySem.W.keepIn K (.ref f_check_long_row) = true)
    (a_total : PySem.W.nsIn K mainGlobals "total" = some (some (.ref f_total)))
    (l_total : K.lookup f_total = some ⟨oc_total, od_total, .func (PySem.W.fnOf "total" "total" (defArgs s_total) (defBody s_total) (defScope s_total) .none kV_total dc_total pm_total an_total cd_total ct_total), sl_total⟩) (e_total : PySem.W.codeIn K cd_total "total" = true) (k_total : PySem.W.keepIn K (.ref f_total) = true)
    (a_law : PySem.W.nsIn K mainGlobals "law" = some (some (.ref f_law)))
    (l_law : K.lookup f_law = some ⟨oc_law, od_law, .func (PySem.W.fnOf "law" "law" (defArgs s_law) (defBody s_law) (defScope s_law) .none kV_law dc_law pm_law an_law cd_law ct_law), sl_law⟩) (e_law : PySem.W.codeIn K cd_law "law" = true) (k_law : PySem.W.keepIn K (.ref f_law) = true)
    (aC_Table : PySem.W.nsIn K mainGlobals "Table" = some (some (.ref C_Table))) (pg_Table : PySem.W.plainGet K C_Table Str.empty = true) (hd_Table : PySem.W.hasDictIn K C_Table = true) (po_Table : PySem.W.plainOver K C_Table = true) (sa_Table : PySem.W.findIn K (.ref C_Table) "__setattr__" = some (some (.builtin "object.__setattr__")))
    (n_Table_results : PySem.W.findIn K (.ref C_Table) "results" = some none)
    (n_Table_prices : PySem.W.findIn K (.ref C_Table) "prices" = some none)
    (mk_Table : PySem.W.makesIn K C_Table = true) (kc_Table : PySem.W.keepIn K (.ref C_Table) = true)
    (z_bool : PySem.W.nsIn K mainGlobals "bool" = some none)
    (z_enumerate : PySem.W.nsIn K mainGlobals "enumerate" = some none)
    (z_int : PySem.W.nsIn K mainGlobals "int" = some none)
    (z_isinstance : PySem.W.nsIn K mainGlobals "isinstance" = some none)
    (z_len : PySem.W.nsIn K mainGlobals "len" = some none)
    (z_list : PySem.W.nsIn K mainGlobals "list" = some none)
    (z_max : PySem.W.nsIn K mainGlobals "max" = some none)
    (z_min : PySem.W.nsIn K mainGlobals "min" = some none)
    (z_range : PySem.W.nsIn K mainGlobals "range" = some none)
    (z_repr : PySem.W.nsIn K mainGlobals "repr" = some none)
    (z_sum : PySem.W.nsIn K mainGlobals "sum" = some none)
    (z_tuple : PySem.W.nsIn K mainGlobals "tuple" = some none)
    (q_MOST_KINDS : PySem.W.nsIn K mainGlobals "MOST_KINDS" = some (some (.int 5 t_MOST_KINDS)))
    (q_TOLL_BOUND : PySem.W.nsIn K mainGlobals "TOLL_BOUND" = some (some (.int 1000000000000 t_TOLL_BOUND)))
    (q_MOST_FIRM_ITEMS : PySem.W.nsIn K mainGlobals "MOST_FIRM_ITEMS" = some (some (.int 1000 t_MOST_FIRM_ITEMS)))
    : ∃ fd : FuncData, (∀ (s : Shared) (u : Value), BindsTo s fd ⟨[u], []⟩ [("_law_script", u)]) ∧ ∀ base : Heap, K.In base → base.Ns mainGlobals mg → FnG l.prog w K mg base 8 fa fd P_law (sp_law K ⟨0, 0, 0, 0⟩) := by
  have e := hfa.symm.trans (PySem.W.mg_of X G a_law)
  cases e
  have B : Bi mg := ⟨PySem.W.mg_none_of X G z_bool, PySem.W.mg_none_of X G z_enumerate, PySem.W.mg_none_of X G z_int, PySem.W.mg_none_of X G z_isinstance, PySem.W.mg_none_of X G z_len, PySem.W.mg_none_of X G z_list, PySem.W.mg_none_of X G z_max, PySem.W.mg_none_of X G z_min, PySem.W.mg_none_of X G z_range, PySem.W.mg_none_of X G z_repr, PySem.W.mg_none_of X G z_sum, PySem.W.mg_none_of X G z_tuple, ⟨_, PySem.W.mg_of X G q_MOST_KINDS⟩, ⟨_, PySem.W.mg_of X G q_TOLL_BOUND⟩, ⟨_, PySem.W.mg_of X G q_MOST_FIRM_ITEMS⟩⟩
  have T_Table : ClsT K mg "Table" C_Table := ⟨⟨pg_Table, hd_Table, po_Table, sa_Table⟩, PySem.W.mg_of X G aC_Table⟩
  have A_Table : ∀ f ∈ (["results", "prices"] : List Str), NoAttr K C_Table f := fun f hf => by
    simp only [List.mem_cons, List.not_mem_nil, or_false] at hf
    rcases hf with rfl | rfl
    · exact n_Table_results
    · exact n_Table_prices
  have F_Lsource := fun_mk (st := s_Lsource) l_Lsource e_Lsource k_Lsource
  have F_Ldraw := fun_mk (st := s_Ldraw) l_Ldraw e_Ldraw k_Ldraw
  have F_Lfirm_joins := fun_mk (st := s_Lfirm_joins) l_Lfirm_joins e_Lfirm_joins k_Lfirm_joins
  have F_Lpick := fun_mk (st := s_Lpick) l_Lpick e_Lpick k_Lpick
  have F_Lnumbers := fun_mk (st := s_Lnumbers) l_Lnumbers e_Lnumbers k_Lnumbers
  have F_Lworth_tolls := fun_mk (st := s_Lworth_tolls) l_Lworth_tolls e_Lworth_tolls k_Lworth_tolls
  have F_is_integer := fun_mk (st := s_is_integer) l_is_integer e_is_integer k_is_integer
  have F_is_between := fun_mk (st := s_is_between) l_is_between e_is_between k_is_between
  have F_check_grid := fun_mk (st := s_check_grid) l_check_grid e_check_grid k_check_grid
  have F_check_joins := fun_mk (st := s_check_joins) l_check_joins e_check_joins k_check_joins
  have F_Table___init__ := fun_mk (st := s_Table___init__) l_Table___init__ e_Table___init__ k_Table___init__
  have F_Lcell_at := fun_mk (st := s_Lcell_at) l_Lcell_at e_Lcell_at k_Lcell_at
  have F_triples := fun_mk (st := s_triples) l_triples e_triples k_triples
  have F_Table_count := fun_mk (st := s_Table_count) l_Table_count e_Table_count k_Table_count
  have F_Table_check_kind := fun_mk (st := s_Table_check_kind) l_Table_check_kind e_Table_check_kind k_Table_check_kind
  have F_Table_join := fun_mk (st := s_Table_join) l_Table_join e_Table_join k_Table_join
  have F_Table_toll := fun_mk (st := s_Table_toll) l_Table_toll e_Table_toll k_Table_toll
  have F_left_first := fun_mk (st := s_left_first) l_left_first e_left_first k_left_first
  have F_right_first := fun_mk (st := s_right_first) l_right_first e_right_first k_right_first
  have F_three := fun_mk (st := s_three) l_three e_three k_three
  have F_check_long_row := fun_mk (st := s_check_long_row) l_check_long_row e_check_long_row k_check_long_row
  have F_total := fun_mk (st := s_total) l_total e_total k_total
  have F_law := fun_mk (st := s_law) l_law e_law k_law
  have b_Lsource := F_Lsource.binds (ps := P_Lsource) fun _ _ _ _ _ _ us hl => match us, hl with | [_], _ => rfl
  have b_Ldraw := F_Ldraw.binds (ps := P_Ldraw) fun _ _ _ _ _ _ us hl => match us, hl with | [_, _], _ => rfl
  have b_Lfirm_joins := F_Lfirm_joins.binds (ps := P_Lfirm_joins) fun _ _ _ _ _ _ us hl => match us, hl with | [_, _], _ => rfl
  have b_Lpick := F_Lpick.binds (ps := P_Lpick) fun _ _ _ _ _ _ us hl => match us, hl with | [_, _], _ => rfl
  have b_Lnumbers := F_Lnumbers.binds (ps := P_Lnumbers) fun _ _ _ _ _ _ us hl => match us, hl with | [_, _], _ => rfl
  have b_Lworth_tolls := F_Lworth_tolls.binds (ps := P_Lworth_tolls) fun _ _ _ _ _ _ us hl => match us, hl with | [_, _], _ => rfl
  have b_is_integer := F_is_integer.binds (ps := P_is_integer) fun _ _ _ _ _ _ us hl => match us, hl with | [_], _ => rfl
  have b_check_joins := F_check_joins.binds (ps := P_check_joins) fun _ _ _ _ _ _ us hl => match us, hl with | [_], _ => rfl
  have b_Table___init__ := F_Table___init__.binds (ps := P_Table___init__) fun _ _ _ _ _ _ us hl => match us, hl with | [_, _, _], _ => rfl
  have b_Lcell_at := F_Lcell_at.binds (ps := P_Lcell_at) fun _ _ _ _ _ _ us hl => match us, hl with | [_, _], _ => rfl
  have b_triples := F_triples.binds (ps := P_triples) fun _ _ _ _ _ _ us hl => match us, hl with | [_], _ => rfl
  have b_Table_count := F_Table_count.binds (ps := P_Table_count) fun _ _ _ _ _ _ us hl => match us, hl with | [_], _ => rfl
  have b_Table_check_kind := F_Table_check_kind.binds (ps := P_Table_check_kind) fun _ _ _ _ _ _ us hl => match us, hl with | [_, _], _ => rfl
  have b_Table_join := F_Table_join.binds (ps := P_Table_join) fun _ _ _ _ _ _ us hl => match us, hl with | [_, _, _], _ => rfl
  have b_Table_toll := F_Table_toll.binds (ps := P_Table_toll) fun _ _ _ _ _ _ us hl => match us, hl with | [_, _, _], _ => rfl
  have b_left_first := F_left_first.binds (ps := P_left_first) fun _ _ _ _ _ _ us hl => match us, hl with | [_, _], _ => rfl
  have b_right_first := F_right_first.binds (ps := P_right_first) fun _ _ _ _ _ _ us hl => match us, hl with | [_, _], _ => rfl
  have b_three := F_three.binds (ps := P_three) fun _ _ _ _ _ _ us hl => match us, hl with | [_], _ => rfl
  have b_check_long_row := F_check_long_row.binds (ps := P_check_long_row) fun _ _ _ _ _ _ us hl => match us, hl with | [_, _], _ => rfl
  have b_total := F_total.binds (ps := P_total) fun _ _ _ _ _ _ us hl => match us, hl with | [_, _], _ => rfl
  have b_law := F_law.binds (ps := P_law) fun _ _ _ _ _ _ us hl => match us, hl with | [_], _ => rfl
  refine ⟨PySem.W.fnOf "law" "law" (defArgs s_law) (defBody s_law) (defScope s_law) .none kV_law dc_law pm_law an_law cd_law ct_law, fun s v => .of_eq rfl, fun base _ _ => ?_⟩
  let C : CA := ⟨C_Table, 0, 0, 0⟩
  let c_Lsource : Cal l.prog w K mg base CX0 "_law_source" 1 P_Lsource (sp_Lsource K C) := ⟨f_Lsource, _, ok_Lsource (P := l.prog) (w := w) (base := base) (C := C) F_Lsource B T_Table A_Table, PySem.W.mg_of X G a_Lsource, k_Lsource, b_Lsource⟩
  let c_Ldraw : Cal l.prog w K mg base CX0 "_law_draw" 1 P_Ldraw (sp_Ldraw K C) := ⟨f_Ldraw, _, ok_Ldraw (P := l.prog) (w := w) (base := base) (C := C) F_Ldraw B T_Table A_Table, PySem.W.mg_of X G a_Ldraw, k_Ldraw, b_Ldraw⟩
  let c_Lfirm_joins : Cal l.prog w K mg base CX0 "_law_firm_joins" 1 P_Lfirm_joins (sp_Lfirm_joins K C) := ⟨f_Lfirm_joins, _, ok_Lfirm_joins (P := l.prog) (w := w) (base := base) (C := C) F_Lfirm_joins B T_Table A_Table, PySem.W.mg_of X G a_Lfirm_joins, k_Lfirm_joins, b_Lfirm_joins⟩
  let c_Lpick : Cal l.prog w K mg base CX0 "_law_pick" 2 P_Lpick (sp_Lpick K C) := ⟨f_Lpick, _, ok_Lpick (P := l.prog) (w := w) (base := base) (C := C) F_Lpick B T_Table A_Table c_Ldraw, PySem.W.mg_of X G a_Lpick, k_Lpick, b_Lpick⟩
  let c_Lnumbers : Cal l.prog w K mg base CX0 "_law_numbers" 3 P_Lnumbers (sp_Lnumbers K C) := ⟨f_Lnumbers, _, ok_Lnumbers (P := l.prog) (w := w) (base := base) (C := C) F_Lnumbers B T_Table A_Table c_Lpick c_Ldraw, PySem.W.mg_of X G a_Lnumbers, k_Lnumbers, b_Lnumbers⟩
  let c_Lworth_tolls : Cal l.prog w K mg base CX0 "_law_worth_tolls" 1 P_Lworth_tolls (sp_Lworth_tolls K C) := ⟨f_Lworth_tolls, _, ok_Lworth_tolls (P := l.prog) (w := w) (base := base) (C := C) F_Lworth_tolls B T_Table A_Table, PySem.W.mg_of X G a_Lworth_tolls, k_Lworth_tolls, b_Lworth_tolls⟩
  let c_is_integer : Cal l.prog w K mg base CX0 "is_integer" 1 P_is_integer (sp_is_integer K C) := ⟨f_is_integer, _, ok_is_integer (P := l.prog) (w := w) (base := base) (C := C) F_is_integer B T_Table A_Table, PySem.W.mg_of X G a_is_integer, k_is_integer, b_is_integer⟩
  let c_is_between : CalK l.prog w K mg base CX0 "is_between" 2 P_is_between (sp_is_between K C) := ⟨f_is_between, _, ok_is_between (P := l.prog) (w := w) (base := base) (C := C) F_is_between B T_Table A_Table c_is_integer, PySem.W.mg_of X G a_is_between, k_is_between⟩
  have kb_is_between : KBinds K c_is_between.fd P_is_between ["low", "high"] g12 g12 := kb12 F_is_between rfl (fun _ _ _ _ _ _ _ _ _ => rfl)
  let c_check_grid : CalK l.prog w K mg base CX0 "check_grid" 3 P_check_grid (sp_check_grid K C) := ⟨f_check_grid, _, ok_check_grid (P := l.prog) (w := w) (base := base) (C := C) F_check_grid B T_Table A_Table c_is_between kb_is_between, PySem.W.mg_of X G a_check_grid, k_check_grid⟩
  have kb_check_grid : KBinds K c_check_grid.fd P_check_grid ["size", "low", "high"] g33 g33 := kb33 F_check_grid rfl (fun _ _ _ _ _ _ _ _ _ _ _ _ => rfl)
  let c_check_joins : Cal l.prog w K mg base CX0 "check_joins" 4 P_check_joins (sp_check_joins K C) := ⟨f_check_joins, _, ok_check_joins (P := l.prog) (w := w) (base := base) (C := C) F_check_joins B T_Table A_Table c_check_grid kb_check_grid, PySem.W.mg_of X G a_check_joins, k_check_joins, b_check_joins⟩
  let c_Table___init__ : ICal l.prog w K mg base CX0 C.table 5 P_Table___init__ (sp_Table___init__ K C) := ⟨f_Table___init__, _, ok_Table___init__ (P := l.prog) (w := w) (base := base) (C := C) F_Table___init__ B T_Table A_Table c_check_joins c_check_grid kb_check_grid, ⟨mk_Table, a_Table___init__, i_Table___init__, kc_Table⟩, b_Table___init__⟩
  let c_Lcell_at : Cal l.prog w K mg base CX0 "_law_cell_at" 1 P_Lcell_at (sp_Lcell_at K C) := ⟨f_Lcell_at, _, ok_Lcell_at (P := l.prog) (w := w) (base := base) (C := C) F_Lcell_at B T_Table A_Table, PySem.W.mg_of X G a_Lcell_at, k_Lcell_at, b_Lcell_at⟩
  let c_triples : Cal l.prog w K mg base CX0 "triples" 1 P_triples (sp_triples K C) := ⟨f_triples, _, ok_triples (P := l.prog) (w := w) (base := base) (C := C) F_triples B T_Table A_Table, PySem.W.mg_of X G a_triples, k_triples, b_triples⟩
  let c_Table_count : MCal l.prog w K mg base CX0 C.table "count" 1 P_Table_count (sp_Table_count K C) := ⟨f_Table_count, _, ok_Table_count (P := l.prog) (w := w) (base := base) (C := C) F_Table_count B T_Table A_Table, ⟨a_Table_count, i_Table_count, k_Table_count⟩, b_Table_count⟩
  let c_Table_check_kind : MCal l.prog w K mg base CX0 C.table "check_kind" 3 P_Table_check_kind (sp_Table_check_kind K C) := ⟨f_Table_check_kind, _, ok_Table_check_kind (P := l.prog) (w := w) (base := base) (C := C) F_Table_check_kind B T_Table A_Table c_is_between kb_is_between c_Table_count, ⟨a_Table_check_kind, i_Table_check_kind, k_Table_check_kind⟩, b_Table_check_kind⟩
  let c_Table_join : MCal l.prog w K mg base CX0 C.table "join" 4 P_Table_join (sp_Table_join K C) := ⟨f_Table_join, _, ok_Table_join (P := l.prog) (w := w) (base := base) (C := C) F_Table_join B T_Table A_Table c_Table_check_kind, ⟨a_Table_join, i_Table_join, k_Table_join⟩, b_Table_join⟩
  let c_Table_toll : MCal l.prog w K mg base CX0 C.table "toll" 4 P_Table_toll (sp_Table_toll K C) := ⟨f_Table_toll, _, ok_Table_toll (P := l.prog) (w := w) (base := base) (C := C) F_Table_toll B T_Table A_Table c_Table_check_kind, ⟨a_Table_toll, i_Table_toll, k_Table_toll⟩, b_Table_toll⟩
  let c_left_first : Cal l.prog w K mg base CX0 "left_first" 5 P_left_first (sp_left_first K C) := ⟨f_left_first, _, ok_left_first (P := l.prog) (w := w) (base := base) (C := C) F_left_first B T_Table A_Table c_Table_join c_Table_toll, PySem.W.mg_of X G a_left_first, k_left_first, b_left_first⟩
  let c_right_first : Cal l.prog w K mg base CX0 "right_first" 5 P_right_first (sp_right_first K C) := ⟨f_right_first, _, ok_right_first (P := l.prog) (w := w) (base := base) (C := C) F_right_first B T_Table A_Table c_Table_join c_Table_toll, PySem.W.mg_of X G a_right_first, k_right_first, b_right_first⟩
  let c_three : Cal l.prog w K mg base CX0 "three" 6 P_three (sp_three K C) := ⟨f_three, _, ok_three (P := l.prog) (w := w) (base := base) (C := C) F_three B T_Table A_Table c_triples c_Table_count c_left_first c_right_first, PySem.W.mg_of X G a_three, k_three, b_three⟩
  let c_check_long_row : Cal l.prog w K mg base CX0 "check_long_row" 3 P_check_long_row (sp_check_long_row K C) := ⟨f_check_long_row, _, ok_check_long_row (P := l.prog) (w := w) (base := base) (C := C) F_check_long_row B T_Table A_Table c_is_between kb_is_between c_Table_count, PySem.W.mg_of X G a_check_long_row, k_check_long_row, b_check_long_row⟩
  let c_total : Cal l.prog w K mg base CX0 "total" 7 P_total (sp_total K C) := ⟨f_total, _, ok_total (P := l.prog) (w := w) (base := base) (C := C) F_total B T_Table A_Table c_check_long_row c_three c_Table_toll c_Table_join, PySem.W.mg_of X G a_total, k_total, b_total⟩
  exact ok_law (P := l.prog) (w := w) (base := base) (C := C) F_law B T_Table A_Table c_Lsource c_Ldraw c_Lfirm_joins c_Lnumbers c_Lworth_tolls c_Table___init__ c_Lcell_at c_three c_total c_Lpick
theorem walk_law {l : PySem.W.OpenLaw} {q : Program} {loose : List Str} {XP : (Str → Option Value) → Heap → Prop} {YP : World → Heap → Prop} {d : DefRec} {K : Params → PySem.W.Frag} (hn : l.most = some 63) (hdf : d.params.defaults = [])
    (hY : ∀ (w : World) (h : Heap), YP w h → (K w.params).In h)
    (F : ∀ (w : World) (mg : Str → Option Value) (fa : Addr) (h : Heap), (K w.params).In h → h.Ns mainGlobals mg → mg d.name = some (.ref fa) →
      ∃ fd : FuncData, (∀ (s : Shared) (u : Value), BindsTo s fd ⟨[u], []⟩ [("_law_script", u)]) ∧ ∀ base : Heap, (K w.params).In base → base.Ns mainGlobals mg → FnG l.prog w (K w.params) mg base 8 fa fd P_law (sp_law (K w.params) ⟨0, 0, 0, 0⟩)) :
    PySem.W.WalkO q loose XP YP l.row.toRowW d [] (fun f vs => PySem.call f vs) :=
  J.walk_go (n := 63) (k := 8) (x := "_law_script") (sp := fun w => sp_law (K w.params) ⟨0, 0, 0, 0⟩) hn (by decide) hdf ⟨rfl, by decide, by decide⟩ hY F fun _ _ a ns hl _ hS => ⟨a, ns, rfl, hS, hl, fun _ => rfl⟩
end J
open PySem PySem.W PyProof.Rows
set_option maxRecDepth 100000 in
set_option maxHeartbeats 0 in
theorem PySem.Challenge.cw_jointoll_k15_whole_totals_of_long_rows_holds : PySem.Challenge.rw_jointoll_k15_whole_totals_of_long_rows.Holds := by
  w_on; o_law; k_head; (case hw => w_witness2)
  k_fill
  refine J.walk_law (l := PySem.Challenge.rw_jointoll_k15_whole_totals_of_long_rows) rfl rfl (fun w h Y => PySem.W.kIn_of Y) ?F
  case F =>
    intro w mg fa h KX G hmg
    refine' J.all_mk KX G hmg ?a_Lsource ?l_Lsource ?e_Lsource ?k_Lsource ?a_Ldraw ?l_Ldraw ?e_Ldraw ?k_Ldraw ?a_Lfirm_joins ?l_Lfirm_joins ?e_Lfirm_joins ?k_Lfirm_joins ?a_Lpick ?l_Lpick ?e_Lpick ?k_Lpick ?a_Lnumbers ?l_Lnumbers ?e_Lnumbers ?k_Lnumbers ?a_Lworth_tolls ?l_Lworth_tolls ?e_Lworth_tolls ?k_Lworth_tolls ?a_is_integer ?l_is_integer ?e_is_integer ?k_is_integer ?a_is_between ?l_is_between ?e_is_between ?k_is_between ?a_check_grid ?l_check_grid ?e_check_grid ?k_check_grid ?a_check_joins ?l_check_joins ?e_check_joins ?k_check_joins ?a_Table___init__ ?i_Table___init__ ?l_Table___init__ ?e_Table___init__ ?k_Table___init__ ?a_Lcell_at ?l_Lcell_at ?e_Lcell_at ?k_Lcell_at ?a_triples ?l_triples ?e_triples ?k_triples ?a_Table_count ?i_Table_count ?l_Table_count ?e_Table_count ?k_Table_count ?a_Table_check_kind ?i_Table_check_kind ?l_Table_check_kind ?e_Table_check_kind ?k_Table_check_kind ?a_Table_join ?i_Table_join ?l_Table_join ?e_Table_join ?k_Table_join ?a_Table_toll ?i_Table_toll ?l_Table_toll ?e_Table_toll ?k_Table_toll ?a_left_first ?l_left_first ?e_left_first ?k_left_first ?a_right_first ?l_right_first ?e_right_first ?k_right_first ?a_three ?l_three ?e_three ?k_three ?a_check_long_row ?l_check_long_row ?e_check_long_row ?k_check_long_row ?a_total ?l_total ?e_total ?k_total ?a_law ?l_law ?e_law ?k_law ?aC_Table ?pg_Table ?hd_Table ?po_Table ?sa_Table ?n_Table_results ?n_Table_prices ?mk_Table ?kc_Table ?z_bool ?z_enumerate ?z_int ?z_isinstance ?z_len ?z_list ?z_max ?z_min ?z_range ?z_repr ?z_sum ?z_tuple ?q_MOST_KINDS ?q_TOLL_BOUND ?q_MOST_FIRM_ITEMS
    (case aC_Table => k_is); (case a_Lsource => k_is); (case l_Lsource => k_is); (case e_Lsource => k_is); (case k_Lsource => k_is); (case a_Ldraw => k_is)
    (case l_Ldraw => k_is); (case e_Ldraw => k_is); (case k_Ldraw => k_is); (case a_Lfirm_joins => k_is); (case l_Lfirm_joins => k_is); (case e_Lfirm_joins => k_is)
    (case k_Lfirm_joins => k_is); (case a_Lpick => k_is); (case l_Lpick => k_is); (case e_Lpick => k_is); (case k_Lpick => k_is); (case a_Lnumbers => k_is)
    (case l_Lnumbers => k_is); (case e_Lnumbers => k_is); (case k_Lnumbers => k_is); (case a_Lworth_tolls => k_is); (case l_Lworth_tolls => k_is); (case e_Lworth_tolls => k_is)
    (case k_Lworth_tolls => k_is); (case a_is_integer => k_is); (case l_is_integer => k_is); (case e_is_integer => k_is); (case k_is_integer => k_is); (case a_is_between => k_is)
    (case l_is_between => k_is); (case e_is_between => k_is); (case k_is_between => k_is); (case a_check_grid => k_is); (case l_check_grid => k_is); (case e_check_grid => k_is)
    (case k_check_grid => k_is); (case a_check_joins => k_is); (case l_check_joins => k_is); (case e_check_joins => k_is); (case k_check_joins => k_is); (case a_Table___init__ => k_is)
    (case i_Table___init__ => k_is); (case l_Table___init__ => k_is); (case e_Table___init__ => k_is); (case k_Table___init__ => k_is); (case a_Lcell_at => k_is); (case l_Lcell_at => k_is)
    (case e_Lcell_at => k_is); (case k_Lcell_at => k_is); (case a_triples => k_is); (case l_triples => k_is); (case e_triples => k_is); (case k_triples => k_is)
    (case a_Table_count => k_is); (case i_Table_count => k_is); (case l_Table_count => k_is); (case e_Table_count => k_is); (case k_Table_count => k_is); (case a_Table_check_kind => k_is)
    (case i_Table_check_kind => k_is); (case l_Table_check_kind => k_is); (case e_Table_check_kind => k_is); (case k_Table_check_kind => k_is); (case a_Table_join => k_is); (case i_Table_join => k_is)
    (case l_Table_join => k_is); (case e_Table_join => k_is); (case k_Table_join => k_is); (case a_Table_toll => k_is); (case i_Table_toll => k_is); (case l_Table_toll => k_is)
    (case e_Table_toll => k_is); (case k_Table_toll => k_is); (case a_left_first => k_is); (case l_left_first => k_is); (case e_left_first => k_is); (case k_left_first => k_is)
    (case a_right_first => k_is); (case l_right_first => k_is); (case e_right_first => k_is); (case k_right_first => k_is); (case a_three => k_is); (case l_three => k_is)
    (case e_three => k_is); (case k_three => k_is); (case a_check_long_row => k_is); (case l_check_long_row => k_is); (case e_check_long_row => k_is); (case k_check_long_row => k_is)
    (case a_total => k_is); (case l_total => k_is); (case e_total => k_is); (case k_total => k_is); (case a_law => k_is); (case l_law => k_is)
    (case e_law => k_is); (case k_law => k_is); (case pg_Table => k_is); (case hd_Table => k_is); (case po_Table => k_is); (case sa_Table => k_is)
    (case n_Table_results => k_is); (case n_Table_prices => k_is); (case mk_Table => k_is); (case kc_Table => k_is); (case z_bool => k_is); (case z_enumerate => k_is)
    (case z_int => k_is); (case z_isinstance => k_is); (case z_len => k_is); (case z_list => k_is); (case z_max => k_is); (case z_min => k_is)
    (case z_range => k_is); (case z_repr => k_is); (case z_sum => k_is); (case z_tuple => k_is); (case q_MOST_KINDS => k_is); (case q_TOLL_BOUND => k_is)
    (case q_MOST_FIRM_ITEMS => k_is)
#print axioms PySem.Challenge.cw_jointoll_k15_whole_totals_of_long_rows_holds
