import PyProof.Rows.All
import Wide.All
import OpenK.AllK
import Wide.FinOn
import HandS.ForMost
import HandS.Flow
import HandS.IsInst
import HandS.Style
import HandS.Wide
import HandS.Zip
import HandS.Deep
import HandS.Conv
import HandS.Rev
import HandS.TupAny
import KE.GoesEnumKw
import HandS.RaiseMore
import HandS.SortKw
import HandS.ExcInit
import HandS.ClsMeth
import HandS.Defaults
import HandS.ExcField
import HandS.WordsExc
import HandS.TryOnly
import HandS.CallSlots
import HandS.TupMul
import HandS.TupSets
import HandS.SortRule
import KE.KDictWalk
import KE.KEqNest
import PyProof.ReprRoads
import HandS.ExcIs
import PyProof.InstNe
import HandS.More
import HandS.Codes
import KE.DataFind
import PyProof.EqKinds
import PyProof.NeKinds
import HandS.DictComp
import PyProof.Rows.TupDisplay
import HandS.List
import PyProof.ZipIter
import HandS.HotCalls
import KE.KSmall
import KE.DataMinMax
import PyProof.Rows.RowBridgeK
import HandS.SetFor
import HandS.Strs
import KE.KeyNested
import PySem.Challenge.RW_jointoll_k08_whole_rotations_link_trees
set_option Elab.async false
set_option maxRecDepth 100000
set_option maxHeartbeats 4000000
set_option linter.all false
/-! Heaps with a written part M (addresses that may change), data judged outside of M. -/
namespace J
open PySem L2 PySem.Spec PyProof.Rows
/-- the heap without the addresses in M -/
def hid (M : List Addr) (H : Hp) : Hp := fun b => if b ∈ M then none else H b
/-- all of M is there -/
def Al (M : List Addr) (H : Hp) : Prop := ∀ m ∈ M, H m ≠ none
/-- all but s is kept -/
def But (s : Addr) (H H' : Hp) : Prop := ∀ b o, b ≠ s → H b = some o → H' b = some o
section
variable {M : List Addr} {H H' H2 : Hp} {a b p s D : Addr} {o : HO} {K : PySem.W.Frag}
theorem hid_in (h : b ∈ M) : hid M H b = none := by unfold hid; rw [if_pos h]
theorem hid_out (h : b ∉ M) : hid M H b = H b := by unfold hid; rw [if_neg h]
theorem hid_some (h : hid M H b = some o) : H b = some o ∧ b ∉ M := by
  by_cases e : b ∈ M
  · rw [hid_in e] at h; cases h
  · rw [hid_out e] at h; exact ⟨h, e⟩
theorem _root_.L2.Same.hid (x : Same H H') : Same (hid M H) (hid M H') := fun b o h => by
  obtain ⟨h1, h2⟩ := hid_some h
  rw [hid_out h2]; exact x b o h1
theorem But.hid (x : But s H H') (hs : s ∈ M) : Same (hid M H) (hid M H') := fun b o h => by
  obtain ⟨h1, h2⟩ := hid_some h
  rw [hid_out h2]; exact x b o (fun z => h2 (by rw [z]; exact hs)) h1
theorem But.refl : But s H H := fun _ _ _ h => h
theorem But.trans (x : But s H H') (y : But s H' H2) : But s H H2 := fun b o n h => y b o n (x b o n h)
theorem But.same (x : Same H H') : But s H H' := fun b o _ h => x b o h
theorem But.upd : But s H (upd H s o) := fun b o' n h => by rw [upd_ne n]; exact h
theorem new_same (h : H p = none) : Same H (upd H p o) := fun b o' e => by rw [upd_ne (ne_of_none e h)]; exact e
theorem Al.cons (x : Al M H) (h : H D = some o) : Al (D :: M) H := fun m hm => by
  rcases List.mem_cons.mp hm with e | e
  · rw [e, h]; exact fun z => nomatch z
  · exact x m e
theorem Al.mono (x : Al M H) (y : Same H H') : Al M H' := fun m hm z => by
  cases e : H m with
  | none => exact x m hm e
  | some o => rw [y m o e] at z; cases z
theorem Al.but (x : Al M H) (y : But s H H') (hs : H' s = some o) : Al M H' := fun m hm z => by
  by_cases q : m = s
  · rw [q, hs] at z; cases z
  · cases e : H m with
    | none => exact x m hm e
    | some o => rw [y m o q e] at z; cases z
theorem Al.new (x : Al M H) (h : H p = none) : p ∉ M := fun z => x p z h
theorem Al.upd (x : Al M H) : Al M (upd H D o) := fun m hm z => by
  by_cases e : m = D
  · rw [e, upd_same] at z; cases z
  · rw [upd_ne e] at z; exact x m hm z
theorem _root_.L2.SqT.mono {xs : List V} (e : Same H H') (h : SqT K H a xs) : SqT K H' a xs := by
  rcases h with (h | ⟨o, h⟩) | h
  · exact .inl (.inl (e _ _ h))
  · exact .inl (.inr ⟨o, e _ _ h⟩)
  · exact .inr h
theorem _root_.L2.SqL.mono {xs : List V} (e : Same H H') (h : SqL K H a xs) : SqL K H' a xs := e.seq h
mutual
theorem dp_mono (s : Same H H') : ∀ {v : V} {d : PyData}, Dp K H v d → Dp K H' v d
  | _, _, .non => .non
  | _, _, .bl b => .bl b
  | _, _, .int i => .int i
  | _, _, .str x => .str x
  | _, _, .lst h a => .lst (SqL.mono s h) (dpAll_mono s a)
  | _, _, .tup h a => .tup (SqT.mono s h) (dpAll_mono s a)
theorem dpAll_mono (s : Same H H') : ∀ {vs : List V} {ds : List PyData}, DpAll K H vs ds → DpAll K H' vs ds
  | _, _, .nil => .nil
  | _, _, .cons h t => .cons (dp_mono s h) (dpAll_mono s t)
end
theorem _root_.L2.Dp.mono {v : V} {d : PyData} (x : Dp K H v d) (s : Same H H') : Dp K H' v d := dp_mono s x
theorem _root_.L2.DpAll.mono {v : List V} {d : List PyData} (x : DpAll K H v d) (s : Same H H') : DpAll K H' v d := dpAll_mono s x
theorem ints_dpAll : ∀ (ns : List Int), DpAll K H (ns.map V.int) (ns.map PyData.int)
  | [] => .nil
  | _ :: t => .cons (.int _) (ints_dpAll t)
end
end J
/-! List comprehensions with several for clauses, clause by clause: Runs says what one clause's whole loop does within the block; pe_lc3 is the rule for three clauses. -/
namespace J
open PySem L2 PySem.Spec PyProof.Rows
abbrev Evs := List Expr
abbrev St := L2.St
section
variable {X : Cx}
abbrev g3 (t0 i0 : Expr) (f0 : Evs) (t1 i1 : Expr) (f1 : Evs) (t2 i2 : Expr) (f2 : Evs) : List Comprehension := [⟨t0, i0, f0, 0⟩, ⟨t1, i1, f1, 0⟩, ⟨t2, i2, f2, 0⟩]
end
end J
/-! Defs that are run while no repr is under way: A.guards = some [] is known of what is around them, so that repr of lists and tuples may be asked within. -/
namespace J
open PySem L2 PySem.Spec PyProof.Rows
/-- a def's promise where no repr is under way -/
structure FnG (P : Program) (w : World) (K : PySem.W.Frag) (mg : Str → Option Value) (base : Heap) (k : Nat) (f : Addr) (fd : FuncData) (ps : List Str) (sp : Sp) : Prop where
  len : ∀ vs H Q E, sp vs H Q E → vs.length = ps.length
  run : ∀ (A : Around), A.guards = some [] → ∀ (outer : List Env) (s : Shared) (H : Hp) (args : Args) (us : List Value) (vs : List V) (Q : VK) (E : XK), Room k A → Env0 P w K mg base A outer s H → BindsTo s fd args (ps.zip us) → Vals vs us → sp vs H Q E → codeAny (model P w) A (.call (.ref f) args) (CR CX0 outer P w H s Q E) s
section
variable {P : Program} {w : World} {K : PySem.W.Frag} {mg : Str → Option Value} {base : Heap}
theorem FnG.of {k : Nat} {f : Addr} {fd : FuncData} {ps : List Str} {sp : Sp} (F : FnOk P w K mg base CX0 k f fd ps sp) : FnG P w K mg base k f fd ps sp := ⟨F.len, fun A _ => F.run A⟩
end
/-- the law's call, its def's promise known where no repr is under way -/
theorem law_go {P : Program} {w : World} {K : PySem.W.Frag} {mg mb : Str → Option Value} {k : Nat} {fa a : Addr} {fd : FuncData} {x : Str} {sp : Sp} {s₁ : Shared} {vs : List Value} {ns : List Int}
    (KX : K.In s₁.heap) (hns : s₁.heap.Ns mainGlobals mg) (hb : s₁.heap.Ns builtinsNs mb) (hbb : ∀ x : Str, x ≠ "__name__" → mb x = bootBuiltins x) (hlim : s₁.heap.NoLimit) (hg : s₁.gens = #[])
    (ha : s₁.heap.get? a = some { cls := .type "list", data := .seq vs.toArray }) (hi : IntsAre vs ns) (hl : ns.length ≤ sizeLine) (hr : Room k callerA)
    (F : ∀ base : Heap, K.In base → base.Ns mainGlobals mg → FnG P w K mg base k fa fd [x] sp) (hbind : ∀ (s : Shared) (u : Value), BindsTo s fd ⟨[u], []⟩ [(x, u)])
    (hsp : ∀ H : Hp, Only H → SqL K H a (ns.map V.int) → sp [.ref a] H (fun v _ => v = .bl true) E0) :
    codeAny (model P w) callerA (.call (.ref fa) ⟨[.ref a], []⟩) (fun r s' => r = .ok (.ret (.bool true)) ∧ OldK s₁.heap s'.heap ∧ s'.os = s₁.os ∧ AllBare s'.gens) s₁ := by
  have rv : Vals (ns.map V.int) vs := vals_ints hi
  have hv : vs.length = ns.length := by have := rv.length; rw [List.length_map] at this; exact this.symm
  let ob : Obj := { cls := .type "list", data := .seq vs.toArray }
  have build : ∀ H : Hp, (∀ b, H b = none ∨ (b = a ∧ H b = some (.frz ob (.lst (ns.map V.int))))) → (H a ≠ none → K.lookup a = none) → SqL K H a (ns.map V.int) →
      codeAny (model P w) callerA (.call (.ref fa) ⟨[.ref a], []⟩) (fun r s' => r = .ok (.ret (.bool true)) ∧ OldK s₁.heap s'.heap ∧ s'.os = s₁.os ∧ AllBare s'.gens) s₁ := by
    intro H hH hK hS
    have hok : HOk P w H s₁.heap := fun b o e => by
      rcases hH b with z | ⟨rfl, z⟩
      · rw [z] at e; cases e
      · rw [z] at e; cases e
        exact ⟨ha, by rw [List.length_map]; exact hl, vs, _, rv, ha⟩
    have atD : ∀ {b : Addr} {o : Obj} {es : Array DictEntry} {ep : Nat}, s₁.heap.get? b = some o → o.data = .dict es ep → H b = none := fun {b o es ep} e d => by
      rcases hH b with z | ⟨rfl, z⟩
      · exact z
      · rw [ha] at e; cases e; cases d
    have ns' : ∀ {b : Addr} {m : Str → Option Value}, s₁.heap.Ns b m → (hidT s₁.heap H).Ns b m := fun {b m} ⟨o, es, ep, e, d, r⟩ => ⟨o, es, ep, hidT_get e (atD e d), d, r⟩
    have kin : K.In (hidT s₁.heap H) := fun b o e => hidT_get (KX b o e) (by
      rcases hH b with z | ⟨rfl, z⟩
      · exact z
      · rw [hK (by rw [z]; exact fun q => nomatch q)] at e; cases e)
    have lim : (hidT s₁.heap H).NoLimit := let ⟨mc, h1, h2⟩ := hlim; ⟨mc, ns' h1, h2⟩
    have e0 : Env0 P w K mg (hidT s₁.heap H) callerA [] s₁ H := ⟨rfl, ⟨kin, ns' hns, ⟨mb, ns' hb, hbb⟩, lim⟩, fun b o e => of_hidT e, Nat.le_of_eq (hidT_size _ _), trivial, fun b hb => absurd (show b ∈ ([] : List Addr) from hb) (by simp), hok, .of_eq hg⟩
    have only : Only H := fun b => (hH b).imp id fun z => ⟨ob, _, z.2⟩
    refine codeAny_mono ((F _ kin (ns' hns)).run callerA rfl [] s₁ H ⟨[.ref a], []⟩ [.ref a] [.ref a] _ E0 hr e0 (hbind s₁ (.ref a)) (.cons rfl .nil) (hsp H only hS)) fun r s' z => ?_
    match r, z with
    | .error _, z => exact z.elim
    | .ok .next, z => exact z.elim
    | .ok .brk, z => exact z.elim
    | .ok .cont, z => exact z.elim
    | .ok (.ret u), ⟨v, H', os, bare, un, hok', r', q⟩ =>
      obtain rfl : v = .bl true := q
      obtain rfl : u = Value.bool true := r'
      refine ⟨rfl, OldK.of_keep fun b o e => ?_, os, bare⟩
      rcases hH b with z | ⟨rfl, z⟩
      · exact un.keep b o e z (fun q => absurd (show b ∈ ([] : List Addr) from q) (by simp)) (by simp)
      · have z2 := un.frzs b ob _ z
        have e1 : s₁.heap.get? b = some ob := ha
        rw [e] at e1; cases e1
        exact (hok' b _ z2).1
  cases hk : K.lookup a with
  | some o =>
    have e := KX a o hk
    rw [ha] at e; cases e
    exact build (fun _ => none) (fun _ => .inl rfl) (fun z => absurd rfl z) (.inr ⟨_, vs.toArray, _, hk, rfl, rfl, rfl, by rw [List.size_toArray, hv]; exact hl, by simpa using rv⟩)
  | none =>
    refine build (fun b => if b = a then some (.frz ob (.lst (ns.map V.int))) else none) (fun b => ?_) (fun _ => hk) (.inl (.inr ⟨ob, if_pos rfl⟩))
    by_cases hb : b = a
    · exact .inr ⟨hb, if_pos hb⟩
    · exact .inl (if_neg hb)
theorem walk_go {l : PySem.W.OpenLaw} {n k : Nat} {q : Program} {loose : List Str} {XP : (Str → Option Value) → Heap → Prop} {YP : World → Heap → Prop} {d : DefRec} {K : Params → PySem.W.Frag} {sp : World → Sp} {x : Str}
    (hn : l.most = some n) (hn2 : n ≤ sizeLine) (hdf : d.params.defaults = []) (hr : Room k callerA) (hY : ∀ (w : World) (h : Heap), YP w h → (K w.params).In h)
    (F : ∀ (w : World) (mg : Str → Option Value) (fa : Addr) (h : Heap), (K w.params).In h → h.Ns mainGlobals mg → mg d.name = some (.ref fa) →
      ∃ fd : FuncData, (∀ (s : Shared) (u : Value), BindsTo s fd ⟨[u], []⟩ [(x, u)]) ∧ ∀ base : Heap, (K w.params).In base → base.Ns mainGlobals mg → FnG l.prog w (K w.params) mg base k fa fd [x] (sp w))
    (hsp : ∀ (w : World) (H : Hp) (a : Addr) (ns : List Int), ns.length ≤ n → Only H → SqL (K w.params) H a (ns.map V.int) → sp w [.ref a] H (fun v _ => v = .bl true) E0) : PySem.W.WalkO q loose XP YP l.row.toRowW d [] (fun f vs => PySem.call f vs) := by
  refine Att.attach_call hn hdf fun w _ s₁ mg mb fa _ _ _ _ a vs ns G Y _ _ _ hmg hobj hints hlen hg => ?_
  have KX := hY w _ Y
  obtain ⟨fd, hb, hF⟩ := F w mg fa _ KX G.T.g hmg
  exact law_go KX G.T.g G.T.b G.T.builtins G.T.nolimit hg hobj hints (Nat.le_trans hlen hn2) hr hF hb fun H hO hS => hsp w H a ns hlen hO hS
end J
/-! Called defs as data; enumerate with a start; small rules. -/
namespace J
open PySem L2 PySem.Spec PyProof.Rows
section
variable {X : Cx}
/-- a whole number that the module names -/
theorem pe_gint {x : Str} {i : Int} {pos : Pos} (h : ∃ t, X.mg x = some (.int i t)) (hg : Gl X x := by rfl) (hd : (x == ("__debug__" : Str)) = false := by decide) : PE X (.Name x pos) (tC (.int i)) := by
  obtain ⟨t, h⟩ := h
  exact pe_glob hg h ⟨t, rfl⟩ hd
end
/-! ### enumerate(list, start = k) -/
end J
/-! Comprehensions that make a list of data, one item a turn. -/
/-! C.m(self, ..): a def of a class called through the class itself. -/
namespace J
open PySem L2 PySem.Spec PyProof.Rows ClX
/-- an exception class of the module over ValueError, its object at C -/
structure ExT (K : PySem.W.Frag) (mg : Str → Option Value) (x : Str) (C : Addr) : Prop where
  ox : OexC K C
  g : mg x = some (.ref C)
  rd : CRead K C (.type "type")
/-- its __init__ -/
structure XCal (P : Program) (w : World) (K : PySem.W.Frag) (mg : Str → Option Value) (base : Heap) (C : Addr) (k : Nat) (ps : List Str) (sp : Sp) where
  f : Addr
  fd : FuncData
  ok : FnOk P w K mg base CX0 k f fd ps sp
  kp : PySem.W.keepIn K (.ref f) = true
  b : Binds K fd ps []
  cv : CVal K C (.type "type") "__init__" (.ref f) (.ref f)
  iC : PySem.W.findIn K (.ref C) "__init__" = some (some (.ref f))
  tI : PySem.W.typeIn K (.ref f) = some (.type "function")
/-- ValueError.__init__ is what it was -/
def VeI (K : PySem.W.Frag) : Prop := PySem.W.findCls K (.type "ValueError") (.type "type") "__init__" = some (.val (.builtin "ValueError.__init__"))
end J
/-! Pure values, environments of slots, and how they stand in a heap: owned containers (written by their owner alone) and data that stay. -/
namespace J
open PySem L2 PySem.Spec PyProof.Rows
/-- pure values; true: a container of one owner, that may still be written -/
inductive D where
  | non | bl (b : Bool) | int (i : Int) | str (s : Str) | hole | exc
  | lst (o : Bool) (xs : List D)
  | scr (xs : List D)
  | tup (xs : List D)
  | dK (o : Bool) (ks : List Key) (vs : List D)
  | tK (ks : List Key) (vs : List D)
  | dT (o : Bool) (ks : List (List Key)) (vs : List D)
  | ins (o : Bool) (c : Nat) (ns : List Str) (vs : List D)
abbrev Env := List (Option D)
/-- how an expression ends: a value, an exception (its class, its fields), or nothing is said -/
inductive R (α : Type) where
  | ok (a : α) (e : Env)
  | ex (c : Nat) (ns : List Str) (vs : List D) (e : Env)
  | no
/-- how a statement ends -/
inductive Out where
  | nx (e : Env) | rt (r : D) (e : Env) | bk (e : Env) | ct (e : Env)
  | ex (c : Nat) (ns : List Str) (vs : List D) (e : Env)
  | no
mutual
def D.fz : D → D
  | .non => .non | .bl b => .bl b | .int i => .int i | .str s => .str s | .hole => .hole | .exc => .exc
  | .lst _ xs => .lst false (D.fzL xs)
  | .scr xs => .scr xs
  | .tup xs => .tup (D.fzL xs)
  | .dK _ ks vs => .dK false ks (D.fzL vs)
  | .tK ks vs => .tK ks (D.fzL vs)
  | .dT _ ks vs => .dT false ks (D.fzL vs)
  | .ins _ c ns vs => .ins false c ns (D.fzL vs)
def D.fzL : List D → List D
  | [] => []
  | d :: ds => d.fz :: D.fzL ds
end
mutual
def D.noOwn : D → Bool
  | .non => true | .bl _ => true | .int _ => true | .str _ => true | .hole => true | .exc => true
  | .lst o xs => !o && D.noOwnL xs
  | .scr _ => true
  | .tup xs => D.noOwnL xs
  | .dK o _ vs => !o && D.noOwnL vs
  | .tK _ vs => D.noOwnL vs
  | .dT o _ vs => !o && D.noOwnL vs
  | .ins o _ _ vs => !o && D.noOwnL vs
def D.noOwnL : List D → Bool
  | [] => true
  | d :: ds => d.noOwn && D.noOwnL ds
end
open Classical in
/-- the heap without what M tells -/
noncomputable def hide (M : Addr → Prop) (H : Hp) : Hp := fun b => if M b then none else H b
section
variable {M M' : Addr → Prop} {H H' : Hp} {a b : Addr} {o : HO}
theorem hide_in (h : M b) : hide M H b = none := by unfold hide; rw [if_pos h]
theorem hide_out (h : ¬ M b) : hide M H b = H b := by unfold hide; rw [if_neg h]
theorem hide_some (h : hide M H b = some o) : H b = some o ∧ ¬ M b := by
  by_cases e : M b
  · rw [hide_in e] at h; cases h
  · rw [hide_out e] at h; exact ⟨h, e⟩
theorem hide_le : Same (hide M H) H := fun _ _ h => (hide_some h).1
theorem hide_mono (s : Same H H') (m : ∀ b, M' b → M b ∨ H b = none) : Same (hide M H) (hide M' H') := fun b o h => by
  obtain ⟨h1, h2⟩ := hide_some h
  rw [hide_out fun z => ?_]
  · exact s b o h1
  · rcases m b z with q | q
    · exact h2 q
    · rw [h1] at q; cases q
end
/-- a thing that stands, no tuple -/
def Liv (H : Hp) (b : Addr) : Prop := ∃ o, H b = some o ∧ ∀ vs, o ≠ .tup vs
theorem Liv.ne {H : Hp} {b : Addr} (h : Liv H b) : H b ≠ none := by
  obtain ⟨o, e, _⟩ := h
  rw [e]
  exact fun z => nomatch z
theorem Liv.upd {H : Hp} {b l : Addr} {o : HO} (h : Liv H b) (n : b ≠ l) : Liv (upd H l o) b := by
  obtain ⟨u, e, q⟩ := h
  exact ⟨u, by rw [upd_ne n]; exact e, q⟩
theorem Liv.same {H H' : Hp} {b : Addr} (h : Liv H b) (s : Same H H') : Liv H' b := by
  obtain ⟨u, e, q⟩ := h
  exact ⟨u, s _ _ e, q⟩
theorem rd_mono {H H' : Hp} {a : Addr} {u : HO} (s : Same H H') (h : Rd H a u) : Rd H' a u := h.imp (s _ _) fun ⟨o, q⟩ => ⟨o, s _ _ q⟩
section
variable (K : PySem.W.Frag) (C : Nat → Addr) (M : Addr → Prop) (H : Hp)
mutual
/-- the value v is d in the heap H; F: what d owns, M: all that is owned -/
inductive Rep : V → D → List Addr → Prop
  | non : Rep .non .non []
  | bl (b : Bool) : Rep (.bl b) (.bl b) []
  | int (i : Int) : Rep (.int i) (.int i) []
  | str (s : Str) : Rep (.str s) (.str s) []
  | hole (v : V) : Rep v .hole []
  | exc : Rep (.ref (C 999)) .exc []
  | lst {a : Addr} {vs : List V} {ds : List D} {F : List Addr} (h : hide M H a = some (.lst vs)) (hF : F = []) (t : RepL vs ds F) : Rep (.ref a) (.lst false ds) F
  | scr {a : Addr} {ns : List Int} (h : SqL K (hide M H) a (ns.map V.int)) : Rep (.ref a) (.scr (ns.map D.int)) []
  | own {a : Addr} {vs : List V} {ds : List D} {F : List Addr} (h : H a = some (.lst vs)) (t : RepL vs ds F) : Rep (.ref a) (.lst true ds) (a :: F)
  | tup {a : Addr} {vs : List V} {ds : List D} {F : List Addr} (h : hide M H a = some (.tup vs)) (t : RepL vs ds F) : Rep (.ref a) (.tup ds) F
  | dKf {a : Addr} {ks : List Key} {vs : List V} {ds : List D} {F : List Addr} (h : hide M H a = some (.dK (ks.zip vs))) (hl : ks.length = vs.length) (hF : F = []) (t : RepL vs ds F) : Rep (.ref a) (.dK false ks ds) F
  | dKo {a : Addr} {ks : List Key} {vs : List V} {ds : List D} {F : List Addr} (h : H a = some (.dK (ks.zip vs))) (hl : ks.length = vs.length) (t : RepL vs ds F) : Rep (.ref a) (.dK true ks ds) (a :: F)
  | tK {a : Addr} {ks : List Key} {vs : List V} {ds : List D} {F : List Addr} (h : Rd (hide M H) a (.dK (ks.zip vs))) (hl : ks.length = vs.length) (hF : F = []) (t : RepL vs ds F) : Rep (.ref a) (.tK ks ds) F
  | dTf {a : Addr} {ks : List (List Key)} {vs : List V} {ds : List D} {F : List Addr} (h : Rd (hide M H) a (.dT (ks.zip vs))) (hl : ks.length = vs.length) (hF : F = []) (t : RepL vs ds F) : Rep (.ref a) (.dT false ks ds) F
  | dTo {a : Addr} {ks : List (List Key)} {vs : List V} {ds : List D} {F : List Addr} (h : H a = some (.dT (ks.zip vs))) (hl : ks.length = vs.length) (t : RepL vs ds F) : Rep (.ref a) (.dT true ks ds) (a :: F)
  | insF {a dx : Addr} {c : Nat} {ns : List Str} {vs : List V} {ds : List D} {F : List Addr} (h : hide M H a = some (.ins (C c) dx (ns.zip vs))) (hl : ns.length = vs.length) (hF : F = []) (t : RepL vs ds F) : Rep (.ref a) (.ins false c ns ds) F
  | insO {a dx : Addr} {c : Nat} {ns : List Str} {vs : List V} {ds : List D} {F : List Addr} (h : H a = some (.ins (C c) dx (ns.zip vs))) (hl : ns.length = vs.length) (t : RepL vs ds F) : Rep (.ref a) (.ins true c ns ds) (a :: F)
inductive RepL : List V → List D → List Addr → Prop
  | nil : RepL [] [] []
  | cons {v : V} {d : D} {vs : List V} {ds : List D} {F G : List Addr} (h : Rep v d F) (t : RepL vs ds G) : RepL (v :: vs) (d :: ds) (F ++ G)
end
/-- slots -/
inductive RepO : List (Option V) → Env → List Addr → Prop
  | nil : RepO [] [] []
  | gone {x : Option V} {σ : List (Option V)} {e : Env} {G : List Addr} (t : RepO σ e G) : RepO (x :: σ) (none :: e) G
  | have_ {v : V} {d : D} {σ : List (Option V)} {e : Env} {F G : List Addr} (h : Rep K C M H v d F) (t : RepO σ e G) : RepO (some v :: σ) (some d :: e) (F ++ G)
end
section
variable {K : PySem.W.Frag} {C : Nat → Addr} {M M' : Addr → Prop} {H H' : Hp} {a b p : Addr} {o : HO}
theorem sqL_hide {xs : List V} (s : Same (hide M H) (hide M' H')) (h : SqL K (hide M H) a xs) : SqL K (hide M' H') a xs := s.seq h
theorem sqT_hide {xs : List V} (s : Same (hide M H) (hide M' H')) (h : SqT K (hide M H) a xs) : SqT K (hide M' H') a xs := SqT.mono s h
mutual
theorem rep_mono (s : Same (hide M H) (hide M' H')) : ∀ {v : V} {d : D} {F : List Addr}, Rep K C M H v d F → (∀ b ∈ F, ∀ o, H b = some o → H' b = some o) → Rep K C M' H' v d F
  | _, _, _, .non, _ => .non
  | _, _, _, .bl b, _ => .bl b
  | _, _, _, .int i, _ => .int i
  | _, _, _, .str x, _ => .str x
  | _, _, _, .hole v, _ => .hole v
  | _, _, _, .exc, _ => .exc
  | _, _, _, .lst h e t, k => .lst (s _ _ h) e (repL_mono s t k)
  | _, _, _, .scr h, k => .scr (sqL_hide s h)
  | _, _, _, .own h t, k => .own (k _ (List.mem_cons_self ..) _ h) (repL_mono s t fun b hb => k b (List.mem_cons_of_mem _ hb))
  | _, _, _, .tup h t, k => .tup (s _ _ h) (repL_mono s t k)
  | _, _, _, .dKf h l e t, k => .dKf (s _ _ h) l e (repL_mono s t k)
  | _, _, _, .dKo h l t, k => .dKo (k _ (List.mem_cons_self ..) _ h) l (repL_mono s t fun b hb => k b (List.mem_cons_of_mem _ hb))
  | _, _, _, .tK h l e t, k => .tK (rd_mono s h) l e (repL_mono s t k)
  | _, _, _, .dTf h l e t, k => .dTf (rd_mono s h) l e (repL_mono s t k)
  | _, _, _, .dTo h l t, k => .dTo (k _ (List.mem_cons_self ..) _ h) l (repL_mono s t fun b hb => k b (List.mem_cons_of_mem _ hb))
  | _, _, _, .insF h l e t, k => .insF (s _ _ h) l e (repL_mono s t k)
  | _, _, _, .insO h l t, k => .insO (k _ (List.mem_cons_self ..) _ h) l (repL_mono s t fun b hb => k b (List.mem_cons_of_mem _ hb))
theorem repL_mono (s : Same (hide M H) (hide M' H')) : ∀ {vs : List V} {ds : List D} {F : List Addr}, RepL K C M H vs ds F → (∀ b ∈ F, ∀ o, H b = some o → H' b = some o) → RepL K C M' H' vs ds F
  | _, _, _, .nil, _ => .nil
  | _, _, _, .cons h t, k => .cons (rep_mono s h fun b hb => k b (List.mem_append_left _ hb)) (repL_mono s t fun b hb => k b (List.mem_append_right _ hb))
end
theorem repO_mono (s : Same (hide M H) (hide M' H')) : ∀ {σ : List (Option V)} {e : Env} {F : List Addr}, RepO K C M H σ e F → (∀ b ∈ F, ∀ o, H b = some o → H' b = some o) → RepO K C M' H' σ e F
  | _, _, _, .nil, _ => .nil
  | _, _, _, .gone t, k => .gone (repO_mono s t k)
  | _, _, _, .have_ h t, k => .have_ (rep_mono s h fun b hb => k b (List.mem_append_left _ hb)) (repO_mono s t fun b hb => k b (List.mem_append_right _ hb))
mutual
theorem rep_alive : ∀ {v : V} {d : D} {F : List Addr}, Rep K C M H v d F → ∀ b ∈ F, Liv H b
  | _, _, _, .non, _, hb => by cases hb
  | _, _, _, .bl _, _, hb => by cases hb
  | _, _, _, .int _, _, hb => by cases hb
  | _, _, _, .str _, _, hb => by cases hb
  | _, _, _, .hole _, _, hb => by cases hb
  | _, _, _, .exc, _, hb => by cases hb
  | _, _, _, .lst _ _ t, b, hb => repL_alive t b hb
  | _, _, _, .scr _, _, hb => by cases hb
  | _, _, _, .own h t, b, hb => by
    rcases List.mem_cons.mp hb with rfl | q
    · exact ⟨_, h, fun _ z => nomatch z⟩
    · exact repL_alive t b q
  | _, _, _, .tup _ t, b, hb => repL_alive t b hb
  | _, _, _, .dKf _ _ _ t, b, hb => repL_alive t b hb
  | _, _, _, .dKo h _ t, b, hb => by
    rcases List.mem_cons.mp hb with rfl | q
    · exact ⟨_, h, fun _ z => nomatch z⟩
    · exact repL_alive t b q
  | _, _, _, .tK _ _ _ t, b, hb => repL_alive t b hb
  | _, _, _, .dTf _ _ _ t, b, hb => repL_alive t b hb
  | _, _, _, .dTo h _ t, b, hb => by
    rcases List.mem_cons.mp hb with rfl | q
    · exact ⟨_, h, fun _ z => nomatch z⟩
    · exact repL_alive t b q
  | _, _, _, .insF _ _ _ t, b, hb => repL_alive t b hb
  | _, _, _, .insO h _ t, b, hb => by
    rcases List.mem_cons.mp hb with rfl | q
    · exact ⟨_, h, fun _ z => nomatch z⟩
    · exact repL_alive t b q
theorem repL_alive : ∀ {vs : List V} {ds : List D} {F : List Addr}, RepL K C M H vs ds F → ∀ b ∈ F, Liv H b
  | _, _, _, .nil, _, hb => by cases hb
  | _, _, _, .cons h t, b, hb => (List.mem_append.mp hb).elim (rep_alive h b) (repL_alive t b)
end
theorem repO_alive : ∀ {σ : List (Option V)} {e : Env} {F : List Addr}, RepO K C M H σ e F → ∀ b ∈ F, Liv H b
  | _, _, _, .nil, _, hb => by cases hb
  | _, _, _, .gone t, b, hb => repO_alive t b hb
  | _, _, _, .have_ h t, b, hb => (List.mem_append.mp hb).elim (rep_alive h b) (repO_alive t b)
theorem RepL.length : ∀ {vs : List V} {ds : List D} {F : List Addr}, RepL K C M H vs ds F → vs.length = ds.length
  | _, _, _, .nil => rfl
  | _, _, _, .cons _ t => congrArg Nat.succ t.length
theorem RepO.length : ∀ {σ : List (Option V)} {e : Env} {F : List Addr}, RepO K C M H σ e F → σ.length = e.length
  | _, _, _, .nil => rfl
  | _, _, _, .gone t => congrArg Nat.succ t.length
  | _, _, _, .have_ _ t => congrArg Nat.succ t.length
mutual
/-- M' is M without F: what was owned is data from now on -/
theorem rep_fz (m : ∀ b, M' b → M b) : ∀ {v : V} {d : D} {F : List Addr}, Rep K C M H v d F → (∀ b ∈ F, ¬ M' b) → Rep K C M' H v d.fz []
  | _, _, _, .non, _ => .non
  | _, _, _, .bl b, _ => .bl b
  | _, _, _, .int i, _ => .int i
  | _, _, _, .str x, _ => .str x
  | _, _, _, .hole v, _ => .hole v
  | _, _, _, .exc, _ => .exc
  | _, _, _, .lst h _ t, k => .lst (hide_mono (.refl _) (fun b z => .inl (m b z)) _ _ h) rfl (repL_fz m t k)
  | _, _, _, .scr h, _ => .scr (sqL_hide (hide_mono (.refl _) fun b z => .inl (m b z)) h)
  | _, _, _, .own h t, k => .lst (by rw [hide_out (k _ (List.mem_cons_self ..))]; exact h) rfl (repL_fz m t fun b hb => k b (List.mem_cons_of_mem _ hb))
  | _, _, _, .tup h t, k => .tup (hide_mono (.refl _) (fun b z => .inl (m b z)) _ _ h) (repL_fz m t k)
  | _, _, _, .dKf h l _ t, k => .dKf (hide_mono (.refl _) (fun b z => .inl (m b z)) _ _ h) l rfl (repL_fz m t k)
  | _, _, _, .dKo h l t, k => .dKf (by rw [hide_out (k _ (List.mem_cons_self ..))]; exact h) l rfl (repL_fz m t fun b hb => k b (List.mem_cons_of_mem _ hb))
  | _, _, _, .tK h l _ t, k => .tK (rd_mono (hide_mono (.refl _) fun b z => .inl (m b z)) h) l rfl (repL_fz m t k)
  | _, _, _, .dTf h l _ t, k => .dTf (rd_mono (hide_mono (.refl _) fun b z => .inl (m b z)) h) l rfl (repL_fz m t k)
  | _, _, _, .dTo h l t, k => .dTf (.inl (by rw [hide_out (k _ (List.mem_cons_self ..))]; exact h)) l rfl (repL_fz m t fun b hb => k b (List.mem_cons_of_mem _ hb))
  | _, _, _, .insF h l _ t, k => .insF (hide_mono (.refl _) (fun b z => .inl (m b z)) _ _ h) l rfl (repL_fz m t k)
  | _, _, _, .insO h l t, k => .insF (by rw [hide_out (k _ (List.mem_cons_self ..))]; exact h) l rfl (repL_fz m t fun b hb => k b (List.mem_cons_of_mem _ hb))
theorem repL_fz (m : ∀ b, M' b → M b) : ∀ {vs : List V} {ds : List D} {F : List Addr}, RepL K C M H vs ds F → (∀ b ∈ F, ¬ M' b) → RepL K C M' H vs (D.fzL ds) []
  | _, _, _, .nil, _ => .nil
  | _, _, _, .cons h t, k => .cons (F := []) (G := []) (rep_fz m h fun b hb => k b (List.mem_append_left _ hb)) (repL_fz m t fun b hb => k b (List.mem_append_right _ hb))
end
mutual
theorem fz_noOwn : ∀ {v : V} {d : D} {F : List Addr}, Rep K C M H v d F → d.noOwn = true → F = [] ∧ d.fz = d
  | _, _, _, .non, _ => ⟨rfl, rfl⟩
  | _, _, _, .bl _, _ => ⟨rfl, rfl⟩
  | _, _, _, .int _, _ => ⟨rfl, rfl⟩
  | _, _, _, .str _, _ => ⟨rfl, rfl⟩
  | _, _, _, .hole _, _ => ⟨rfl, rfl⟩
  | _, _, _, .exc, _ => ⟨rfl, rfl⟩
  | _, _, _, .lst _ _ t, h => by
    simp only [D.noOwn, Bool.not_false, Bool.true_and] at h
    obtain ⟨e1, e2⟩ := fz_noOwnL t h
    exact ⟨e1, by rw [D.fz, e2]⟩
  | _, _, _, .own _ _, h => by simp [D.noOwn] at h
  | _, _, _, .scr _, _ => ⟨rfl, rfl⟩
  | _, _, _, .tup _ t, h => by
    simp only [D.noOwn] at h
    obtain ⟨e1, e2⟩ := fz_noOwnL t h
    exact ⟨e1, by rw [D.fz, e2]⟩
  | _, _, _, .dKf _ _ _ t, h => by
    simp only [D.noOwn, Bool.not_false, Bool.true_and] at h
    obtain ⟨e1, e2⟩ := fz_noOwnL t h
    exact ⟨e1, by rw [D.fz, e2]⟩
  | _, _, _, .dKo _ _ _, h => by simp [D.noOwn] at h
  | _, _, _, .tK _ _ _ t, h => by
    simp only [D.noOwn] at h
    obtain ⟨e1, e2⟩ := fz_noOwnL t h
    exact ⟨e1, by rw [D.fz, e2]⟩
  | _, _, _, .dTf _ _ _ t, h => by
    simp only [D.noOwn, Bool.not_false, Bool.true_and] at h
    obtain ⟨e1, e2⟩ := fz_noOwnL t h
    exact ⟨e1, by rw [D.fz, e2]⟩
  | _, _, _, .dTo _ _ _, h => by simp [D.noOwn] at h
  | _, _, _, .insF _ _ _ t, h => by
    simp only [D.noOwn, Bool.not_false, Bool.true_and] at h
    obtain ⟨e1, e2⟩ := fz_noOwnL t h
    exact ⟨e1, by rw [D.fz, e2]⟩
  | _, _, _, .insO _ _ _, h => by simp [D.noOwn] at h
theorem fz_noOwnL : ∀ {vs : List V} {ds : List D} {F : List Addr}, RepL K C M H vs ds F → D.noOwnL ds = true → F = [] ∧ D.fzL ds = ds
  | _, _, _, .nil, _ => ⟨rfl, rfl⟩
  | _, _, _, .cons h t, q => by
    simp only [D.noOwnL, Bool.and_eq_true] at q
    obtain ⟨e1, e2⟩ := fz_noOwn h q.1
    obtain ⟨e3, e4⟩ := fz_noOwnL t q.2
    exact ⟨by rw [e1, e3]; rfl, by rw [D.fzL, e2, e4]⟩
end
end
/-- owned beside M0 -/
def orF (M0 : Addr → Prop) (F : List Addr) : Addr → Prop := fun b => M0 b ∨ b ∈ F
theorem orF_app {M0 : Addr → Prop} {F G : List Addr} : orF (orF M0 F) G = orF M0 (F ++ G) := by
  funext b; simp [orF, or_assoc]
/-- an exception that a suite holds: its object a, its class c, its own dict dd with the fields ds -/
structure ZT where
  a : Addr
  c : Nat
  dd : Addr
  ns : List Str
  vs : List V
  ds : List D
/-- where the classes stand; the exception that is held -/
structure CT where
  cl : Nat → Addr
  z : Option ZT := none
instance : CoeFun CT (fun _ => Nat → Addr) := ⟨CT.cl⟩
instance : Coe CT (Nat → Addr) := ⟨CT.cl⟩
def Zd (K : PySem.W.Frag) (C : CT) (M : Addr → Prop) (H : Hp) : Prop := ∀ z, C.z = some z → hide M H z.dd = some (.xd (z.ns.zip z.vs)) ∧ z.ns.length = z.vs.length ∧ RepL K C M H z.vs z.ds []
theorem Zd.mono {K : PySem.W.Frag} {C : CT} {M M' : Addr → Prop} {H H' : Hp} (z : Zd K C M H) (s : Same (hide M H) (hide M' H')) : Zd K C M' H' := fun y hy => by
  obtain ⟨h1, h2, h3⟩ := z y hy
  exact ⟨s _ _ h1, h2, repL_mono s h3 fun _ hb => absurd hb List.not_mem_nil⟩
/-- the slots σ hold the environment env in the heap H, F is what they own, M0 what is owned elsewhere -/
structure Rel (K : PySem.W.Frag) (C : CT) (M0 : Addr → Prop) (H : Hp) (σ : List (Option V)) (env : Env) (F : List Addr) : Prop where
  rep : RepO K C (orF M0 F) H σ env F
  nd : F.Nodup
  dj : ∀ b ∈ F, ¬ M0 b
  al : ∀ b, M0 b → Liv H b
  zd : Zd K C (orF M0 F) H
/-- what an evaluation may do: it writes what is owned, and makes new things -/
structure Stp (F : List Addr) (H : Hp) (F' : List Addr) (H' : Hp) : Prop where
  keep : ∀ b o, b ∉ F → H b = some o → H' b = some o
  new : ∀ b ∈ F', b ∈ F ∨ H b = none
section
variable {K : PySem.W.Frag} {C : CT} {M0 : Addr → Prop} {H H' H2 : Hp} {σ σ' : List (Option V)} {env env' : Env} {F F' F1 F2 G : List Addr} {v : V} {d : D} {p : Addr} {o : HO}
theorem Stp.refl : Stp F H F H := ⟨fun _ _ _ e => e, fun _ h => .inl h⟩
theorem Stp.sub (h : ∀ b ∈ F', b ∈ F) : Stp F H F' H := ⟨fun _ _ _ e => e, fun b hb => .inl (h b hb)⟩
theorem Stp.trans (x : Stp F H F1 H') (y : Stp F1 H' F2 H2) : Stp F H F2 H2 where
  keep := fun b o n e => by
    refine y.keep b o (fun z => ?_) (x.keep b o n e)
    rcases x.new b z with q | q
    · exact n q
    · rw [e] at q; cases q
  new := fun b hb => by
    rcases y.new b hb with z | z
    · exact x.new b z
    · by_cases n : b ∈ F
      · exact .inl n
      · cases q : H b with
        | none => exact .inr rfl
        | some o => rw [x.keep b o n q] at z; cases z
theorem Stp.same (s : Same H H') (h : ∀ b ∈ F', b ∈ F ∨ H b = none) : Stp F H F' H' := ⟨fun b o _ e => s b o e, h⟩
/-- what an evaluation leaves of data and of what others own -/
theorem Stp.hide (x : Stp F2 H F' H') (dj : ∀ b ∈ F2, ¬ M0 b) : Same (hide (orF M0 F2) H) (J.hide (orF M0 F') H') := fun b o h => by
  obtain ⟨h1, h2⟩ := hide_some h
  have n2 : b ∉ F2 := fun z => h2 (.inr z)
  rw [hide_out fun z => ?_]
  · exact x.keep b o n2 h1
  · rcases z with z | z
    · exact h2 (.inl z)
    · rcases x.new b z with q | q
      · exact n2 q
      · rw [h1] at q; cases q
/-- a value on top of the slots is put aside -/
theorem Rel.pop (r : Rel K C M0 H (some v :: σ) (some d :: env) F) : ∃ F1 F2, F = F1 ++ F2 ∧ Rep K C (orF M0 F) H v d F1 ∧ Rel K C (orF M0 F1) H σ env F2 := by
  obtain ⟨rep, nd, dj, al, zd⟩ := r
  cases rep with
  | have_ h t =>
    rename_i F1 F2
    rw [List.nodup_append] at nd
    refine ⟨F1, F2, rfl, h, ⟨by rw [orF_app]; exact t, nd.2.1, fun b hb z => ?_, fun b z => ?_, by rw [orF_app]; exact zd⟩⟩
    · rcases z with z | z
      · exact dj b (List.mem_append_right _ hb) z
      · exact nd.2.2 b z b hb rfl
    · rcases z with z | z
      · exact al b z
      · exact rep_alive h b z
theorem Rel.push (h : Rep K C (orF M0 (F1 ++ F2)) H v d F1) (r : Rel K C (orF M0 F1) H σ env F2) (nd : F1.Nodup) (dj : ∀ b ∈ F1, ¬ M0 b) : Rel K C M0 H (some v :: σ) (some d :: env) (F1 ++ F2) := by
  have rr := r.rep
  rw [orF_app] at rr
  refine ⟨.have_ h rr, List.nodup_append.mpr ⟨nd, r.nd, fun a ha b hb e => r.dj b hb (.inr (e ▸ ha))⟩, fun b hb z => ?_, fun b z => r.al b (.inl z), by have := r.zd; rw [orF_app] at this; exact this⟩
  rcases List.mem_append.mp hb with q | q
  · exact dj b q z
  · exact r.dj b q (.inl z)
/-- behind an evaluation of what is left -/
theorem Rel.back (r : Rel K C M0 H (some v :: σ) (some d :: env) F) (F1 F2 : List Addr) (eF : F = F1 ++ F2) (h : Rep K C (orF M0 F) H v d F1) (r2 : Rel K C (orF M0 F1) H' σ' env' F') (s : Stp F2 H F' H') :
    Rel K C M0 H' (some v :: σ') (some d :: env') (F1 ++ F') ∧ Stp F H (F1 ++ F') H' := by
  subst eF
  have nd := r.nd
  rw [List.nodup_append] at nd
  have k1 : ∀ b ∈ F1, ∀ o, H b = some o → H' b = some o := fun b hb o e => s.keep b o (fun z => nd.2.2 b hb b z rfl) e
  refine ⟨Rel.push (rep_mono ?_ h k1) r2 nd.1 fun b hb => r.dj b (List.mem_append_left _ hb), ⟨fun b o n e => s.keep b o (fun z => n (List.mem_append_right _ z)) e, fun b hb => ?_⟩⟩
  · rw [← orF_app, ← orF_app]
    refine Stp.hide s fun b hb z => ?_
    rcases z with z | z
    · exact r.dj b (List.mem_append_right _ hb) z
    · exact nd.2.2 b z b hb rfl
  · rcases List.mem_append.mp hb with q | q
    · exact .inl (List.mem_append_left _ q)
    · exact (s.new b q).imp (List.mem_append_right _) id
/-- M0 alone, F less -/
theorem Rel.mono_ (rep : RepO K C (orF M0 F) H σ env F') (nd : F.Nodup) (sub : F'.Sublist F) (dj : ∀ b ∈ F, ¬ M0 b) (al : ∀ b, M0 b → Liv H b) (zd : Zd K C (orF M0 F) H) : Rel K C M0 H σ env F' := by
  have hm : Same (hide (orF M0 F) H) (hide (orF M0 F') H) := hide_mono (.refl _) fun b z => .inl (z.imp id fun q => sub.subset q)
  refine ⟨repO_mono hm rep fun _ _ _ e => e, nd.sublist sub, fun b hb => dj b (sub.subset hb), al, zd.mono hm⟩
/-- a value on top is thrown away -/
theorem Rel.drop {x : Option V} {y : Option D} (r : Rel K C M0 H (x :: σ) (y :: env) F) : ∃ F', Rel K C M0 H σ env F' ∧ F'.Sublist F := by
  obtain ⟨rep, nd, dj, al, zd⟩ := r
  cases rep with
  | gone t => exact ⟨F, ⟨t, nd, dj, al, zd⟩, .refl _⟩
  | have_ h t =>
    rename_i F1 F2
    exact ⟨F2, .mono_ t nd (List.sublist_append_right ..) dj al zd, List.sublist_append_right ..⟩
theorem Stp.subl (h : F'.Sublist F) : Stp F H F' H := .sub fun _ z => h.subset z
/-- data on top -/
theorem Rel.data (r : Rel K C M0 H σ env F) (h : Rep K C (orF M0 F) H v d []) : Rel K C M0 H (some v :: σ) (some d :: env) F := ⟨.have_ h r.rep, r.nd, r.dj, r.al, r.zd⟩
/-- the value on top is data from now on -/
theorem Rel.fz (r : Rel K C M0 H (some v :: σ) (some d :: env) F) : ∃ F', Rel K C M0 H (some v :: σ) (some d.fz :: env) F' ∧ F'.Sublist F := by
  obtain ⟨rep, nd, dj, al, zd⟩ := r
  cases rep with
  | have_ h t =>
    rename_i F1 F2
    have nd' := List.nodup_append.mp nd
    refine ⟨F2, Rel.data (.mono_ t nd (List.sublist_append_right ..) dj al zd) (rep_fz (fun b z => z.imp id fun q => List.mem_append_right _ q) h fun b hb z => ?_), List.sublist_append_right ..⟩
    rcases z with z | z
    · exact dj b (List.mem_append_left _ hb) z
    · exact nd'.2.2 b hb b z rfl
/-- a new owned object on top -/
theorem Rel.new {x : D} (r : Rel K C M0 H σ env F) (np : H p = none) (h : ∀ M', (∀ b, M' b → orF M0 F b ∨ b = p) → Rep K C M' (upd H p o) (.ref p) x [p]) : Rel K C M0 (upd H p o) (some (.ref p) :: σ) (some x :: env) (p :: F) ∧ Stp F H (p :: F) (upd H p o) := by
  have nF : p ∉ F := fun z => (repO_alive r.rep p z).ne np
  have nM : ¬ M0 p := fun z => (r.al p z).ne np
  have hm : Same (hide (orF M0 F) H) (hide (orF M0 (p :: F)) (upd H p o)) := hide_mono (new_same np) fun b z => by
    rcases z with z | z
    · exact .inl (.inl z)
    · exact (List.mem_cons.mp z).elim (fun q => .inr (by rw [q]; exact np)) fun q => .inl (.inr q)
  refine ⟨⟨.have_ (F := [p]) (G := F) (h _ fun b z => ?_) (repO_mono hm r.rep fun b _ o e => new_same np b o e), ?_, ?_, fun b z => (r.al b z).same (new_same np), r.zd.mono hm⟩, .same (new_same np) fun b hb => ?_⟩
  · rcases z with z | z
    · exact .inl (.inl z)
    · exact (List.mem_cons.mp z).elim .inr fun q => .inl (.inr q)
  · exact List.nodup_cons.mpr ⟨nF, r.nd⟩
  · intro b hb
    rcases List.mem_cons.mp hb with q | q
    · rw [q]; exact nM
    · exact r.dj b q
  · rcases List.mem_cons.mp hb with q | q
    · exact .inr (by rw [q]; exact np)
    · exact .inl q
/-- the heap grows -/
theorem Rel.grow (r : Rel K C M0 H σ env F) (s : Same H H') : Rel K C M0 H' σ env F := by
  refine ⟨repO_mono (hide_mono s fun b z => .inl z) r.rep fun b _ o e => s b o e, r.nd, r.dj, fun b z => (r.al b z).same s, r.zd.mono (hide_mono s fun b z => .inl z)⟩
/-! slots -/
theorem RepO.at (r : RepO K C M0 H σ env F) : ∀ {i : Nat} {d : D}, env[i]? = some (some d) → ∃ v G F1 F2, σ[i]? = some (some v) ∧ Rep K C M0 H v d G ∧ F = F1 ++ (G ++ F2) ∧ (∀ x, RepO K C M0 H (σ.set i x) (env.set i none) (F1 ++ F2)) := by
  induction r with
  | nil => intro i d h; simp at h
  | gone t ih =>
    rename_i x σ' e' G'
    intro i d h
    cases i with
    | zero => simp at h
    | succ i =>
      obtain ⟨v, G, F1, F2, h1, h2, h3, h4⟩ := ih (i := i) (by simpa using h)
      exact ⟨v, G, F1, F2, by simpa using h1, h2, h3, fun x => .gone (h4 x)⟩
  | have_ h t ih =>
    rename_i v' d' σ' e' F' G'
    intro i d hh
    cases i with
    | zero =>
      have e : d' = d := by simpa using hh
      subst e
      exact ⟨v', F', [], G', by simp, h, rfl, fun x => .gone t⟩
    | succ i =>
      obtain ⟨v, G, F1, F2, h1, h2, h3, h4⟩ := ih (i := i) (by simpa using hh)
      exact ⟨v, G, F' ++ F1, F2, by simpa using h1, h2, by rw [h3]; simp, fun x => by rw [List.append_assoc]; exact .have_ h (h4 x)⟩
/-- any slot may be forgotten -/
theorem RepO.forget (r : RepO K C M0 H σ env F) (i : Nat) (x : Option V) : ∃ F', RepO K C M0 H (σ.set i x) (env.set i none) F' ∧ F'.Sublist F := by
  by_cases h : i < env.length
  · cases e : env[i]? with
    | none => rw [List.getElem?_eq_none_iff] at e; omega
    | some y =>
      cases y with
      | none =>
        clear h
        induction r generalizing i with
        | nil => simp at e
        | gone t ih =>
          cases i with
          | zero => exact ⟨_, .gone t, .refl _⟩
          | succ i =>
            obtain ⟨F', h1, h2⟩ := ih i (by simpa using e)
            exact ⟨F', .gone h1, h2⟩
        | have_ h t ih =>
          cases i with
          | zero => simp at e
          | succ i =>
            obtain ⟨F', h1, h2⟩ := ih i (by simpa using e)
            exact ⟨_, .have_ h h1, h2.append_left _⟩
      | some d =>
        obtain ⟨v, G, F1, F2, _, _, eF, h4⟩ := r.at e
        exact ⟨F1 ++ F2, h4 x, by rw [eF]; exact (List.sublist_append_right G F2).append_left F1⟩
  · rw [List.set_eq_of_length_le (by rw [r.length]; omega), List.set_eq_of_length_le (by omega)]
    exact ⟨F, r, .refl _⟩
/-- a forgotten slot is filled -/
theorem RepO.fill {i : Nat} (r : RepO K C M0 H σ env F) (hσ : σ[i]? = some (some v)) (he : env[i]? = some none) (h : Rep K C M0 H v d G) : ∃ F1 F2, F = F1 ++ F2 ∧ RepO K C M0 H σ (env.set i (some d)) (F1 ++ (G ++ F2)) := by
  induction r generalizing i with
  | nil => simp at he
  | gone t ih =>
    rename_i x0 σ' e' G'
    cases i with
    | zero =>
      simp only [List.getElem?_cons_zero, Option.some.injEq] at hσ
      subst hσ
      refine ⟨[], G', rfl, ?_⟩
      have hh := RepO.have_ h t
      exact hh
    | succ i =>
      obtain ⟨F1, F2, e, q⟩ := ih (i := i) (by simpa using hσ) (by simpa using he)
      exact ⟨F1, F2, e, .gone q⟩
  | have_ h' t ih =>
    rename_i v' d' σ' e' F' G'
    cases i with
    | zero => simp at he
    | succ i =>
      obtain ⟨F1, F2, e, q⟩ := ih (i := i) (by simpa using hσ) (by simpa using he)
      exact ⟨F' ++ F1, F2, by rw [e, List.append_assoc], by rw [List.append_assoc]; exact .have_ h' q⟩
theorem nodup_mid {α : Type} {F1 F2 G : List α} (h : (G ++ (F1 ++ F2)).Nodup) : (F1 ++ (G ++ F2)).Nodup := by
  rw [List.nodup_append] at h
  obtain ⟨h1, h2, h3⟩ := h
  rw [List.nodup_append] at h2
  obtain ⟨h4, h5, h6⟩ := h2
  rw [List.nodup_append, List.nodup_append]
  refine ⟨h4, ⟨h1, h5, fun a ha b hb => h3 a ha b (List.mem_append_right _ hb)⟩, fun a ha b hb => ?_⟩
  rcases List.mem_append.mp hb with q | q
  · exact fun e => h3 b q a (List.mem_append_left _ ha) e.symm
  · exact h6 a ha b q
theorem orF_mid {M0 : Addr → Prop} {F1 F2 G : List Addr} : orF M0 (F1 ++ (G ++ F2)) = orF M0 (G ++ (F1 ++ F2)) := by
  funext b; simp only [orF, List.mem_append]; exact propext ⟨fun h => by rcases h with h | h | h | h <;> simp [h], fun h => by rcases h with h | h | h | h <;> simp [h]⟩
/-- the value on top is stored at slot i -/
theorem Rel.store {i : Nat} (r : Rel K C M0 H (some v :: σ) (some d :: env) F) (hi : i < env.length) : ∃ F', Rel K C M0 H (σ.set i (some v)) (env.set i (some d)) F' ∧ ∀ b ∈ F', b ∈ F := by
  obtain ⟨rep, nd, dj, al, zd⟩ := r
  cases rep with
  | have_ h t =>
    rename_i G F2
    have lσ : i < σ.length := by rw [t.length]; exact hi
    obtain ⟨F3, t3, sub⟩ := t.forget i (some v)
    obtain ⟨F4, F5, e, q⟩ := t3.fill (i := i) (by simp [lσ]) (by simp [hi]) h
    rw [List.set_set] at q
    subst e
    have nd2 : (G ++ (F4 ++ F5)).Nodup := nd.sublist (sub.append_left G)
    have mem : ∀ b ∈ F4 ++ (G ++ F5), b ∈ G ++ F2 := fun b hb => by
      have : b ∈ G ++ (F4 ++ F5) := by simp only [List.mem_append] at hb ⊢; rcases hb with h | h | h <;> simp [h]
      exact (sub.append_left G).subset this
    have hm : Same (hide (orF M0 (G ++ F2)) H) (hide (orF M0 (F4 ++ (G ++ F5))) H) := hide_mono (.refl _) fun b z => .inl (z.imp id (mem b))
    refine ⟨F4 ++ (G ++ F5), ⟨repO_mono hm q fun _ _ _ e => e, nodup_mid nd2, fun b hb => dj b (mem b hb), al, zd.mono hm⟩, mem⟩
/-- the value of slot i, taken out of it -/
theorem Rel.take {i : Nat} (r : Rel K C M0 H σ env F) (he : env[i]? = some (some d)) : ∃ v F', σ[i]? = some (some v) ∧ Rel K C M0 H (some v :: σ) (some d :: env.set i none) F' ∧ ∀ b ∈ F', b ∈ F := by
  obtain ⟨rep, nd, dj, al, zd⟩ := r
  obtain ⟨v, G, F1, F2, hσ, h, eF, q⟩ := rep.at he
  have q := q (some v)
  have lσ : i < σ.length := by
    rcases Nat.lt_or_ge i σ.length with l | l
    · exact l
    · rw [List.getElem?_eq_none l] at hσ; cases hσ
  have es : σ.set i (some v) = σ := by
    rw [List.getElem?_eq_getElem lσ] at hσ
    have := Option.some.inj hσ
    conv => lhs; rw [← this]
    exact List.set_getElem_self lσ
  rw [es] at q
  subst eF
  refine ⟨v, G ++ (F1 ++ F2), hσ, ⟨.have_ (by rw [← orF_mid]; exact h) (by rw [← orF_mid]; exact q), ?_, fun b hb => dj b ?_, al, by rw [← orF_mid]; exact zd⟩, fun b hb => ?_⟩
  · have := nodup_mid (F1 := G) (F2 := F2) (G := F1) nd
    exact this
  · simp only [List.mem_append] at hb ⊢; rcases hb with h | h | h <;> simp [h]
  · simp only [List.mem_append] at hb ⊢; rcases hb with h | h | h <;> simp [h]
/-- put back to slot i, where it comes from -/
theorem Rel.put {i : Nat} (r : Rel K C M0 H (some v :: σ) (some d :: env) F) (hσ : σ[i]? = some (some v)) : ∃ F', Rel K C M0 H σ (env.set i (some d)) F' ∧ ∀ b ∈ F', b ∈ F := by
  have lσ : i < σ.length := by
    rcases Nat.lt_or_ge i σ.length with l | l
    · exact l
    · rw [List.getElem?_eq_none l] at hσ; cases hσ
  have le : i < env.length := by
    have := r.rep.length
    simp only [List.length_cons, Nat.succ.injEq] at this
    omega
  obtain ⟨F', h1, h2⟩ := r.store le
  have es : σ.set i (some v) = σ := by
    rw [List.getElem?_eq_getElem lσ] at hσ
    have := Option.some.inj hσ
    conv => lhs; rw [← this]
    exact List.set_getElem_self lσ
  rw [es] at h1
  exact ⟨F', h1, h2⟩
/-- data on top stand twice -/
theorem Rel.dup (r : Rel K C M0 H (some v :: σ) (some d.fz :: env) F) : ∃ F', Rel K C M0 H (some v :: some v :: σ) (some d.fz :: some d.fz :: env) F' ∧ ∀ b ∈ F', b ∈ F := by
  obtain ⟨F', r', sub⟩ := r.fz
  have idem : d.fz.fz = d.fz := fz_fz d
  rw [idem] at r'
  have rr := r'.rep
  cases rr with
  | have_ h t =>
    rename_i F1 F2
    have hn : d.fz.noOwn = true := noOwn_fz d
    obtain ⟨e1, _⟩ := fz_noOwn h hn
    subst e1
    exact ⟨_, Rel.data r' h, fun b hb => sub.subset hb⟩
where
  fz_fz : ∀ d : D, d.fz.fz = d.fz := fz_fz'
  noOwn_fz : ∀ d : D, d.fz.noOwn = true := noOwn_fz'
  fz_fz' : ∀ d : D, d.fz.fz = d.fz
    | .non => rfl | .bl _ => rfl | .int _ => rfl | .str _ => rfl | .scr _ => rfl | .hole => rfl | .exc => rfl
    | .lst _ xs => by simp only [D.fz, fzL_fzL xs]
    | .tup xs => by simp only [D.fz, fzL_fzL xs]
    | .dK _ _ xs => by simp only [D.fz, fzL_fzL xs]
    | .tK _ xs => by simp only [D.fz, fzL_fzL xs]
    | .dT _ _ xs => by simp only [D.fz, fzL_fzL xs]
    | .ins _ _ _ xs => by simp only [D.fz, fzL_fzL xs]
  fzL_fzL : ∀ ds : List D, D.fzL (D.fzL ds) = D.fzL ds
    | [] => rfl
    | d :: ds => by simp only [D.fzL, fz_fz' d, fzL_fzL ds]
  noOwn_fz' : ∀ d : D, d.fz.noOwn = true
    | .non => rfl | .bl _ => rfl | .int _ => rfl | .str _ => rfl | .scr _ => rfl | .hole => rfl | .exc => rfl
    | .lst _ xs => by simp only [D.fz, D.noOwn, noOwnL_fzL xs]; rfl
    | .tup xs => by simp only [D.fz, D.noOwn, noOwnL_fzL xs]
    | .dK _ _ xs => by simp only [D.fz, D.noOwn, noOwnL_fzL xs]; rfl
    | .tK _ xs => by simp only [D.fz, D.noOwn, noOwnL_fzL xs]
    | .dT _ _ xs => by simp only [D.fz, D.noOwn, noOwnL_fzL xs]; rfl
    | .ins _ _ _ xs => by simp only [D.fz, D.noOwn, noOwnL_fzL xs]; rfl
  noOwnL_fzL : ∀ ds : List D, D.noOwnL (D.fzL ds) = true
    | [] => rfl
    | d :: ds => by simp only [D.fzL, D.noOwnL, noOwn_fz' d, noOwnL_fzL ds]; rfl
end
end J
/-! What a piece of syntax does to pure values: readings of expressions, arguments, tests, statements by pure functions; defs called. -/
namespace J
open PySem L2 PySem.Spec PyProof.Rows
abbrev Wish := L2.St → XK
section
variable (K : PySem.W.Frag) (C : CT) (W : Wish)
/-- an exception of class c with the fields ds is wished for -/
def ExOk (M0 : Addr → Prop) (σ : L2.St) (F : List Addr) (H : Hp) (c : Nat) (ns : List Str) (ds : List D) (e : Env) : Prop :=
  ∀ od vs H' F', Rel K C M0 H' σ e F' → Stp F H F' H' → hide (orF M0 F') H' od = some (.xd (ns.zip vs)) → ns.length = vs.length → RepL K C (orF M0 F') H' vs ds [] → W σ (.ref (C c)) (some od) H'
/-- what is wanted of an expression's end -/
def okT (M0 : Addr → Prop) (σ : L2.St) (F : List Addr) (H : Hp) (Q : VK) : R D → Prop
  | .ok d e => ∀ v H' F', Rel K C M0 H' (some v :: σ) (some d :: e) F' → Stp F H F' H' → Q v H'
  | .ex c ns ds e => ExOk K C W M0 σ F H c ns ds e
  | .no => False
def okB (M0 : Addr → Prop) (σ : L2.St) (F : List Addr) (H : Hp) (Q : Bool → Hp → Prop) : R Bool → Prop
  | .ok b e => ∀ H' F', Rel K C M0 H' σ e F' → Stp F H F' H' → Q b H'
  | .ex c ns ds e => ExOk K C W M0 σ F H c ns ds e
  | .no => False
def okA (M0 : Addr → Prop) (σ : L2.St) (F : List Addr) (H : Hp) (lk : List (Nat × Nat)) (Q : List V → Hp → Prop) : R (List D) → Prop
  | .ok ds e => ∀ vs H' F', Rel K C M0 H' (vs.map some ++ σ) (ds.map some ++ e) F' → Stp F H F' H' → vs.length = ds.length → (∀ q ∈ lk, ∃ v, vs[q.1]? = some v ∧ σ[q.2]? = some (some v)) → Q vs H'
  | .ex c ns ds e => ExOk K C W M0 σ F H c ns ds e
  | .no => False
def tOf (f : Env → R D) : TE := fun σ H Q => ∃ M0 env F, Rel K C M0 H σ env F ∧ okT K C W M0 σ F H Q (f env)
/-- a test's -/
def ttOf (f : Env → R Bool) : TT := fun σ H Q => ∃ M0 env F, Rel K C M0 H σ env F ∧ okB K C W M0 σ F H Q (f env)
/-- arguments; lk: which of them are slots, lent out -/
def aOf (f : Env → R (List D)) (lk : List (Nat × Nat)) : TA := fun σ H Q => ∃ M0 env F, Rel K C M0 H σ env F ∧ okA K C W M0 σ F H lk Q (f env)
/-- read alone: nothing is written, nothing moves -/
def bOf (f : Env → Option D) : TE := fun σ H Q => ∃ M0 env F, Rel K C M0 H σ env F ∧ ∃ d, f env = some d ∧ ∀ v H', Same H H' → Rel K C M0 H' σ env F → (∃ G, (∀ b ∈ G, b ∈ F) ∧ Rep K C (orF M0 F) H' v d G) → Q v H'
/-- the slots that no store changes -/
def Kp (kp : List Nat) (σ σ' : L2.St) : Prop := ∀ i ∈ kp, σ'[i]? = σ[i]?
variable (kp : List Nat)
def okS (M0 : Addr → Prop) (σ : L2.St) (F : List Addr) (H : Hp) (E : Ends) : Out → Prop
  | .nx e => ∀ σ' H' F', Rel K C M0 H' σ' e F' → Stp F H F' H' → Kp kp σ σ' → E.nx σ' H'
  | .rt r e => ∀ v σ' H' F', Rel K C M0 H' (some v :: σ') (some r :: e) F' → Stp F H F' H' → Kp kp σ σ' → E.rt v H'
  | .bk e => ∀ σ' H' F', Rel K C M0 H' σ' e F' → Stp F H F' H' → Kp kp σ σ' → E.bk σ' H'
  | .ct e => ∀ σ' H' F', Rel K C M0 H' σ' e F' → Stp F H F' H' → Kp kp σ σ' → E.ct σ' H'
  | .ex c ns ds e => ∀ od vs σ' H' F', Rel K C M0 H' σ' e F' → Stp F H F' H' → Kp kp σ σ' → hide (orF M0 F') H' od = some (.xd (ns.zip vs)) → ns.length = vs.length → RepL K C (orF M0 F') H' vs ds [] → W σ' (.ref (C c)) (some od) H'
  | .no => False
def tS (g : Env → Out) : TS := fun E σ H => ∃ M0 env F, Rel K C M0 H σ env F ∧ okS K C W kp M0 σ F H E (g env)
/-- a target: the value on top is stored -/
def gOf (g : D → Env → Option Env) : TG := fun v σ H Q => ∃ M0 d env F e, Rel K C M0 H (some v :: σ) (some d :: env) F ∧ g d env = some e ∧ ∀ σ' H' F', Rel K C M0 H' σ' e F' → Stp F H F' H' → Kp kp σ σ' → Q σ' H'
/-- a def's promise -/
def spP (n : Nat) (run : List D → R D) : Sp := fun vs H Q E => vs.length = n ∧ ∃ M0 ds F, Rel K C M0 H (vs.map some) (ds.map some) F ∧ match run ds with
  | .ok r outs => ∀ v H' F', Rel K C M0 H' (some v :: vs.map some) (some r :: outs) F' → Stp F H F' H' → Q v H'
  | .ex c ns xs outs => ∀ od us H' F', Rel K C M0 H' (vs.map some) outs F' → Stp F H F' H' → hide (orF M0 F') H' od = some (.xd (ns.zip us)) → ns.length = us.length → RepL K C (orF M0 F') H' us xs [] → E (.ref (C c)) (some od) H'
  | .no => False
end
/-! pure words -/
def R.bind {α β : Type} (r : R α) (k : α → Env → R β) : R β := match r with
  | .ok a e => k a e
  | .ex c ns vs e => .ex c ns vs e
  | .no => .no
/-- lent slots come back -/
def relink : List (Nat × Nat) → Env → Env → Env
  | [], _, e => e
  | (k, i) :: lk, outs, e => match outs[k]? with
    | some (some d) => relink lk (outs.set k none) (e.set i (some d))
    | _ => relink lk outs e
def callF (run : List D → R D) (lk : List (Nat × Nat)) (af : Env → R (List D)) : Env → R D := fun env => (af env).bind fun ds e => match run ds with
  | .ok r outs => .ok r (relink lk outs e)
  | .ex c ns xs outs => .ex c ns xs (relink lk outs e)
  | .no => .no
def args0 : Env → R (List D) := fun e => .ok [] e
def argV (f : Env → R D) (g : Env → R (List D)) : Env → R (List D) := fun env => (f env).bind fun d e => (g e).bind fun ds e2 => .ok (d :: ds) e2
def argR (i : Nat) (g : Env → R (List D)) : Env → R (List D) := fun env => match env[i]? with
  | some (some d) => (g (env.set i none)).bind fun ds e2 => .ok (d :: ds) e2
  | _ => .no
def lkV (lk : List (Nat × Nat)) : List (Nat × Nat) := lk.map fun q => (q.1 + 1, q.2)
def seqO (f g : Env → Out) : Env → Out := fun env => match f env with
  | .nx e => g e
  | o => o
def nilO : Env → Out := fun env => .nx env
def retO (f : Env → R D) : Env → Out := fun env => match f env with
  | .ok d e => .rt d e
  | .ex c ns vs e => .ex c ns vs e
  | .no => .no
def dropO (f : Env → R D) : Env → Out := fun env => match f env with
  | .ok _ e => .nx e
  | .ex c ns vs e => .ex c ns vs e
  | .no => .no
def ifO (c : Env → R Bool) (f g : Env → Out) : Env → Out := fun env => match c env with
  | .ok true e => f e
  | .ok false e => g e
  | .ex c ns vs e => .ex c ns vs e
  | .no => .no
def asgO (f : Env → R D) (g : D → Env → Option Env) : Env → Out := fun env => match f env with
  | .ok d e => match g d e with
    | some e' => .nx e'
    | none => .no
  | .ex c ns vs e => .ex c ns vs e
  | .no => .no
def outsOf (n : Nat) (kp : List Nat) (e : Env) : Env := (List.range n).map fun i => if i ∈ kp then (e[i]?).join else none
/-- a def: n parameters, kp of them no store changes, l other slots -/
def defF (n : Nat) (kp : List Nat) (l : Nat) (body : Env → Out) : List D → R D := fun ds => match body (ds.map some ++ List.replicate l none) with
  | .nx e => .ok .non (outsOf n kp e)
  | .rt r e => .ok r (outsOf n kp e)
  | .ex c ns vs e => .ex c ns vs (outsOf n kp e)
  | _ => .no
/-! defs that know that no repr is under way, and may raise -/
structure FnU (P : Program) (w : World) (K : PySem.W.Frag) (mg : Str → Option Value) (base : Heap) (k : Nat) (f : Addr) (fd : FuncData) (ps : List Str) (sp : Sp) : Prop where
  len : ∀ vs H Q E, sp vs H Q E → vs.length = ps.length
  run : ∀ (A : Around), A.guards = some [] → ∀ (outer : List PySem.Env) (s : Shared) (H : Hp) (args : Args) (us : List Value) (vs : List V) (Q : VK) (E : XK), Room k A → Env0 P w K mg base A outer s H → BindsTo s fd args (ps.zip us) → Vals vs us → sp vs H Q E → codeAny (model P w) A (.call (.ref f) args) (CR (L2.CX P w) outer P w H s Q E) s
section
variable {P : Program} {w : World} {K : PySem.W.Frag} {mg : Str → Option Value} {base : Heap}
/-- such a def by its body -/
theorem okU {x qual : Str} {q0 : Arguments} {body : List Stmt} {sc : Scope} {oc kV doc pm cdv ct dV : Value} {od an : Option Addr} {osl : Array (Option Value)} {f : Addr} {N ps : List Str} {k : Nat} {sp : Sp}
    (lk : K.lookup f = some ⟨oc, od, .func (PySem.W.fnOf x qual q0 body sc dV kV doc pm an cdv ct), osl⟩) (hcd : PySem.W.codeIn K cdv qual = true) (S : FnScope N ps sc) (len : ∀ vs H Q E, sp vs H Q E → vs.length = ps.length)
    (hbody : ∀ (A : Around) (outer : List PySem.Env) (s : Shared) (H : Hp) (vs : List V) (Q : VK) (E : XK), A.guards = some [] → Room k (A.deeper (envOfC qual sc s.heap.objs.size f cdv)) → sp vs H Q E →
      ∃ t, PSs (cxOf (L2.CX P w) P w K mg base N qual sc f cdv A outer s H E) body t ∧ t { nx := fun _ H' => Q .non H', rt := Q } (L2.start N vs) H) : FnU P w K mg base (k + 1) f (PySem.W.fnOf x qual q0 body sc dV kV doc pm an cdv ct) ps sp := by
  refine ⟨len, fun A hg outer s H args us vs Q E hr e0 hb r hsp => ?_⟩
  obtain ⟨t, ht, hq⟩ := hbody A outer s H vs Q E hg (hr.deeper _) hsp
  have keep : ∀ b o, base.get? b = some o → s.heap.get? b = some o := fun b o e => (e0.bs b o e).1
  have KX : K.In s.heap := e0.mod.kin.keeps keep
  refine codeAny_call_function hr.depth (KX _ _ lk) rfl S.co S.gen rfl (PySem.W.codeRec_of KX hcd) (hb _ _ _ _ ?_)
  refine wpAny_newFunctionEnv_cells S.kind (fun y hy => (S.par y.1 (List.of_mem_zip (show (y.1, y.2) ∈ ps.zip us from hy)).1).imp id fun q => ⟨q, PySem.W.cellsFrom_some _ _ _ (.inl q)⟩) fun env he s1 x => ?_
  subst he
  refine ⟨(e0.mod.nolimit.keeps keep).keeps x.toInCall.keep, codeAny_func ?_⟩
  have I := inv_start (E := E) (CX := L2.CX P w) S hr.hd e0 (len _ _ _ _ hsp) r x
  refine wpAny_mono (ht.run [] s1 (L2.start N vs) H _ I hq) (fun fl s' z => ?_) fun _ _ z => z
  match fl, z with
  | .ret u, ⟨v, σ', H', J, rv, q⟩ => exact ⟨v, H', J.os, J.bare, J.base, J.hok, rv, q⟩
  | .next, ⟨σ', H', J, q⟩ => exact ⟨V.non, H', J.os, J.bare, J.base, J.hok, rfl, q⟩
  | .brk, ⟨_, _, _, q⟩ => exact q.elim
  | .cont, ⟨_, _, _, q⟩ => exact q.elim
end
section
variable {X : Cx} {k : Nat} {f C : Addr} {fd : FuncData} {ps : List Str} {sp : Sp} {dvs : List V} {ds : List Value} {W : WX} {x m : Str} {p pos apos : Pos} {e o : Expr} {es : List Expr} {t : TA} {ta : TE}
theorem run_fnU {pins : List (Addr × Obj)} {σ : L2.St} {H : Hp} {s : Shared} {Q : VK} {us : List Value} {vs : List V} (F : FnU X.prog X.w X.K X.mg X.base k f fd ps sp) (hG : X.A.guards = some []) (hr : Room k X.A) (hb : Binds X.K fd ps ds) (hd : Vals dvs ds) (tk : Takes X W)
    (I : Inv X pins σ H s) (r : Vals vs us) (h : sp (vs ++ dvs) H Q (WE W σ)) : wpAny (model X.prog X.w) X.A (call (.ref f) us) (EP X pins σ Q) X.xe s := by
  have r2 : Vals (vs ++ dvs) (us ++ ds) := r.append hd
  have hl : (us ++ ds).length = ps.length := by rw [← r2.length]; exact F.len _ _ _ _ h
  refine wpAny_call (codeAny_mono (F.run X.A hG X.stack s H ⟨us, []⟩ (us ++ ds) (vs ++ dvs) Q (WE W σ) hr I.env0 (hb s us I.kIn hl) r2 h) fun r s' hq => ?_)
  cases r with
  | error e => exact passAt tk σ pins H s e s' I hq
  | ok fl =>
    cases fl with
    | ret u => exact I.after hq
    | next => exact False.elim hq
    | brk => exact False.elim hq
    | cont => exact False.elim hq
theorem pe_callU (F : FnU X.prog X.w X.K X.mg X.base k f fd ps sp) (hG : X.A.guards = some []) (hr : Room k X.A) (hg : Gl X x) (hm : X.mg x = some (.ref f)) (hk : PySem.W.keepIn X.K (.ref f) = true) (hb : Binds X.K fd ps ds) (hd : Vals dvs ds) (tk : Takes X W)
    (ha : PA X (e :: es) t) (hdb : (x == ("__debug__" : Str)) = false := by decide) (he : starEach (e :: es) X.env = (false, eval e X.env) :: starEach es X.env := by rfl) (hpl : (backTo pos (starEach es X.env)).any (·.1) = false := by rfl) :
    PE X (.Call (.Name x p) (e :: es) [] pos) (tCallSD sp dvs (WE W) t) := by
  refine ⟨fun pins s σ H Q I h => ?_⟩
  refine wpAny_Call_Name_kw (ld_glob I hg hm ?_ hdb)
  refine PySem.W.callWith_K (h₀ := X.base) I.ok.mod.kin hk (thn (ha.run pos pins s σ H _ I h) fun us s1 ⟨vs, H1, I1, r, q⟩ => ⟨I1.kIn, ?_⟩) he hpl
  exact run_fnU F hG hr hb hd tk I1 r q
end
/-! the frame around a call -/
section
variable {K : PySem.W.Frag} {C : CT} {M0 : Addr → Prop} {H H' H2 : Hp} {σ σ' : List (Option V)} {env env' : Env} {F F' F1 F2 G : List Addr} {v : V} {d : D}
theorem RepO.split {M : Addr → Prop} : ∀ {σ1 σ2 : List (Option V)} {e1 e2 : Env} {F : List Addr}, σ1.length = e1.length → RepO K C M H (σ1 ++ σ2) (e1 ++ e2) F → ∃ F1 F2, F = F1 ++ F2 ∧ RepO K C M H σ1 e1 F1 ∧ RepO K C M H σ2 e2 F2
  | [], _, [], _, _, _, h => ⟨[], _, rfl, .nil, h⟩
  | _ :: _, _, _ :: _, _, _, l, .gone t => by
    obtain ⟨F1, F2, e, a, b⟩ := RepO.split (by simpa using l) t
    exact ⟨F1, F2, e, .gone a, b⟩
  | _ :: _, _, _ :: _, _, _, l, .have_ (F := F0) h t => by
    obtain ⟨F1, F2, e, a, b⟩ := RepO.split (by simpa using l) t
    exact ⟨F0 ++ F1, F2, by rw [e, List.append_assoc], .have_ h a, b⟩
theorem RepO.app {M : Addr → Prop} : ∀ {σ1 σ2 : List (Option V)} {e1 e2 : Env} {F1 F2 : List Addr}, RepO K C M H σ1 e1 F1 → RepO K C M H σ2 e2 F2 → RepO K C M H (σ1 ++ σ2) (e1 ++ e2) (F1 ++ F2)
  | _, _, _, _, _, _, .nil, h => h
  | _, _, _, _, _, _, .gone t, h => .gone (t.app h)
  | _, _, _, _, _, _, .have_ a t, h => by rw [List.append_assoc]; exact .have_ a (t.app h)
theorem orF_swap {F G : List Addr} : orF (orF M0 F) G = orF (orF M0 G) F := by
  funext b; simp only [orF]; exact propext ⟨fun h => by rcases h with (h | h) | h <;> simp [h], fun h => by rcases h with (h | h) | h <;> simp [h]⟩
/-- the upper slots alone, what the lower ones own put aside -/
theorem Rel.upper {σ1 σ2 : List (Option V)} {e1 e2 : Env} (r : Rel K C M0 H (σ1 ++ σ2) (e1 ++ e2) F) (l : σ1.length = e1.length) : ∃ F1 F2, F = F1 ++ F2 ∧ RepO K C (orF M0 F) H σ2 e2 F2 ∧ Rel K C (orF M0 F2) H σ1 e1 F1 := by
  obtain ⟨rep, nd, dj, al, zd⟩ := r
  obtain ⟨F1, F2, rfl, a, b⟩ := RepO.split l rep
  have nd' := List.nodup_append.mp nd
  refine ⟨F1, F2, rfl, b, ⟨by rw [orF_swap, orF_app]; exact a, nd'.1, fun b hb z => ?_, fun b' z => ?_, by rw [orF_swap, orF_app]; exact zd⟩⟩
  · rcases z with z | z
    · exact dj b (List.mem_append_left _ hb) z
    · exact nd'.2.2 b hb b z rfl
  · rcases z with z | z
    · exact al b' z
    · exact repO_alive b b' z
/-- the upper slots have changed -/
theorem Rel.over {σ1 σ2 : List (Option V)} {e1 e2 : Env} (r : Rel K C M0 H σ env (F1 ++ F2)) (h2 : RepO K C (orF M0 (F1 ++ F2)) H σ2 e2 F2) (r1 : Rel K C (orF M0 F2) H' σ1 e1 F') (s : Stp F1 H F' H') :
    Rel K C M0 H' (σ1 ++ σ2) (e1 ++ e2) (F' ++ F2) ∧ Stp (F1 ++ F2) H (F' ++ F2) H' := by
  have nd := List.nodup_append.mp r.nd
  have k2 : ∀ b ∈ F2, ∀ o, H b = some o → H' b = some o := fun b hb o e => s.keep b o (fun z => nd.2.2 b z b hb rfl) e
  have h2' : RepO K C (orF M0 (F' ++ F2)) H' σ2 e2 F2 := by
    refine repO_mono ?_ h2 k2
    rw [← orF_app, ← orF_app, orF_swap, orF_swap (F := F')]
    refine Stp.hide s fun b hb z => ?_
    rcases z with z | z
    · exact r.dj b (List.mem_append_left _ hb) z
    · exact nd.2.2 b hb b z rfl
  have h1 := r1.rep
  rw [orF_swap, orF_app] at h1
  have zz := r1.zd
  rw [orF_swap, orF_app] at zz
  refine ⟨⟨h1.app h2', List.nodup_append.mpr ⟨r1.nd, nd.2.1, fun a ha b hb e => r1.dj a ha (.inr (e ▸ hb))⟩, fun b hb z => ?_, fun b z => r1.al b (.inl z), zz⟩, ⟨fun b o n e => s.keep b o (fun z => n (List.mem_append_left _ z)) e, fun b hb => ?_⟩⟩
  · rcases List.mem_append.mp hb with q | q
    · exact r1.dj b q (.inl z)
    · exact r.dj b (List.mem_append_right _ q) z
  · rcases List.mem_append.mp hb with q | q
    · exact (s.new b q).imp (List.mem_append_left _) id
    · exact .inl (List.mem_append_right _ q)
/-- all upper slots are thrown away -/
theorem Rel.drops : ∀ {σ1 : List (Option V)} {e1 : Env} {F : List Addr}, σ1.length = e1.length → Rel K C M0 H (σ1 ++ σ) (e1 ++ env) F → ∃ F', Rel K C M0 H σ env F' ∧ ∀ b ∈ F', b ∈ F
  | [], [], _, _, r => ⟨_, r, fun _ h => h⟩
  | _ :: _, _ :: _, _, l, r => by
    obtain ⟨F1, r1, s1⟩ := Rel.drop r
    obtain ⟨F2, r2, s2⟩ := Rel.drops (by simpa using l) r1
    exact ⟨F2, r2, fun b h => s1.subset (s2 b h)⟩
theorem set_app_r {α : Type} (l1 l2 : List α) (i : Nat) (a : α) : (l1 ++ l2).set (l1.length + i) a = l1 ++ l2.set i a := by
  rw [List.set_append_right _ _ (Nat.le_add_right ..), Nat.add_sub_cancel_left]
theorem set_app_l {α : Type} (l1 l2 : List α) {i : Nat} (h : i < l1.length) (a : α) : (l1 ++ l2).set i a = l1.set i a ++ l2 := List.set_append_left _ _ h
/-- lent slots come back -/
theorem Rel.relink {vs : List V} : ∀ (lk : List (Nat × Nat)) {outs e : Env} {F : List Addr}, (∀ q ∈ lk, ∃ v, vs[q.1]? = some v ∧ σ[q.2]? = some (some v)) → vs.length = outs.length → Rel K C M0 H (vs.map some ++ σ) (outs ++ e) F →
    ∃ F', Rel K C M0 H σ (J.relink lk outs e) F' ∧ ∀ b ∈ F', b ∈ F
  | [], outs, e, F, _, l, r => Rel.drops (by rw [List.length_map]; exact l) r
  | (k, i) :: lk, outs, e, F, hk, l, r => by
    have tl : ∀ q ∈ lk, ∃ v, vs[q.1]? = some v ∧ σ[q.2]? = some (some v) := fun q hq => hk q (List.mem_cons_of_mem _ hq)
    obtain ⟨v, hv, hσ⟩ := hk (k, i) (List.mem_cons_self ..)
    unfold J.relink
    split
    · rename_i d ek
      have lk' : k < outs.length := by
        rcases Nat.lt_or_ge k outs.length with q | q
        · exact q
        · rw [List.getElem?_eq_none q] at ek; cases ek
      have e1 : (outs ++ e)[k]? = some (some d) := by rw [List.getElem?_append_left lk']; exact ek
      obtain ⟨v', F1, hv', r1, s1⟩ := r.take e1
      have ev : v' = v := by
        rw [List.getElem?_append_left (by rw [List.length_map, l]; exact lk'), List.getElem?_map] at hv'
        have hv2 : vs[k]? = some v := hv
        rw [hv2] at hv'
        simpa using hv'.symm
      subst ev
      have e2 : (vs.map some ++ σ)[outs.length + i]? = some (some v') := by
        rw [List.getElem?_append_right (by rw [List.length_map, l]; omega), List.length_map, l, Nat.add_sub_cancel_left]; exact hσ
      obtain ⟨F2, r2, s2⟩ := r1.put e2
      rw [set_app_l _ _ lk'] at r2
      have e3 : outs.length = (outs.set k none).length := by rw [List.length_set]
      rw [e3, set_app_r] at r2
      obtain ⟨F3, r3, s3⟩ := Rel.relink lk tl (by rw [List.length_set]; exact l) r2
      exact ⟨F3, r3, fun b h => s1 b (s2 b (s3 b h))⟩
    · exact Rel.relink lk tl l r
end
section
variable {K : PySem.W.Frag} {C : CT} {W : Wish} {kp : List Nat}
theorem _root_.L2.PE.imp {X : Cx} {e : Expr} {t t' : TE} (h : PE X e t) (i : ∀ σ H Q, t' σ H Q → t σ H Q) : PE X e t' := ⟨fun pins s σ H Q I q => h.run pins s σ H Q I (i σ H Q q)⟩
theorem _root_.L2.PA.imp {X : Cx} {e : List Expr} {t t' : TA} (h : PA X e t) (i : ∀ σ H Q, t' σ H Q → t σ H Q) : PA X e t' := ⟨fun pos pins s σ H Q I q => h.run pos pins s σ H Q I (i σ H Q q)⟩
theorem _root_.L2.PT.imp {X : Cx} {e : Expr} {t t' : TT} (h : PT X e t) (i : ∀ σ H Q, t' σ H Q → t σ H Q) : PT X e t' := ⟨fun pins s σ H Q I q => h.run pins s σ H Q I (i σ H Q q)⟩
theorem _root_.L2.PS.imp {X : Cx} {e : Stmt} {t t' : TS} (h : PS X e t) (i : ∀ E σ H, t' E σ H → t E σ H) : PS X e t' := ⟨fun pins s σ H E I q => h.run pins s σ H E I (i E σ H q)⟩
theorem _root_.L2.PSs.imp {X : Cx} {e : List Stmt} {t t' : TS} (h : PSs X e t) (i : ∀ E σ H, t' E σ H → t E σ H) : PSs X e t' := ⟨fun pins s σ H E I q => h.run pins s σ H E I (i E σ H q)⟩
theorem _root_.L2.PG.imp {X : Cx} {e : Expr} {t t' : TG} (h : PG X e t) (i : ∀ v σ H Q, t' v σ H Q → t v σ H Q) : PG X e t' := by
  obtain ⟨h⟩ := h
  constructor
  intros
  exact h _ _ _ _ _ _ _ (by assumption) (by assumption) (by apply i; assumption)
/-- a call by what stands on top -/
theorem call_core {n : Nat} {run : List D → R D} {lk : List (Nat × Nat)} {M0 : Addr → Prop} {σ : L2.St} {H : Hp} {vs : List V} {ds : List D} {e : Env} {F : List Addr} {Q : VK} (r : Rel K C M0 H (vs.map some ++ σ) (ds.map some ++ e) F) (l : vs.length = ds.length) (hn : ds.length = n)
    (hlk : ∀ q ∈ lk, ∃ v, vs[q.1]? = some v ∧ σ[q.2]? = some (some v)) (ol : ∀ r outs, run ds = .ok r outs → outs.length = n) (ox : ∀ c ns xs outs, run ds = .ex c ns xs outs → outs.length = n)
    (h : okT K C W M0 σ F H Q (match run ds with
      | .ok r outs => .ok r (relink lk outs e)
      | .ex c ns xs outs => .ex c ns xs (relink lk outs e)
      | .no => .no)) : spP K C n run vs H Q (W σ) := by
  refine ⟨l.trans hn, ?_⟩
  obtain ⟨F1, F2, rfl, h2, r1⟩ := r.upper (by simp [l])
  refine ⟨orF M0 F2, ds, F1, r1, ?_⟩
  cases er : run ds with
  | no => rw [er] at h; exact h
  | ok x outs =>
    rw [er] at h
    have lo := ol x outs er
    intro v H' F' r' s'
    obtain ⟨r3, s3⟩ := Rel.over r h2 r' s'
    obtain ⟨G1, G2, eG, hv, r4⟩ := Rel.pop r3
    obtain ⟨F5, r5, s5⟩ := Rel.relink lk hlk (by rw [l, hn, lo]) r4
    obtain ⟨r6, s6⟩ := Rel.back r3 G1 G2 eG hv r5 (.sub s5)
    exact h v H' _ r6 (s3.trans s6)
  | ex c ns xs outs =>
    rw [er] at h
    have lo := ox c ns xs outs er
    intro od us H' F' r' s' ho hl ru
    obtain ⟨r3, s3⟩ := Rel.over r h2 r' s'
    obtain ⟨F5, r5, s5⟩ := Rel.relink lk hlk (by rw [l, hn, lo]) r3
    have hm : ∀ b, orF M0 F5 b → orF (orF M0 F2) F' b := fun b z => by
      rcases z with z | z
      · exact .inl (.inl z)
      · rcases List.mem_append.mp (s5 b z) with q | q
        · exact .inr q
        · exact .inl (.inr q)
    exact h od us H' F5 r5 (s3.trans (.sub s5)) (hide_mono (.refl _) (fun b z => .inl (hm b z)) _ _ ho) hl (repL_mono (hide_mono (.refl _) fun b z => .inl (hm b z)) ru fun _ hb => by cases hb)
/-- the def of a body -/
theorem def_core {n l : Nat} {N : List Str} {body : Env → Out} {vs : List V} {H : Hp} {Q : VK} {E : XK} (hN : N.length = n + l) (hkp : ∀ i ∈ kp, i < n) (h : spP K C n (defF n kp l body) vs H Q E) :
    tS K C (fun _ => E) kp body { nx := fun _ H' => Q .non H', rt := Q } (L2.start N vs) H := by
  obtain ⟨lv, M0, ds, F, r, h⟩ := h
  have ld : ds.length = n := by
    have := r.rep.length
    simp only [List.length_map] at this
    omega
  have nones : ∀ (M : Addr → Prop) (m : Nat), RepO K C M H (List.replicate m none) (List.replicate m none) [] := fun M m => by
    induction m with
    | zero => exact .nil
    | succ m ih => exact .gone ih
  have r0 : Rel K C M0 H (L2.start N vs) (ds.map some ++ List.replicate l none) F := by
    unfold L2.start
    have e : N.length - vs.length = l := by omega
    rw [e]
    exact ⟨by have := r.rep.app (nones (orF M0 F) l); rw [List.append_nil] at this; exact this, r.nd, r.dj, r.al, r.zd⟩
  refine ⟨M0, _, F, r0, ?_⟩
  -- the parameters at the end
  have fin : ∀ {M : Addr → Prop} {H' : Hp} {σ' : L2.St} {e : Env} {F' : List Addr}, RepO K C M H' σ' e F' → Kp kp (L2.start N vs) σ' → ∃ F2, RepO K C M H' (vs.map some) (outsOf n kp e) F2 ∧ F2.Sublist F' := by
    intro M H' σ' e F' rr kk
    have key : ∀ (m : Nat), m ≤ n → ∃ F1 F2, F1.Sublist F' ∧ RepO K C M H' ((vs.map some).take m) ((List.range m).map fun i => if i ∈ kp then (e[i]?).join else none) F1 ∧ RepO K C M H' (σ'.drop m) (e.drop m) F2 ∧ (F1 ++ F2).Sublist F' := by
      intro m
      induction m with
      | zero => intro _; exact ⟨[], F', List.nil_sublist _, .nil, rr, .refl _⟩
      | succ m ih =>
        intro hm
        obtain ⟨F1, F2, _, a, b, sb⟩ := ih (by omega)
        obtain ⟨v, hv⟩ : ∃ v, vs[m]? = some v := ⟨vs[m]'(by omega), List.getElem?_eq_getElem _⟩
        have ev : (vs.map some).take (m + 1) = (vs.map some).take m ++ [some v] := by
          rw [List.take_add_one]; congr 1
          rw [List.getElem?_map, hv]; rfl
        rw [ev, List.range_succ, List.map_append, List.map_cons, List.map_nil]
        have hs : (L2.start N vs)[m]? = some (some v) := by
          unfold L2.start
          rw [List.getElem?_append_left (by simp; omega), List.getElem?_map, hv]; rfl
        by_cases hmk : m ∈ kp
        · rw [if_pos hmk]
          have hσ : σ'[m]? = some (some v) := by rw [kk m hmk]; exact hs
          have lσ : m < σ'.length := by
            rcases Nat.lt_or_ge m σ'.length with q | q
            · exact q
            · rw [List.getElem?_eq_none q] at hσ; cases hσ
          have le : m < e.length := by rw [← rr.length]; exact lσ
          rw [List.drop_eq_getElem_cons lσ, List.drop_eq_getElem_cons le] at b
          have e1 : σ'[m] = some v := by rw [List.getElem?_eq_getElem lσ] at hσ; exact Option.some.inj hσ
          rw [e1] at b
          rw [List.getElem?_eq_getElem le, Option.join_some]
          revert b
          generalize e[m] = y
          intro b
          cases b with
          | gone t => exact ⟨F1, F2, (List.sublist_append_left ..).trans sb, by have := a.app (RepO.gone (x := some v) RepO.nil); rw [List.append_nil] at this; exact this, t, sb⟩
          | have_ h t =>
            rename_i d G1 G2
            refine ⟨F1 ++ G1, G2, ?_, a.app (by have := RepO.have_ h RepO.nil; rw [List.append_nil] at this; exact this), t, by rw [List.append_assoc]; exact sb⟩
            rw [← List.append_assoc] at sb
            exact (List.sublist_append_left ..).trans sb
        · rw [if_neg hmk]
          have t : ∃ F3, RepO K C M H' (σ'.drop (m + 1)) (e.drop (m + 1)) F3 ∧ F3.Sublist F2 := by
            rcases Nat.lt_or_ge m σ'.length with lσ | lσ
            · have le : m < e.length := by rw [← rr.length]; exact lσ
              rw [List.drop_eq_getElem_cons lσ, List.drop_eq_getElem_cons le] at b
              revert b
              generalize e[m] = y
              generalize σ'[m] = z
              intro b
              cases b with
              | gone t => exact ⟨_, t, .refl _⟩
              | have_ h t => exact ⟨_, t, List.sublist_append_right ..⟩
            · have le : e.length ≤ m := by rw [← rr.length]; exact lσ
              rw [List.drop_eq_nil_of_le (by omega), List.drop_eq_nil_of_le (by omega)]
              exact ⟨[], .nil, List.nil_sublist _⟩
          obtain ⟨F3, t, s3⟩ := t
          exact ⟨F1, F3, (List.sublist_append_left ..).trans sb, by have := a.app (RepO.gone (x := some v) RepO.nil); rw [List.append_nil] at this; exact this, t, (s3.append_left F1).trans sb⟩
    obtain ⟨F1, F2, s1, a, _, _⟩ := key n (Nat.le_refl _)
    rw [List.take_of_length_le (by simp; omega)] at a
    exact ⟨F1, a, s1⟩
  unfold defF at h
  generalize body (ds.map some ++ List.replicate l none) = o at h
  have low : ∀ {H' : Hp} {σ' : L2.St} {e : Env} {F' : List Addr}, Rel K C M0 H' σ' e F' → Kp kp (L2.start N vs) σ' → ∃ F2, Rel K C M0 H' (vs.map some) (outsOf n kp e) F2 ∧ F2.Sublist F' := by
    intro H' σ' e F' rr kk
    obtain ⟨F2, a, s⟩ := fin rr.rep kk
    exact ⟨F2, .mono_ a rr.nd s rr.dj rr.al rr.zd, s⟩
  cases o with
  | nx e =>
    intro σ' H' F' r' s' kk
    obtain ⟨F2, r2, s2⟩ := low r' kk
    exact h .non H' F2 (Rel.data r2 .non) (s'.trans (.subl s2))
  | rt x e =>
    intro v σ' H' F' r' s' kk
    obtain ⟨G1, G2, eG, hv, r4⟩ := Rel.pop r'
    obtain ⟨F2, a, s2⟩ := fin r4.rep kk
    have r5 : Rel K C (orF M0 G1) H' (vs.map some) (outsOf n kp e) F2 := .mono_ a r4.nd s2 r4.dj r4.al r4.zd
    obtain ⟨r6, s6⟩ := Rel.back r' G1 G2 eG hv r5 (.subl s2)
    exact h v H' _ r6 (s'.trans s6)
  | bk e => exact h.elim
  | ct e => exact h.elim
  | no => exact h
  | ex c ns xs e =>
    intro od us σ' H' F' r' s' kk ho hl ru
    obtain ⟨F2, r2, s2⟩ := low r' kk
    exact h od us H' F2 r2 (s'.trans (.subl s2)) (hide_mono (.refl _) (fun b z => .inl (z.imp id fun q => s2.subset q)) _ _ ho) hl (repL_mono (hide_mono (.refl _) fun b z => .inl (z.imp id fun q => s2.subset q)) ru fun _ hb => by cases hb)
theorem outsOf_length {n : Nat} {kp : List Nat} {e : Env} : (outsOf n kp e).length = n := by simp [outsOf]
theorem defF_outs {n l : Nat} {body : Env → Out} {ds : List D} : (∀ r outs, defF n kp l body ds = .ok r outs → outs.length = n) ∧ ∀ c ns xs outs, defF n kp l body ds = .ex c ns xs outs → outs.length = n := by
  unfold defF
  generalize body _ = o
  cases o <;> refine ⟨fun r outs h => ?_, fun c ns xs outs h => ?_⟩ <;> simp only [R.ok.injEq, R.ex.injEq, reduceCtorEq] at h
  · rw [← h.2]; exact outsOf_length
  · rw [← h.2]; exact outsOf_length
  · rw [← h.2.2.2]; exact outsOf_length
end
end J
/-! Rules: a construct of the text and its pure word. -/
namespace J
open PySem L2 PySem.Spec PyProof.Rows
section
variable {K : PySem.W.Frag} {C : CT} {W : Wish} {kp : List Nat} {M0 : Addr → Prop} {H H' H2 : Hp} {σ σ' : L2.St} {env env' : Env} {F F' F1 F2 G : List Addr} {v w : V} {d e : D}
/-! ### what stands on top -/
theorem Rel.less (r : Rel K C (orF M0 G) H σ env F) : Rel K C M0 H σ env F :=
  have hm : Same (hide (orF (orF M0 G) F) H) (hide (orF M0 F) H) := hide_mono (.refl _) fun b z => .inl (by rcases z with z | z; exact .inl (.inl z); exact .inr z)
  ⟨repO_mono hm r.rep fun _ _ _ e => e, r.nd, fun b hb z => r.dj b hb (.inl z), fun b z => r.al b (.inl z), r.zd.mono hm⟩
theorem Stp.wide (s : Stp F2 H F' H') : Stp (F1 ++ F2) H F' H' := ⟨fun b o n e => s.keep b o (fun z => n (List.mem_append_right _ z)) e, fun b hb => (s.new b hb).imp (List.mem_append_right _) id⟩
theorem ExOk.lift {c : Nat} {ns : List Str} {ds : List D} (h : ExOk K C W M0 σ F H c ns ds env) (s : Stp F H (F1 ++ F2) H') : ExOk K C W (orF M0 F1) σ F2 H' c ns ds env := by
  intro od vs H2 F' r s2 ho hl rl
  have hm : ∀ b, orF M0 F' b → orF (orF M0 F1) F' b := fun b z => by
    rcases z with z | z
    · exact .inl (.inl z)
    · exact .inr z
  exact h od vs H2 F' r.less (s.trans s2.wide) (hide_mono (.refl _) (fun b z => .inl (hm b z)) _ _ ho) hl (repL_mono (hide_mono (.refl _) fun b z => .inl (hm b z)) rl fun _ hb => by cases hb)
theorem ExOk.trans {c : Nat} {ns : List Str} {ds : List D} (h : ExOk K C W M0 σ F H c ns ds env) (s : Stp F H F2 H') : ExOk K C W M0 σ F2 H' c ns ds env :=
  fun od vs H2 F' r s2 ho hl rl => h od vs H2 F' r (s.trans s2) ho hl rl
/-- a first evaluation, then another with its value put aside -/
theorem then_tOf {f : Env → R D} {k : D → Env → R D} {t : V → TE} {Q : VK} (h : tOf K C W (fun env => (f env).bind k) σ H Q)
    (ht : ∀ d e1 v H1 M0 F, Rel K C M0 H1 (some v :: σ) (some d :: e1) F → okT K C W M0 σ F H1 Q (k d e1) → t v σ H1 Q) : tOf K C W f σ H fun v H1 => t v σ H1 Q := by
  obtain ⟨M0, env, F, r, h⟩ := h
  have h : okT K C W M0 σ F H Q ((f env).bind k) := h
  refine ⟨M0, env, F, r, ?_⟩
  cases ef : f env with
  | no => rw [ef] at h; exact h
  | ex c ns ds e => rw [ef] at h; exact h
  | ok d e =>
    rw [ef] at h
    intro v H1 F1 r1 s1
    refine ht d e v H1 M0 F1 r1 ?_
    simp only [R.bind] at h
    cases ek : k d e with
    | no => rw [ek] at h; exact h
    | ok x e2 => rw [ek] at h; exact fun u H2 F2 r2 s2 => h u H2 F2 r2 (s1.trans s2)
    | ex c ns ds e2 => rw [ek] at h; exact ExOk.trans h s1
/-- a second evaluation below a value -/
theorem below_tOf {f : Env → R D} {k : D → Env → R D} {R_ : V → Hp → Prop} {Q : VK} (r : Rel K C M0 H (some v :: σ) (some d :: env) F) (h : okT K C W M0 σ F H Q ((f env).bind k))
    (hk : ∀ x e1 w H1 F1, Rel K C M0 H1 (some v :: some w :: σ) (some d :: some x :: e1) F1 → okT K C W M0 σ F1 H1 Q (k x e1) → R_ w H1) : tOf K C W f σ H R_ := by
  obtain ⟨G1, G2, eG, hv, r2⟩ := r.pop
  refine ⟨orF M0 G1, env, G2, r2, ?_⟩
  cases ef : f env with
  | no => rw [ef] at h; exact h
  | ex c ns ds e => rw [ef] at h; subst eG; exact ExOk.lift h .refl
  | ok x e1 =>
    rw [ef] at h
    intro w H1 F1 r1 s1
    obtain ⟨r3, s3⟩ := Rel.back r G1 G2 eG hv r1 s1
    refine hk x e1 w H1 _ r3 ?_
    simp only [R.bind] at h
    cases ek : k x e1 with
    | no => rw [ek] at h; exact h
    | ok y e2 => rw [ek] at h; exact fun u H2 F2 r2 s2 => h u H2 F2 r2 (s3.trans s2)
    | ex c ns ds e2 => rw [ek] at h; exact ExOk.trans h s3
/-! ### names, constants -/
/-- a name read as data -/
def rdF (i : Nat) : Env → R D := fun env => match env[i]? with
  | some (some d) => .ok d.fz (env.set i (some d.fz))
  | _ => .no
/-- a name read, its value moved out -/
def rdM (i : Nat) : Env → R D := fun env => match env[i]? with
  | some (some d) => .ok d (env.set i none)
  | _ => .no
def rdB (i : Nat) : Env → Option D := fun env => (env[i]?).join
def okC (d : D) : Env → R D := fun env => .ok d env
theorem i_rdF {i : Nat} {Q : VK} (h : tOf K C W (rdF i) σ H Q) : tVar i σ H Q := by
  obtain ⟨M0, env, F, r, h⟩ := h
  rcases ed : env[i]? with _ | _ | d
  · simp only [rdF, ed] at h; exact h.elim
  · simp only [rdF, ed] at h; exact h.elim
  · simp only [rdF, ed] at h
    obtain ⟨v, F1, hσ, r1, s1⟩ := r.take ed
    obtain ⟨F2, r2, s2⟩ := r1.fz
    obtain ⟨F3, r3, s3⟩ := r2.dup
    obtain ⟨G1, G2, eG, hv, r4⟩ := r3.pop
    obtain ⟨F5, r5, s5⟩ := r4.put hσ
    rw [List.set_set] at r5
    obtain ⟨r6, s6⟩ := Rel.back r3 G1 G2 eG hv r5 (.sub s5)
    exact ⟨v, hσ, h v H _ r6 (Stp.trans (.sub fun b hb => s1 b (s2.subset (s3 b hb))) s6)⟩
theorem i_rdM {i : Nat} {Q : VK} (h : tOf K C W (rdM i) σ H Q) : tVar i σ H Q := by
  obtain ⟨M0, env, F, r, h⟩ := h
  rcases ed : env[i]? with _ | _ | d
  · simp only [rdM, ed] at h; exact h.elim
  · simp only [rdM, ed] at h; exact h.elim
  · simp only [rdM, ed] at h
    obtain ⟨v, F1, hσ, r1, s1⟩ := r.take ed
    exact ⟨v, hσ, h v H _ r1 (.sub s1)⟩
theorem i_rdB {i : Nat} {Q : VK} (h : bOf K C (rdB i) σ H Q) : tVar i σ H Q := by
  obtain ⟨M0, env, F, r, d, ed, h⟩ := h
  unfold rdB at ed
  have ed : env[i]? = some (some d) := by
    cases e1 : env[i]? with
    | none => rw [e1] at ed; cases ed
    | some y => rw [e1] at ed; simp only [Option.join_some] at ed; rw [ed]
  obtain ⟨v, G, F1, F2, hσ, hv, eF, _⟩ := r.rep.at ed
  exact ⟨v, hσ, h v H (.refl _) r ⟨G, fun b hb => by rw [eF]; simp [hb], hv⟩⟩
/-- a value that no heap bears -/
inductive Sc : V → D → Prop
  | non : Sc .non .non | bl (b : Bool) : Sc (.bl b) (.bl b) | int (i : Int) : Sc (.int i) (.int i) | str (s : Str) : Sc (.str s) (.str s)
theorem Sc.rep {M : Addr → Prop} (h : Sc v d) : Rep K C M H v d [] := by cases h <;> constructor
theorem i_okC {Q : VK} (s : Sc v d) (h : tOf K C W (okC d) σ H Q) : tC v σ H Q := by
  obtain ⟨M0, env, F, r, h⟩ := h
  exact h v H F (Rel.data r s.rep) .refl
theorem i_bC {Q : VK} (s : Sc v d) (h : bOf K C (fun _ => some d) σ H Q) : tC v σ H Q := by
  obtain ⟨M0, env, F, r, d', ed, h⟩ := h
  obtain rfl := Option.some.inj ed
  exact h v H (.refl _) r ⟨[], fun _ hb => absurd hb List.not_mem_nil, s.rep⟩
/-- what is read alone, as data -/
def toT (f : Env → Option D) : Env → R D := fun env => match f env with
  | some d => if d.noOwn then .ok d env else .no
  | none => .no
theorem i_toT {f : Env → Option D} {Q : VK} (h : tOf K C W (toT f) σ H Q) : bOf K C f σ H Q := by
  obtain ⟨M0, env, F, r, h⟩ := h
  cases ed : f env with
  | none => simp only [toT, ed] at h; exact h.elim
  | some d =>
    by_cases hn : d.noOwn = true
    · simp only [toT, ed, hn, if_true] at h
      refine ⟨M0, env, F, r, d, ed, fun v H' s r' ⟨G, hG, hv⟩ => ?_⟩
      obtain ⟨rfl, _⟩ := fz_noOwn hv hn
      exact h v H' F (Rel.data r' hv) (.same s fun b hb => .inl hb)
    · simp only [toT, ed, hn] at h; exact h.elim
/-! ### operators by values -/
/-- an operator's reading r does g -/
def Op2 (K : PySem.W.Frag) (C : CT) (r : R2) (g : D → D → Option D) : Prop := ∀ (M0 : Addr → Prop) (σ : L2.St) (env : Env) (F : List Addr) (H : Hp) (v w : V) (d e x : D) (Q : VK), Rel K C M0 H (some v :: some w :: σ) (some d :: some e :: env) F → g d e = some x →
  (∀ u H' F', Rel K C M0 H' (some u :: σ) (some x :: env) F' → Stp F H F' H' → Q u H') → r v w H Q
def Op1 (K : PySem.W.Frag) (C : CT) (r : V → Hp → VK → Prop) (g : D → Option D) : Prop := ∀ (M0 : Addr → Prop) (σ : L2.St) (env : Env) (F : List Addr) (H : Hp) (v : V) (d x : D) (Q : VK), Rel K C M0 H (some v :: σ) (some d :: env) F → g d = some x →
  (∀ u H' F', Rel K C M0 H' (some u :: σ) (some x :: env) F' → Stp F H F' H' → Q u H') → r v H Q
def lift1 (g : D → Option D) (f : Env → R D) : Env → R D := fun env => (f env).bind fun d e => match g d with | some x => .ok x e | none => .no
def lift2 (g : D → D → Option D) (f f2 : Env → R D) : Env → R D := fun env => (f env).bind fun d e1 => (f2 e1).bind fun d2 e2 => match g d d2 with | some x => .ok x e2 | none => .no
theorem i_op2 {r : R2} {g : D → D → Option D} {f f2 : Env → R D} {Q : VK} (o : Op2 K C r g) (h : tOf K C W (lift2 g f f2) σ H Q) : tOp r (tOf K C W f) (tOf K C W f2) σ H Q := by
  refine then_tOf (k := fun d e1 => (f2 e1).bind fun d2 e2 => match g d d2 with | some x => .ok x e2 | none => .no) (t := fun v σ H1 Q => tOf K C W f2 σ H1 fun y H2 => r v y H2 Q) h ?_
  intro d e1 v H1 M0 F r1 h1
  refine below_tOf r1 h1 ?_
  intro x e2 w H2 F2 r2 h2
  cases ey : g d x with
  | some y => rw [ey] at h2; exact o M0 σ e2 F2 H2 v w d x y Q r2 ey h2
  | none => rw [ey] at h2; exact h2.elim
theorem i_op1 {r : V → Hp → VK → Prop} {g : D → Option D} {f : Env → R D} {Q : VK} (o : Op1 K C r g) (h : tOf K C W (lift1 g f) σ H Q) : tUn r (tOf K C W f) σ H Q := by
  refine then_tOf (k := fun d e => match g d with | some x => .ok x e | none => .no) (t := fun v _ H1 Q => r v H1 Q) h ?_
  intro d e1 v H1 M0 F r1 h1
  cases ey : g d with
  | some y => rw [ey] at h1; exact o M0 σ e1 F H1 v d y Q r1 ey h1
  | none => rw [ey] at h1; exact h1.elim
theorem Op2.or {r r' : R2} {g g' : D → D → Option D} (h : Op2 K C r g) (h' : Op2 K C r' g') : Op2 K C (fun x y H Q => r x y H Q ∨ r' x y H Q) (fun d e => (g d e).or (g' d e)) := by
  intro M0 σ env F H v w d e x Q rl eg q
  have eg : (g d e).or (g' d e) = some x := eg
  cases e1 : g d e with
  | some y =>
    rw [e1] at eg
    obtain rfl : y = x := by simpa using eg
    exact .inl (h M0 σ env F H v w d e y Q rl e1 q)
  | none =>
    rw [e1] at eg
    exact .inr (h' M0 σ env F H v w d e x Q rl (by simpa using eg) q)
theorem OpR.or_ {X : Cx} {f : Value → Value → Sem Value} {r r' : R2} (h : OpR X f r) (h' : OpR X f r') : OpR X f (fun x y H Q => r x y H Q ∨ r' x y H Q) :=
  fun pins s σ H x y v u Q I rx ry q => q.elim (h pins s σ H x y v u Q I rx ry) (h' pins s σ H x y v u Q I rx ry)
theorem IxR.or_ {X : Cx} {r r' : R2} (h : IxR X r) (h' : IxR X r') : IxR X (fun x y H Q => r x y H Q ∨ r' x y H Q) :=
  fun a b pins s σ H x y v u Q I rx ry q => q.elim (h a b pins s σ H x y v u Q I rx ry) (h' a b pins s σ H x y v u Q I rx ry)
/-- ints on top -/
theorem Rel.two (r : Rel K C M0 H (some v :: some w :: σ) (some d :: some e :: env) F) : ∃ F1 F2 F3, F = F1 ++ (F2 ++ F3) ∧ Rep K C (orF M0 F) H v d F1 ∧ Rep K C (orF M0 F) H w e F2 ∧ ∃ F', Rel K C M0 H σ env F' ∧ ∀ b ∈ F', b ∈ F := by
  obtain ⟨F4, r4, s4⟩ := r.drop
  obtain ⟨F5, r5, s5⟩ := r4.drop
  have rr := r.rep
  cases rr with
  | have_ h t =>
    cases t with
    | have_ h2 t2 => exact ⟨_, _, _, rfl, h, h2, F5, r5, fun b hb => s4.subset (s5.subset hb)⟩
theorem Rel.sc1 (r : Rel K C M0 H (some v :: σ) (some d :: env) F) {u : V} {x : D} (s : Sc u x) {Q : VK} (q : ∀ u H' F', Rel K C M0 H' (some u :: σ) (some x :: env) F' → Stp F H F' H' → Q u H') : Q u H := by
  obtain ⟨F4, r4, s4⟩ := r.drop
  exact q u H F4 (Rel.data r4 s.rep) (.subl s4)
theorem Rel.sc2 (r : Rel K C M0 H (some v :: some w :: σ) (some d :: some e :: env) F) {u : V} {x : D} (s : Sc u x) {Q : VK} (q : ∀ u H' F', Rel K C M0 H' (some u :: σ) (some x :: env) F' → Stp F H F' H' → Q u H') : Q u H := by
  obtain ⟨F4, r4, s4⟩ := r.drop
  obtain ⟨F5, r5, s5⟩ := r4.drop
  exact q u H F5 (Rel.data r5 s.rep) (.sub fun b hb => s4.subset (s5.subset hb))
theorem op2_int {g : Int → Int → V} {g' : Int → Int → D} (hg : ∀ i j, Sc (g i j) (g' i j)) : Op2 K C (rI0 g) (fun d e => match d, e with | .int i, .int j => some (g' i j) | _, _ => none) := by
  intro M0 σ env F H v w d e x Q r eg q
  obtain ⟨F1, F2, F3, eF, hv, hw, _⟩ := r.two
  dsimp only at eg
  split at eg
  · cases hv; cases hw
    rename_i i j
    obtain rfl := Option.some.inj eg
    exact ⟨i, j, rfl, rfl, Rel.sc2 r (hg i j) q⟩
  · cases eg
/-! reading -/
theorem Rep.lstR {M : Addr → Prop} {o : Bool} {xs : List D} (h : Rep K C M H v (.lst o xs) F) : ∃ a vs G, v = .ref a ∧ H a = some (.lst vs) ∧ RepL K C M H vs xs G ∧ ∀ b ∈ G, b ∈ F := by
  cases h with
  | lst h _ t => exact ⟨_, _, _, rfl, hide_le _ _ h, t, fun _ hb => hb⟩
  | own h t => exact ⟨_, _, _, rfl, h, t, fun _ hb => List.mem_cons_of_mem _ hb⟩
theorem Rep.tupR {M : Addr → Prop} {xs : List D} (h : Rep K C M H v (.tup xs) F) : ∃ a vs, v = .ref a ∧ H a = some (.tup vs) ∧ RepL K C M H vs xs F := by
  cases h with
  | tup h t => exact ⟨_, _, rfl, hide_le _ _ h, t⟩
theorem RepL.get {M : Addr → Prop} : ∀ {vs : List V} {ds : List D} {F : List Addr} {i : Nat} {d : D}, RepL K C M H vs ds F → ds[i]? = some d → ∃ v G, vs[i]? = some v ∧ Rep K C M H v d G ∧ ∀ b ∈ G, b ∈ F
  | _, _, _, _, _, .nil, e => by simp at e
  | _, _, _, 0, _, .cons h _, e => by simp at e; subst e; exact ⟨_, _, rfl, h, fun b hb => List.mem_append_left _ hb⟩
  | _, _, _, i + 1, _, .cons _ t, e => by
    obtain ⟨v, G, h1, h2, h3⟩ := t.get (i := i) (by simpa using e)
    exact ⟨v, G, by simpa using h1, h2, fun b hb => List.mem_append_right _ (h3 b hb)⟩
theorem RepL.atI {M : Addr → Prop} {vs : List V} {ds : List D} {i : Int} {d : D} (h : RepL K C M H vs ds F) (e : L2.atI ds i = some d) : ∃ v G, L2.atI vs i = some v ∧ Rep K C M H v d G ∧ ∀ b ∈ G, b ∈ F := by
  unfold L2.atI at e ⊢
  rw [h.length]
  cases q : ixN ds.length i with
  | none => rw [q] at e; cases e
  | some j =>
    rw [q] at e
    exact h.get (by simpa using e)
end
end J
/-! Tests, statements, loops, calls. -/
namespace J
open PySem L2 PySem.Spec PyProof.Rows
section
variable {K : PySem.W.Frag} {C : CT} {W : Wish} {kp : List Nat} {M0 : Addr → Prop} {H H' H2 : Hp} {σ σ' : L2.St} {env env' : Env} {F F' F1 F2 G : List Addr} {v w : V} {d e : D}
/-! ### tests -/
def asB (f : Env → R D) : Env → R Bool := fun env => match f env with
  | .ok (.bl b) e => .ok b e
  | .ex c ns vs e => .ex c ns vs e
  | _ => .no
def ofB (f : Env → R Bool) : Env → R D := fun env => match f env with
  | .ok b e => .ok (.bl b) e
  | .ex c ns vs e => .ex c ns vs e
  | .no => .no
def andB (f g : Env → R Bool) : Env → R Bool := fun env => match f env with
  | .ok true e => g e
  | r => r
def orB (f g : Env → R Bool) : Env → R Bool := fun env => match f env with
  | .ok false e => g e
  | r => r
def notB (f : Env → R Bool) : Env → R Bool := fun env => match f env with
  | .ok b e => .ok (!b) e
  | .ex c ns vs e => .ex c ns vs e
  | .no => .no
theorem i_asB {f : Env → R D} {Q : Bool → Hp → Prop} (h : ttOf K C W (asB f) σ H Q) : tTest (tOf K C W f) σ H Q := by
  obtain ⟨M0, env, F, r, h⟩ := h
  refine ⟨M0, env, F, r, ?_⟩
  cases ef : f env with
  | no => simp only [asB, ef] at h; exact h
  | ex c ns ds e => simp only [asB, ef] at h; exact h
  | ok d e =>
    cases d with
    | bl b =>
      simp only [asB, ef] at h
      intro v H' F' r' s'
      obtain ⟨F4, r4, s4⟩ := r'.drop
      have rr := r'.rep
      cases rr with
      | have_ hv _ => cases hv; exact ⟨b, rfl, h H' F4 r4 (s'.trans (.subl s4))⟩
    | _ => simp only [asB, ef] at h; exact h.elim
theorem i_asB2 {f : Env → R D} {Q : Bool → Hp → Prop} (h : ttOf K C W (asB f) σ H Q) : tB (tOf K C W f) σ H Q := i_asB h
theorem i_andB {f g : Env → R Bool} {Q : Bool → Hp → Prop} (h : ttOf K C W (andB f g) σ H Q) : tAnd (ttOf K C W f) (ttOf K C W g) σ H Q := by
  obtain ⟨M0, env, F, r, h⟩ := h
  refine ⟨M0, env, F, r, ?_⟩
  cases ef : f env with
  | no => simp only [andB, ef] at h; exact h
  | ex c ns ds e => simp only [andB, ef] at h; exact h
  | ok b e =>
    cases b with
    | true =>
      simp only [andB, ef] at h
      intro H' F' r' s'
      rw [if_pos rfl]
      refine ⟨M0, e, F', r', ?_⟩
      cases eg : g e with
      | no => rw [eg] at h; exact h
      | ok b e2 => rw [eg] at h; exact fun H2 F2 r2 s2 => h H2 F2 r2 (s'.trans s2)
      | ex c ns ds e2 => rw [eg] at h; exact ExOk.trans h s'
    | false =>
      simp only [andB, ef] at h
      intro H' F' r' s'
      rw [if_neg (by decide)]
      exact h H' F' r' s'
theorem i_orB {f g : Env → R Bool} {Q : Bool → Hp → Prop} (h : ttOf K C W (orB f g) σ H Q) : tOr (ttOf K C W f) (ttOf K C W g) σ H Q := by
  obtain ⟨M0, env, F, r, h⟩ := h
  refine ⟨M0, env, F, r, ?_⟩
  cases ef : f env with
  | no => simp only [orB, ef] at h; exact h
  | ex c ns ds e => simp only [orB, ef] at h; exact h
  | ok b e =>
    cases b with
    | false =>
      simp only [orB, ef] at h
      intro H' F' r' s'
      rw [if_neg (by decide)]
      refine ⟨M0, e, F', r', ?_⟩
      cases eg : g e with
      | no => rw [eg] at h; exact h
      | ok b e2 => rw [eg] at h; exact fun H2 F2 r2 s2 => h H2 F2 r2 (s'.trans s2)
      | ex c ns ds e2 => rw [eg] at h; exact ExOk.trans h s'
    | true =>
      simp only [orB, ef] at h
      intro H' F' r' s'
      rw [if_pos rfl]
      exact h H' F' r' s'
theorem i_notB {f : Env → R Bool} {Q : Bool → Hp → Prop} (h : ttOf K C W (notB f) σ H Q) : tNot (ttOf K C W f) σ H Q := by
  obtain ⟨M0, env, F, r, h⟩ := h
  refine ⟨M0, env, F, r, ?_⟩
  cases ef : f env with
  | no => simp only [notB, ef] at h; exact h
  | ex c ns ds e => simp only [notB, ef] at h; exact h
  | ok b e => simp only [notB, ef] at h; exact h
/-- as values -/
theorem i_andV {f g : Env → R Bool} {Q : VK} (h : tOf K C W (ofB (andB f g)) σ H Q) : tAndV (tOf K C W (ofB f)) (tOf K C W (ofB g)) σ H Q := by
  obtain ⟨M0, env, F, r, h⟩ := h
  refine ⟨M0, env, F, r, ?_⟩
  cases ef : f env with
  | no => simp only [ofB, andB, ef] at h ⊢; exact h
  | ex c ns ds e => simp only [ofB, andB, ef] at h ⊢; exact h
  | ok b e =>
    simp only [ofB, ef]
    intro v H' F' r' s'
    obtain ⟨F4, r4, s4⟩ := r'.drop
    have rr := r'.rep
    cases rr with
    | have_ hv _ =>
      cases hv
      refine ⟨b, rfl, ?_⟩
      cases b with
      | true =>
        rw [if_pos rfl]
        simp only [ofB, andB, ef] at h
        refine ⟨M0, e, F4, r4, ?_⟩
        have s5 := s'.trans (Stp.subl s4)
        cases eg : g e with
        | no => rw [eg] at h; simp only [ofB, eg]; exact h
        | ok b e2 => rw [eg] at h; simp only [ofB, eg]; exact fun u H2 F2 r2 s2 => h u H2 F2 r2 (s5.trans s2)
        | ex c ns ds e2 => rw [eg] at h; simp only [ofB, eg]; exact ExOk.trans h s5
      | false =>
        rw [if_neg (by decide)]
        simp only [ofB, andB, ef] at h
        exact h (.bl false) H' _ r' s'
theorem i_notV {f : Env → R Bool} {Q : VK} (h : tOf K C W (ofB (notB f)) σ H Q) : tNotV (tOf K C W (ofB f)) σ H Q := by
  obtain ⟨M0, env, F, r, h⟩ := h
  refine ⟨M0, env, F, r, ?_⟩
  cases ef : f env with
  | no => simp only [ofB, notB, ef] at h ⊢; exact h
  | ex c ns ds e => simp only [ofB, notB, ef] at h ⊢; exact h
  | ok b e =>
    simp only [ofB, notB, ef] at h ⊢
    intro v H' F' r' s'
    obtain ⟨F4, r4, s4⟩ := r'.drop
    have rr := r'.rep
    cases rr with
    | have_ hv _ => cases hv; exact ⟨b, rfl, h _ H' F4 (Rel.data r4 (.bl _)) (s'.trans (.subl s4))⟩
/-- a value that is a bool -/
theorem i_ofB {f : Env → R D} {Q : VK} (h : tOf K C W (ofB (asB f)) σ H Q) : tOf K C W f σ H Q := by
  obtain ⟨M0, env, F, r, h⟩ := h
  refine ⟨M0, env, F, r, ?_⟩
  cases ef : f env with
  | no => simp only [ofB, asB, ef] at h ⊢; exact h
  | ex c ns ds e => simp only [ofB, asB, ef] at h ⊢; exact h
  | ok d e =>
    cases d with
    | bl b => simp only [ofB, asB, ef] at h ⊢; exact h
    | _ => simp only [ofB, asB, ef] at h ⊢; exact h.elim
def ifE (c : Env → R Bool) (f g : Env → R D) : Env → R D := fun env => match c env with
  | .ok true e => f e
  | .ok false e => g e
  | .ex c ns vs e => .ex c ns vs e
  | .no => .no
/-! ### statements -/
theorem okS_trans {E : Ends} {o : Out} (h : okS K C W kp M0 σ F H E o) (s : Stp F H F' H') (k : Kp kp σ σ') : okS K C W kp M0 σ' F' H' E o := by
  have kt : ∀ {τ}, Kp kp σ' τ → Kp kp σ τ := fun x i hi => (x i hi).trans (k i hi)
  cases o with
  | nx e => exact fun σ2 H2 F2 r2 s2 k2 => h σ2 H2 F2 r2 (s.trans s2) (kt k2)
  | rt d e => exact fun v σ2 H2 F2 r2 s2 k2 => h v σ2 H2 F2 r2 (s.trans s2) (kt k2)
  | bk e => exact fun σ2 H2 F2 r2 s2 k2 => h σ2 H2 F2 r2 (s.trans s2) (kt k2)
  | ct e => exact fun σ2 H2 F2 r2 s2 k2 => h σ2 H2 F2 r2 (s.trans s2) (kt k2)
  | ex c ns ds e => exact fun od vs σ2 H2 F2 r2 s2 k2 => h od vs σ2 H2 F2 r2 (s.trans s2) (kt k2)
  | no => exact h
theorem Kp.rfl : Kp kp σ σ := fun _ _ => Eq.refl _
theorem exS {E : Ends} {c : Nat} {ns : List Str} {ds : List D} (h : okS K C W kp M0 σ F H E (.ex c ns ds env)) : ExOk K C W M0 σ F H c ns ds env := fun od vs H' F' r s ho hl rl => h od vs σ H' F' r s Kp.rfl ho hl rl
theorem i_seq {f g : Env → Out} {E : Ends} (h : tS K C W kp (seqO f g) E σ H) : tSeq (tS K C W kp f) (tS K C W kp g) E σ H := by
  obtain ⟨M0, env, F, r, h⟩ := h
  refine ⟨M0, env, F, r, ?_⟩
  cases ef : f env with
  | nx e =>
    simp only [seqO, ef] at h
    exact fun σ' H' F' r' s' k' => ⟨M0, e, F', r', okS_trans h s' k'⟩
  | _ => simp only [seqO, ef] at h; exact h
theorem i_nil {E : Ends} (h : tS K C W kp nilO E σ H) : tNext E σ H := by
  obtain ⟨M0, env, F, r, h⟩ := h
  exact h σ H F r .refl Kp.rfl
theorem i_ret {f : Env → R D} {E : Ends} (h : tS K C W kp (retO f) E σ H) : tRet (tOf K C W f) E σ H := by
  obtain ⟨M0, env, F, r, h⟩ := h
  refine ⟨M0, env, F, r, ?_⟩
  cases ef : f env with
  | no => simp only [retO, ef] at h; exact h
  | ex c ns ds e => simp only [retO, ef] at h; exact exS h
  | ok d e => simp only [retO, ef] at h; exact fun v H' F' r' s' => h v σ H' F' r' s' Kp.rfl
theorem i_drop {f : Env → R D} {E : Ends} (h : tS K C W kp (dropO f) E σ H) : tDrop (tOf K C W f) E σ H := by
  obtain ⟨M0, env, F, r, h⟩ := h
  refine ⟨M0, env, F, r, ?_⟩
  cases ef : f env with
  | no => simp only [dropO, ef] at h; exact h
  | ex c ns ds e => simp only [dropO, ef] at h; exact exS h
  | ok d e =>
    simp only [dropO, ef] at h
    intro v H' F' r' s'
    obtain ⟨F4, r4, s4⟩ := r'.drop
    exact h σ H' F4 r4 (s'.trans (.subl s4)) Kp.rfl
theorem i_if {c : Env → R Bool} {f g : Env → Out} {E : Ends} (h : tS K C W kp (ifO c f g) E σ H) : tIfS (ttOf K C W c) (tS K C W kp f) (tS K C W kp g) E σ H := by
  obtain ⟨M0, env, F, r, h⟩ := h
  refine ⟨M0, env, F, r, ?_⟩
  cases ef : c env with
  | no => simp only [ifO, ef] at h; exact h
  | ex c ns ds e => simp only [ifO, ef] at h; exact exS h
  | ok b e =>
    intro H' F' r' s'
    cases b with
    | true => simp only [ifO, ef] at h; rw [if_pos rfl]; exact ⟨M0, e, F', r', okS_trans h s' Kp.rfl⟩
    | false => simp only [ifO, ef] at h; rw [if_neg (by decide)]; exact ⟨M0, e, F', r', okS_trans h s' Kp.rfl⟩
def bkO : Env → Out := fun env => .bk env
def ctO : Env → Out := fun env => .ct env
theorem i_asg {f : Env → R D} {g : D → Env → Option Env} {E : Ends} (h : tS K C W kp (asgO f g) E σ H) : tAsg (tOf K C W f) (gOf K C kp g) E σ H := by
  obtain ⟨M0, env, F, r, h⟩ := h
  refine ⟨M0, env, F, r, ?_⟩
  cases ef : f env with
  | no => simp only [asgO, ef] at h; exact h
  | ex c ns ds e => simp only [asgO, ef] at h; exact exS h
  | ok d e =>
    intro v H' F' r' s'
    cases eg : g d e with
    | none => simp only [asgO, ef, eg] at h; exact h.elim
    | some e2 =>
      simp only [asgO, ef, eg] at h
      exact ⟨M0, d, e, F', e2, r', eg, fun σ2 H2 F2 r2 s2 k2 => h σ2 H2 F2 r2 (s'.trans s2) k2⟩
/-! targets -/
def setG (i : Nat) : D → Env → Option Env := fun d env => if i < env.length then some (env.set i (some d)) else none
theorem i_setG {i : Nat} {Q : L2.St → Hp → Prop} (hk : i ∉ kp) (h : gOf K C kp (setG i) v σ H Q) : gName i v σ H Q := by
  obtain ⟨M0, d, env, F, e, r, eg, h⟩ := h
  unfold setG at eg
  by_cases hi : i < env.length
  · rw [if_pos hi] at eg
    obtain rfl := Option.some.inj eg
    obtain ⟨F', r', s'⟩ := r.store hi
    refine h _ H F' r' (.sub s') fun j hj => ?_
    rw [List.getElem?_set_ne]
    rintro rfl
    exact hk hj
  · rw [if_neg hi] at eg; cases eg
theorem RepL.toO {M : Addr → Prop} : ∀ {vs : List V} {ds : List D} {F : List Addr}, RepL K C M H vs ds F → RepO K C M H (vs.map some) (ds.map some) F
  | _, _, _, .nil => .nil
  | _, _, _, .cons h t => .have_ h t.toO
/-- a tuple on top is taken apart -/
theorem Rel.untup {ds : List D} (r : Rel K C M0 H (some v :: σ) (some (.tup ds) :: env) F) : ∃ a vs, v = .ref a ∧ SqT K H a vs ∧ vs.length = ds.length ∧ Rel K C M0 H (vs.map some ++ σ) (ds.map some ++ env) F := by
  obtain ⟨rep, nd, dj, al, zd⟩ := r
  cases rep with
  | have_ hv t =>
    cases hv with
    | tup h2 t2 => exact ⟨_, _, rfl, .inl (.inl (hide_le _ _ h2)), t2.length, t2.toO.app t, nd, dj, al, zd⟩
/-- upper slots are put aside -/
theorem Rel.pops {σ1 σ2 : List (Option V)} {e1 e2 : Env} (r : Rel K C M0 H (σ1 ++ σ2) (e1 ++ e2) F) (l : σ1.length = e1.length) : ∃ F1 F2, F = F1 ++ F2 ∧ RepO K C (orF M0 F) H σ1 e1 F1 ∧ Rel K C (orF M0 F1) H σ2 e2 F2 := by
  obtain ⟨rep, nd, dj, al, zd⟩ := r
  obtain ⟨F1, F2, rfl, a, b⟩ := RepO.split l rep
  have nd' := List.nodup_append.mp nd
  refine ⟨F1, F2, rfl, a, ⟨by rw [orF_app]; exact b, nd'.2.1, fun b hb z => ?_, fun b' z => ?_, by rw [orF_app]; exact zd⟩⟩
  · rcases z with z | z
    · exact dj b (List.mem_append_right _ hb) z
    · exact nd'.2.2 b z b hb rfl
  · rcases z with z | z
    · exact al b' z
    · exact repO_alive a b' z
theorem Rel.backs {σ1 σ2 : List (Option V)} {e1 e2 : Env} {τ : List (Option V)} {ε : Env} (r : Rel K C M0 H τ ε F) (F1 F2 : List Addr) (eF : F = F1 ++ F2) (h : RepO K C (orF M0 F) H σ1 e1 F1) (r2 : Rel K C (orF M0 F1) H' σ2 e2 F') (s : Stp F2 H F' H') :
    Rel K C M0 H' (σ1 ++ σ2) (e1 ++ e2) (F1 ++ F') ∧ Stp F H (F1 ++ F') H' := by
  subst eF
  have nd := r.nd
  rw [List.nodup_append] at nd
  have k1 : ∀ b ∈ F1, ∀ o, H b = some o → H' b = some o := fun b hb o e => s.keep b o (fun z => nd.2.2 b hb b z rfl) e
  have h1 : RepO K C (orF M0 (F1 ++ F')) H' σ1 e1 F1 := by
    refine repO_mono ?_ h k1
    rw [← orF_app, ← orF_app]
    refine Stp.hide s fun b hb z => ?_
    rcases z with z | z
    · exact r.dj b (List.mem_append_right _ hb) z
    · exact nd.2.2 b z b hb rfl
  have h2 := r2.rep
  rw [orF_app] at h2
  have zz := r2.zd
  rw [orF_app] at zz
  refine ⟨⟨h1.app h2, List.nodup_append.mpr ⟨nd.1, r2.nd, fun a ha b hb e => r2.dj b hb (.inr (e ▸ ha))⟩, fun b hb z => ?_, fun b z => r2.al b (.inl z), zz⟩, ⟨fun b o n e => s.keep b o (fun z => n (List.mem_append_right _ z)) e, fun b hb => ?_⟩⟩
  · rcases List.mem_append.mp hb with q | q
    · exact r.dj b (List.mem_append_left _ q) z
    · exact r2.dj b q (.inl z)
  · rcases List.mem_append.mp hb with q | q
    · exact .inl (List.mem_append_left _ q)
    · exact (s.new b q).imp (List.mem_append_right _) id
/-- one value and a list of values change places -/
theorem Rel.swap {σ1 σ2 : List (Option V)} {e1 e2 : Env} {x : Option V} {y : Option D} (r : Rel K C M0 H (x :: (σ1 ++ σ2)) (y :: (e1 ++ e2)) F) (l : σ1.length = e1.length) : ∃ F', Rel K C M0 H (σ1 ++ (x :: σ2)) (e1 ++ (y :: e2)) F' ∧ ∀ b, b ∈ F' ↔ b ∈ F := by
  obtain ⟨rep, nd, dj, al, zd⟩ := r
  have rep : RepO K C (orF M0 F) H ([x] ++ (σ1 ++ σ2)) ([y] ++ (e1 ++ e2)) F := rep
  obtain ⟨F1, F2, rfl, a, b⟩ := RepO.split (by rfl) rep
  obtain ⟨F3, F4, rfl, b, c⟩ := RepO.split l b
  have m : ∀ b, b ∈ F3 ++ (F1 ++ F4) ↔ b ∈ F1 ++ (F3 ++ F4) := fun b => by simp only [List.mem_append]; exact ⟨fun h => by rcases h with h | h | h <;> simp [h], fun h => by rcases h with h | h | h <;> simp [h]⟩
  refine ⟨F3 ++ (F1 ++ F4), ⟨?_, nodup_mid nd, fun b hb => dj b ((m b).mp hb), al, by rw [orF_mid]; exact zd⟩, m⟩
  rw [orF_mid]
  exact b.app (a.app c)
def gsOf (K : PySem.W.Frag) (C : CT) (kp : List Nat) (g : List D → Env → Option Env) : TGs := fun vs σ H Q => ∃ M0 ds env F e, Rel K C M0 H (vs.map some ++ σ) (ds.map some ++ env) F ∧ vs.length = ds.length ∧ g ds env = some e ∧ ∀ σ' H' F', Rel K C M0 H' σ' e F' → Stp F H F' H' → Kp kp σ σ' → Q σ' H'
def nilG : List D → Env → Option Env := fun ds env => match ds with | [] => some env | _ => none
def consG (g : D → Env → Option Env) (k : List D → Env → Option Env) : List D → Env → Option Env := fun ds env => match ds with
  | d :: ds => (g d env).bind fun e => k ds e
  | [] => none
/-- the items of a tuple -/
def tupG (n : Nat) (g : List D → Env → Option Env) : D → Env → Option Env := fun d env => match d with
  | .tup ds => if ds.length = n then g ds env else none
  | _ => none
theorem i_nilG {vs : List V} {Q : L2.St → Hp → Prop} (h : gsOf K C kp nilG vs σ H Q) : gNil vs σ H Q := by
  obtain ⟨M0, ds, env, F, e, r, l, eg, h⟩ := h
  unfold nilG at eg
  cases ds with
  | nil =>
    obtain rfl := Option.some.inj eg
    obtain rfl : vs = [] := List.length_eq_zero_iff.mp l
    exact ⟨rfl, h σ H F r .refl Kp.rfl⟩
  | cons a b => cases eg
theorem i_consG {g : D → Env → Option Env} {k : List D → Env → Option Env} {vs : List V} {Q : L2.St → Hp → Prop} (h : gsOf K C kp (consG g k) vs σ H Q) : gCons (gOf K C kp g) (gsOf K C kp k) vs σ H Q := by
  obtain ⟨M0, ds, env, F, e, r, l, eg, h⟩ := h
  cases ds with
  | nil => cases eg
  | cons d ds =>
    cases vs with
    | nil => cases l
    | cons v vs =>
      cases e1 : g d env with
      | none => simp only [consG, e1, Option.bind_none] at eg; cases eg
      | some e2 =>
        simp only [consG, e1, Option.bind_some] at eg
        have l' : vs.length = ds.length := by simpa using l
        have lm : (vs.map some).length = (ds.map some).length := by simp [l']
        refine ⟨v, vs, rfl, ?_⟩
        obtain ⟨F0, r0, m0⟩ := Rel.swap (σ1 := vs.map some) (e1 := ds.map some) r lm
        obtain ⟨G1, G2, eG, hv, r2⟩ := Rel.pops r0 lm
        refine ⟨orF M0 G1, d, env, G2, e2, r2, e1, fun σ' H' F' r3 s3 k3 => ?_⟩
        obtain ⟨r4, s4⟩ := Rel.backs r0 G1 G2 eG hv r3 s3
        have s0 : Stp F H F0 H := .sub fun b hb => (m0 b).mp hb
        exact ⟨M0, ds, e2, _, e, r4, l', eg, fun σ2 H2 F2 r5 s5 k5 => h σ2 H2 F2 r5 ((s0.trans s4).trans s5) fun i hi => (k5 i hi).trans (k3 i hi)⟩
theorem i_tupG {n : Nat} {g : List D → Env → Option Env} {Q : L2.St → Hp → Prop} (h : gOf K C kp (tupG n g) v σ H Q) : gTup K n (gsOf K C kp g) v σ H Q := by
  obtain ⟨M0, d, env, F, e, r, eg, h⟩ := h
  unfold tupG at eg
  split at eg
  · rename_i ds
    split at eg
    · rename_i hn
      obtain ⟨a, vs, rfl, hs, lv, r1⟩ := r.untup
      exact ⟨a, vs, rfl, hs, lv.trans hn, M0, ds, env, F, e, r1, lv, eg, h⟩
    · cases eg
  · cases eg
/-! ### arguments, calls -/
theorem i_args0 {Q : List V → Hp → Prop} (h : aOf K C W args0 [] σ H Q) : tNil σ H Q := by
  obtain ⟨M0, env, F, r, h⟩ := h
  exact h [] H F r .refl rfl fun _ hq => by cases hq
theorem i_argV {f : Env → R D} {g : Env → R (List D)} {lk : List (Nat × Nat)} {Q : List V → Hp → Prop} (h : aOf K C W (argV f g) (lkV lk) σ H Q) : tCons (tOf K C W f) (aOf K C W g lk) σ H Q := by
  obtain ⟨M0, env, F, r, h⟩ := h
  refine ⟨M0, env, F, r, ?_⟩
  cases ef : f env with
  | no => simp only [argV, ef, R.bind] at h; exact h
  | ex c ns ds e => simp only [argV, ef, R.bind] at h; exact h
  | ok d e =>
    intro v H1 F1 r1 s1
    obtain ⟨G1, G2, eG, hv, r2⟩ := r1.pop
    refine ⟨orF M0 G1, e, G2, r2, ?_⟩
    cases eg : g e with
    | no => simp only [argV, ef, eg, R.bind] at h; exact h
    | ex c ns ds e2 => simp only [argV, ef, eg, R.bind] at h; subst eG; exact ExOk.lift h s1
    | ok ds e2 =>
      simp only [argV, ef, eg, R.bind] at h
      intro vs H2 F2 r3 s3 l3 k3
      obtain ⟨r4, s4⟩ := Rel.back r1 G1 G2 eG hv r3 s3
      refine h (v :: vs) H2 _ r4 (s1.trans s4) (by simp [l3]) fun q hq => ?_
      obtain ⟨q', hq', rfl⟩ := List.mem_map.mp hq
      obtain ⟨u, h1, h2⟩ := k3 q' hq'
      exact ⟨u, by simpa using h1, h2⟩
theorem i_argR {i : Nat} {g : Env → R (List D)} {lk : List (Nat × Nat)} {Q : List V → Hp → Prop} (h : aOf K C W (argR i g) ((0, i) :: lkV lk) σ H Q) : tCons (tVar i) (aOf K C W g lk) σ H Q := by
  obtain ⟨M0, env, F, r, h⟩ := h
  rcases ed : env[i]? with _ | _ | d
  · simp only [argR, ed] at h; exact h.elim
  · simp only [argR, ed] at h; exact h.elim
  obtain ⟨v, F1, hσ, r1, s1⟩ := r.take ed
  refine ⟨v, hσ, ?_⟩
  obtain ⟨G1, G2, eG, hv, r2⟩ := r1.pop
  refine ⟨orF M0 G1, _, G2, r2, ?_⟩
  have s1' : Stp F H F1 H := .sub s1
  cases eg : g (env.set i none) with
  | no => simp only [argR, ed, eg, R.bind] at h; exact h
  | ex c ns ds e2 => simp only [argR, ed, eg, R.bind] at h; subst eG; exact ExOk.lift h s1'
  | ok ds e2 =>
    simp only [argR, ed, eg, R.bind] at h
    intro vs H2 F2 r3 s3 l3 k3
    obtain ⟨r4, s4⟩ := Rel.back r1 G1 G2 eG hv r3 s3
    refine h (v :: vs) H2 _ r4 (s1'.trans s4) (by simp [l3]) fun q hq => ?_
    rcases List.mem_cons.mp hq with rfl | hq
    · exact ⟨v, rfl, hσ⟩
    · obtain ⟨q', hq', rfl⟩ := List.mem_map.mp hq
      obtain ⟨u, h1, h2⟩ := k3 q' hq'
      exact ⟨u, by simpa using h1, h2⟩
/-- a def by its pure run -/
structure Pure (n : Nat) (run : List D → R D) : Prop where
  len : ∀ ds, (∀ r outs, run ds = .ok r outs → outs.length = n) ∧ ∀ c ns xs outs, run ds = .ex c ns xs outs → outs.length = n
theorem Pure.defF {n l : Nat} {body : Env → Out} : Pure n (J.defF n kp l body) := ⟨fun _ => defF_outs⟩
theorem i_call {n : Nat} {run : List D → R D} {af : Env → R (List D)} {lk : List (Nat × Nat)} {Q : VK} (P : Pure n run) (hn : ∀ env ds e, af env = .ok ds e → ds.length = n) (h : tOf K C W (callF run lk af) σ H Q) : tCallSD (spP K C n run) [] W (aOf K C W af lk) σ H Q := by
  obtain ⟨M0, env, F, r, h⟩ := h
  refine ⟨M0, env, F, r, ?_⟩
  cases ef : af env with
  | no => simp only [callF, ef, R.bind] at h; exact h
  | ex c ns ds e => simp only [callF, ef, R.bind] at h; exact h
  | ok ds e =>
    simp only [callF, ef, R.bind] at h
    intro vs H1 F1 r1 s1 l1 k1
    rw [List.append_nil]
    refine call_core r1 l1 (hn _ _ _ ef) k1 (P.len ds).1 (P.len ds).2 ?_
    cases er : run ds with
    | no => rw [er] at h; exact h
    | ok x outs => rw [er] at h; exact fun u H2 F2 r2 s2 => h u H2 F2 r2 (s1.trans s2)
    | ex c ns xs outs => rw [er] at h; exact ExOk.trans h s1
end
end J
/-! What is walked; for, while, list comprehensions. -/
namespace J
open PySem L2 PySem.Spec PyProof.Rows
section
variable {K : PySem.W.Frag} {C : CT} {W : Wish} {kp : List Nat} {M0 : Addr → Prop} {H H' H2 : Hp} {σ σ' : L2.St} {env env' : Env} {F F' F1 F2 G : List Addr} {v w : V} {d e : D}
/-- J walks the items ds, wherever the data of (F0, H0) stand -/
def Walks (K : PySem.W.Frag) (C : CT) (J : It) (M0 : Addr → Prop) (F0 : List Addr) (H0 : Hp) (ds : List D) : Prop :=
  ∀ (i : Nat) (M1 : Addr → Prop) (σ : L2.St) (env : Env) (F : List Addr) (H : Hp), Rel K C M1 H σ env F → Same (hide (orF M0 F0) H0) (hide (orF M1 F) H) → (i < ds.length → J.go i H) ∧ (ds.length = i → J.stop i H) ∧
    ∀ x H', J.yld i H x H' → i < ds.length → ∃ d F', ds[i]? = some d ∧ Rel K C M1 H' (some x :: σ) (some d :: env) F' ∧ Stp F H F' H'
variable (K C W)
def okI (M0 : Addr → Prop) (σ : L2.St) (F : List Addr) (H : Hp) (Q : It → Hp → Prop) : R (List D) → Prop
  | .ok ds e => ∀ J H' F', Rel K C M0 H' σ e F' → Stp F H F' H' → Walks K C J M0 F' H' ds → Q J H'
  | .ex c ns ds e => ExOk K C W M0 σ F H c ns ds e
  | .no => False
def iOf (f : Env → R (List D)) : TI := fun σ H Q => ∃ M0 env F, Rel K C M0 H σ env F ∧ okI K C W M0 σ F H Q (f env)
variable {K C W}
/-- data stay data -/
theorem Rep.data (h : Rep K C (orF M0 F) H v d []) (r : Rel K C M0 H σ env F) (s : Stp F H F' H') : Rep K C (orF M0 F') H' v d [] :=
  rep_mono (Stp.hide s r.dj) h fun _ hb => absurd hb List.not_mem_nil
theorem RepL.data {vs : List V} {ds : List D} (h : RepL K C (orF M0 F) H vs ds []) (r : Rel K C M0 H σ env F) (s : Stp F H F' H') : RepL K C (orF M0 F') H' vs ds [] :=
  repL_mono (Stp.hide s r.dj) h fun _ hb => absurd hb List.not_mem_nil
/-- data on top, read -/
theorem Rel.dataTop (r : Rel K C M0 H (some v :: σ) (some d.fz :: env) F) : ∃ F', Rel K C M0 H σ env F' ∧ F'.Sublist F ∧ Rep K C (orF M0 F') H v d.fz [] := by
  have rr := r.rep
  cases rr with
  | have_ hv t =>
    rename_i F1 F2
    obtain ⟨rfl, _⟩ := fz_noOwn hv (Rel.dup.noOwn_fz d)
    have rd := r.drop
    obtain ⟨F', r', s'⟩ := rd
    exact ⟨F', r', s', rep_mono (hide_mono (.refl _) fun b z => .inl (z.imp id fun q => s'.subset q)) hv fun _ hb => absurd hb List.not_mem_nil⟩
/-- a list that is data, or was owned and is data from now on -/
def lstI (f : Env → R D) : Env → R (List D) := fun env => match f env with
  | .ok (.lst _ xs) e => .ok (D.fzL xs) e
  | .ex c ns vs e => .ex c ns vs e
  | _ => .no
theorem i_lstI {f : Env → R D} {Q : It → Hp → Prop} (h : iOf K C W (lstI f) σ H Q) : iList K (tOf K C W f) σ H Q := by
  obtain ⟨M0, env, F, r, h⟩ := h
  refine ⟨M0, env, F, r, ?_⟩
  cases ef : f env with
  | no => simp only [lstI, ef] at h; exact h
  | ex c ns ds e => simp only [lstI, ef] at h; exact h
  | ok d e =>
    cases d with
    | lst o xs =>
      simp only [lstI, ef] at h
      intro v H1 F1 r1 s1
      obtain ⟨F2, r2, s2⟩ := r1.fz
      obtain ⟨F3, r3, s3, hv⟩ := r2.dataTop
      have s03 := s1.trans (.sub fun b hb => s2.subset (s3.subset hb))
      have hv' : Rep K C (orF M0 F3) H1 v (.lst false (D.fzL xs)) [] := hv
      cases hv' with
      | lst hs hF t =>
        rename_i a vs
        have hs : SqL K (_root_.J.hide (orF M0 F3) H1) a vs := .of hs
        refine ⟨a, rfl, ⟨vs, SqL.mono hide_le hs⟩, h _ H1 F3 r3 s03 fun i M1 σ' env' F' H' r' hd => ?_⟩
        have hs' : SqL K H' a vs := SqL.mono hide_le (sqL_hide hd hs)
        have t' := repL_mono (M' := orF M1 F') (H' := H') hd t fun _ hb => absurd hb List.not_mem_nil
        refine ⟨fun hi => ⟨vs, vs[i]'(by rw [t.length]; exact hi), hs', List.getElem?_eq_getElem _⟩, fun hi => ⟨vs, hs', by rw [t.length]; exact Nat.le_of_eq hi⟩, fun x H'' y hi => ?_⟩
        obtain ⟨rfl, y⟩ := y
        obtain ⟨u, G, e1, e2, e3⟩ := t'.get (i := i) (d := (D.fzL xs)[i]) (List.getElem?_eq_getElem hi)
        have := y vs hs'
        rw [e1] at this
        obtain rfl := Option.some.inj this
        obtain rfl : G = [] := List.eq_nil_iff_forall_not_mem.mpr fun b hb => absurd (e3 b hb) List.not_mem_nil
        exact ⟨_, F', List.getElem?_eq_getElem hi, Rel.data r' e2, .refl⟩
    | _ => simp only [lstI, ef] at h; exact h.elim
/-- the items of a tuple -/
def tupI (f : Env → R D) : Env → R (List D) := fun env => match f env with
  | .ok (.tup xs) e => .ok (D.fzL xs) e
  | .ex c ns vs e => .ex c ns vs e
  | _ => .no
theorem i_tupI {f : Env → R D} {Q : It → Hp → Prop} (h : iOf K C W (tupI f) σ H Q) : iTup K (tOf K C W f) σ H Q := by
  obtain ⟨M0, env, F, r, h⟩ := h
  refine ⟨M0, env, F, r, ?_⟩
  cases ef : f env with
  | no => simp only [tupI, ef] at h; exact h
  | ex c ns ds e => simp only [tupI, ef] at h; exact h
  | ok d e =>
    cases d with
    | tup xs =>
      simp only [tupI, ef] at h
      intro v H1 F1 r1 s1
      obtain ⟨F2, r2, s2⟩ := r1.fz
      obtain ⟨F3, r3, s3, hv⟩ := r2.dataTop
      have s03 := s1.trans (.sub fun b hb => s2.subset (s3.subset hb))
      have hv' : Rep K C (orF M0 F3) H1 v (.tup (D.fzL xs)) [] := hv
      cases hv' with
      | tup hs t =>
        rename_i a vs
        have hs : SqT K (_root_.J.hide (orF M0 F3) H1) a vs := .inl (.inl hs)
        refine ⟨a, rfl, ⟨vs, SqT.mono hide_le hs⟩, h _ H1 F3 r3 s03 fun i M1 σ' env' F' H' r' hd => ?_⟩
        have hs' : SqT K H' a vs := SqT.mono hide_le (sqT_hide hd hs)
        have t' := repL_mono (M' := orF M1 F') (H' := H') hd t fun _ hb => absurd hb List.not_mem_nil
        refine ⟨fun hi => ⟨vs, vs[i]'(by rw [t.length]; exact hi), hs', List.getElem?_eq_getElem _⟩, fun hi => ⟨vs, hs', by rw [t.length]; exact Nat.le_of_eq hi⟩, fun x H'' y hi => ?_⟩
        obtain ⟨rfl, y⟩ := y
        obtain ⟨u, G, e1, e2, e3⟩ := t'.get (i := i) (d := (D.fzL xs)[i]) (List.getElem?_eq_getElem hi)
        have := y vs hs'
        rw [e1] at this
        obtain rfl := Option.some.inj this
        obtain rfl : G = [] := List.eq_nil_iff_forall_not_mem.mpr fun b hb => absurd (e3 b hb) List.not_mem_nil
        exact ⟨_, F', List.getElem?_eq_getElem hi, Rel.data r' e2, .refl⟩
    | _ => simp only [tupI, ef] at h; exact h.elim
/-- a new object that holds data: data itself -/
theorem Rel.newData {o : HO} {p : Addr} {x : D} (r : Rel K C M0 H σ env F) (np : H p = none) (h : ∀ M', (∀ b, M' b → orF M0 F b) → ¬ M' p → Rep K C M' (upd H p o) (.ref p) x []) : Rel K C M0 (upd H p o) (some (.ref p) :: σ) (some x :: env) F ∧ Stp F H F (upd H p o) := by
  have nF : p ∉ F := fun z => (repO_alive r.rep p z).ne np
  have nM : ¬ M0 p := fun z => (r.al p z).ne np
  refine ⟨Rel.data ⟨repO_mono (hide_mono (new_same np) fun b z => .inl z) r.rep fun b _ o e => new_same np b o e, r.nd, r.dj, fun b z => (r.al b z).same (new_same np), r.zd.mono (hide_mono (new_same np) fun b z => .inl z)⟩ (h _ (fun b z => z) fun z => z.elim nM nF), .same (new_same np) fun b hb => .inl hb⟩
/-- enumerate, of a list -/
def enumD (k : Int) (xs : List D) : List D := (List.range xs.length).map fun i => .tup [.int (k + (i : Nat)), xs.getD i .non]
def enumI (k : Int) (f : Env → R (List D)) : Env → R (List D) := fun env => match f env with
  | .ok [.lst _ xs] e => .ok (enumD k (D.fzL xs)) e
  | .ex c ns vs e => .ex c ns vs e
  | _ => .no
theorem enumD_length {k : Int} {xs : List D} : (enumD k xs).length = xs.length := by simp [enumD]
theorem enumD_get {k : Int} {xs : List D} {i : Nat} (h : i < xs.length) : (enumD k xs)[i]? = some (.tup [.int (k + (i : Nat)), xs[i]]) := by
  simp [enumD, h]
theorem enum_walks {k : Int} {xs : List D} {J : It} {a : Addr} {vs : List V} (r3 : Rel K C M0 H σ env F) (hs : SqL K (_root_.J.hide (orF M0 F) H) a vs) (t : RepL K C (orF M0 F) H vs xs [])
    (j1 : ∀ i H, (∃ (xs : List V) (x : V), SqL K H a xs ∧ xs[i]? = some x) → J.go i H) (j2 : ∀ i H, (∃ xs : List V, SqL K H a xs ∧ xs.length = i) → J.stop i H)
    (j3 : ∀ i H v H', J.yld i H v H' → (∃ xs : List V, SqL K H a xs ∧ i < xs.length) → ∃ T x, v = .ref T ∧ H T = none ∧ H' = upd H T (.tup [.int (k + (i : Nat)), x]) ∧ ∀ xs, SqL K H a xs → xs[i]? = some x) : Walks K C J M0 F H (enumD k xs) := by
  intro i M1 σ' env' F' H' r' hd
  have hs' : SqL K H' a vs := SqL.mono hide_le (sqL_hide hd hs)
  have t' := repL_mono (M' := orF M1 F') (H' := H') hd t fun _ hb => absurd hb List.not_mem_nil
  rw [enumD_length]
  refine ⟨fun hi => j1 _ _ ⟨vs, vs[i]'(by rw [t.length]; exact hi), hs', List.getElem?_eq_getElem _⟩, fun hi => j2 _ _ ⟨vs, hs', by rw [t.length]; exact hi⟩, fun x H'' y hi => ?_⟩
  obtain ⟨T, z, rfl, nT, rfl, y2⟩ := j3 _ _ _ _ y ⟨vs, hs', by rw [t.length]; exact hi⟩
  obtain ⟨u, G, e1, e2, e3⟩ := t'.get (i := i) (d := xs[i]) (List.getElem?_eq_getElem hi)
  have := y2 vs hs'
  rw [e1] at this
  obtain rfl := Option.some.inj this
  obtain rfl : G = [] := List.eq_nil_iff_forall_not_mem.mpr fun b hb => absurd (e3 b hb) List.not_mem_nil
  obtain ⟨r4, s4⟩ := Rel.newData (o := .tup [.int (k + (i : Nat)), u]) (x := .tup [.int (k + (i : Nat)), xs[i]]) r' nT fun M' hM nM => .tup (F := []) (by rw [hide_out nM, upd_same]) (.cons (F := []) (G := []) (.int _) (.cons (F := []) (G := []) (rep_mono (hide_mono (new_same nT) fun b z => .inl (hM b z)) e2 fun _ hb => absurd hb List.not_mem_nil) .nil))
  exact ⟨_, F', enumD_get hi, r4, s4⟩
theorem i_enumI {f : Env → R (List D)} {Q : It → Hp → Prop} (h : iOf K C W (enumI 0 f) σ H Q) : iEnum K (aOf K C W f []) σ H Q := by
  obtain ⟨M0, env, F, r, h⟩ := h
  refine ⟨M0, env, F, r, ?_⟩
  cases ef : f env with
  | no => simp only [enumI, ef] at h; exact h
  | ex c ns ds e => simp only [enumI, ef] at h; exact h
  | ok ds e =>
    unfold enumI at h
    rw [ef] at h
    split at h
    · rename_i o xs e' heq
      obtain ⟨rfl, rfl⟩ : ds = [.lst o xs] ∧ e = e' := by injection heq with a b; exact ⟨a, b⟩
      intro vs0 H1 F1 r1 s1 l1 k1
      obtain ⟨v, rfl⟩ : ∃ v, vs0 = [v] := List.length_eq_one_iff.mp l1
      obtain ⟨F2, r2, s2⟩ := Rel.fz (d := .lst o xs) r1
      obtain ⟨F3, r3, s3, hv⟩ := r2.dataTop
      have s03 := s1.trans (.sub fun b hb => s2.subset (s3.subset hb))
      have hv' : Rep K C (orF M0 F3) H1 v (.lst false (D.fzL xs)) [] := hv
      cases hv' with
      | lst hs hF t =>
        rename_i a vs
        have hs : SqL K (_root_.J.hide (orF M0 F3) H1) a vs := .of hs
        refine ⟨a, vs, rfl, SqL.mono hide_le hs, h _ H1 F3 r3 s03 (enum_walks (J := Ite K a) r3 hs t (fun i H z => z) (fun i H ⟨ys, h1, h2⟩ => ⟨ys, h1, Nat.le_of_eq h2⟩) fun i H v H' y _ => ?_)⟩
        obtain ⟨T, x, a, b, c, d⟩ := y
        exact ⟨T, x, a, b, by rw [Int.zero_add]; exact c, d⟩
    · rename_i heq; cases heq
    · exact h.elim
def rngD (lo : Int) (n : Nat) : List D := (List.range n).map fun i => .int (lo + (i : Nat))
theorem rng_walks {lo : Int} {n : Nat} : Walks K C (Itr lo n) M0 F H (rngD lo n) := by
  intro i M1 σ' env' F' H' r' hd
  have l : (rngD lo n).length = n := by simp [rngD]
  rw [l]
  refine ⟨fun hi => hi, fun hi => Nat.le_of_eq hi, fun x H'' y hi => ?_⟩
  obtain ⟨rfl, rfl⟩ := y
  exact ⟨.int (lo + i), F', by simp [rngD, hi], Rel.data r' (.int _), .refl⟩
def rng1I (f : Env → R (List D)) : Env → R (List D) := fun env => match f env with
  | .ok [.int j] e => if -(2 ^ 62) ≤ j ∧ j < 2 ^ 62 then .ok (rngD 0 j.toNat) e else .no
  | .ex c ns vs e => .ex c ns vs e
  | _ => .no
def rng2I (f : Env → R (List D)) : Env → R (List D) := fun env => match f env with
  | .ok [.int i, .int j] e => if -(2 ^ 62) ≤ i ∧ i < 2 ^ 62 ∧ -(2 ^ 62) ≤ j ∧ j < 2 ^ 62 then .ok (rngD i (j - i).toNat) e else .no
  | .ex c ns vs e => .ex c ns vs e
  | _ => .no
theorem i_rng2I {f : Env → R (List D)} {Q : It → Hp → Prop} (h : iOf K C W (rng2I f) σ H Q) : iRng2 (aOf K C W f []) σ H Q := by
  obtain ⟨M0, env, F, r, h⟩ := h
  refine ⟨M0, env, F, r, ?_⟩
  unfold rng2I at h
  split at h
  · rename_i i j e ef
    rw [ef]
    split at h
    · rename_i hj
      intro vs0 H1 F1 r1 s1 l1 k1
      obtain ⟨v, w, rfl⟩ : ∃ v w, vs0 = [v, w] := by
        match vs0, l1 with | [v, w], _ => exact ⟨v, w, rfl⟩
      obtain ⟨F2, r2, s2⟩ := Rel.drop r1
      obtain ⟨F3, r3, s3⟩ := Rel.drop r2
      have rr := r1.rep
      cases rr with
      | have_ hv t =>
        cases t with
        | have_ hw _ =>
        cases hv
        cases hw
        exact ⟨i, j, rfl, hj, h _ H1 F3 r3 (s1.trans (.sub fun b hb => s2.subset (s3.subset hb))) rng_walks⟩
    · exact h.elim
  · rename_i ef; rw [ef]; exact h
  · exact h.elim
/-- zip of two lists -/
def zipD (xs ys : List D) : List D := List.zipWith (fun x y => .tup [x, y]) xs ys
/-! ### for -/
def forL (g : D → Env → Option Env) (b : Env → Out) : List D → Env → Out
  | [], e => .nx e
  | d :: ds, e => match g d e with
    | none => .no
    | some e1 => match b e1 with
      | .nx e2 => forL g b ds e2
      | .ct e2 => forL g b ds e2
      | .bk e2 => .nx e2
      | o => o
def forO (it : Env → R (List D)) (g : D → Env → Option Env) (b : Env → Out) : Env → Out := fun env => match it env with
  | .ok ds e => forL g b ds e
  | .ex c ns vs e => .ex c ns vs e
  | .no => .no
theorem i_for0 {it : Env → R (List D)} {g : D → Env → Option Env} {b : Env → Out} {E : Ends} (h : okS K C W kp M0 σ F H E (forO it g b env)) : tFor (fun σ H R => okI K C W M0 σ F H R (it env)) (gOf K C kp g) (tS K C W kp b) E σ H := by
  show okI K C W M0 σ F H _ (it env)
  cases ef : it env with
  | no => simp only [forO, ef] at h; exact h
  | ex c ns ds e => simp only [forO, ef] at h; exact exS h
  | ok ds e =>
    simp only [forO, ef] at h
    intro J H1 F1 r1 s1 wk
    have h := okS_trans h s1 Kp.rfl
    -- the rest of the loop does the same
    refine ⟨fun i m σ' H' => m = ds.length - i ∧ i ≤ ds.length ∧ ∃ e' F', Rel K C M0 H' σ' e' F' ∧ Stp F1 H1 F' H' ∧ Kp kp σ σ' ∧ okS K C W kp M0 σ' F' H' E (forL g b (ds.drop i) e'), ⟨ds.length, by simp, Nat.zero_le _, e, F1, r1, .refl, Kp.rfl, h⟩, ?_⟩
    rintro i m σ' H' ⟨rfl, hi, e', F', r', s', k', ho⟩
    obtain ⟨wgo, wst, wy⟩ := wk i M0 σ' e' F' H' r' (Stp.hide s' r1.dj)
    rcases Nat.lt_or_ge i ds.length with lt | ge
    · refine .inr ⟨wgo lt, fun σ2 H2 => ∃ e2 F2, Rel K C M0 H2 σ2 e2 F2 ∧ Stp F1 H1 F2 H2 ∧ Kp kp σ σ2 ∧ okS K C W kp M0 σ2 F2 H2 E (forL g b (ds.drop (i + 1)) e2), fun σ2 H2 z => ⟨ds.length - (i + 1), by omega, rfl, lt, z⟩, fun x H2 y => ?_⟩
      obtain ⟨d, F2, ed, r2, s2⟩ := wy x H2 y lt
      have edr : ds.drop i = d :: ds.drop (i + 1) := by
        rw [List.drop_eq_getElem_cons lt]
        rw [List.getElem?_eq_getElem lt] at ed
        rw [Option.some.inj ed]
      rw [edr] at ho
      cases eg : g d e' with
      | none => simp only [forL, eg] at ho; exact ho.elim
      | some e3 =>
        simp only [forL, eg] at ho
        refine ⟨M0, d, e', F2, e3, r2, eg, fun σ3 H3 F3 r3 s3 k3 => ⟨M0, e3, F3, r3, ?_⟩⟩
        have s23 := s2.trans s3
        have s13 := s'.trans s23
        have kk : Kp kp σ σ3 := fun j hj => (k3 j hj).trans (k' j hj)
        cases eb : b e3 with
        | nx e4 =>
          simp only [eb] at ho
          exact fun σ4 H4 F4 r4 s4 k4 => ⟨e4, F4, r4, s13.trans s4, fun j hj => (k4 j hj).trans (kk j hj), okS_trans ho (s23.trans s4) fun j hj => (k4 j hj).trans (k3 j hj)⟩
        | ct e4 =>
          simp only [eb] at ho
          exact fun σ4 H4 F4 r4 s4 k4 => ⟨e4, F4, r4, s13.trans s4, fun j hj => (k4 j hj).trans (kk j hj), okS_trans ho (s23.trans s4) fun j hj => (k4 j hj).trans (k3 j hj)⟩
        | bk e4 =>
          simp only [eb] at ho
          exact fun σ4 H4 F4 r4 s4 k4 => ho σ4 H4 F4 r4 (s23.trans s4) fun j hj => (k4 j hj).trans (k3 j hj)
        | rt x e4 =>
          simp only [eb] at ho
          exact fun v σ4 H4 F4 r4 s4 k4 => ho v σ4 H4 F4 r4 (s23.trans s4) fun j hj => (k4 j hj).trans (k3 j hj)
        | ex c ns xs e4 =>
          simp only [eb] at ho
          exact fun od vs σ4 H4 F4 r4 s4 k4 => ho od vs σ4 H4 F4 r4 (s23.trans s4) fun j hj => (k4 j hj).trans (k3 j hj)
        | no => simp only [eb] at ho; exact ho.elim
    · obtain rfl : i = ds.length := Nat.le_antisymm hi ge
      rw [List.drop_length] at ho
      exact .inl ⟨wst rfl, ho σ' H' F' r' .refl Kp.rfl⟩
theorem i_for {it : Env → R (List D)} {g : D → Env → Option Env} {b : Env → Out} {E : Ends} (h : tS K C W kp (forO it g b) E σ H) : tFor (iOf K C W it) (gOf K C kp g) (tS K C W kp b) E σ H := by
  obtain ⟨M0, env, F, r, h⟩ := h
  exact ⟨M0, env, F, r, i_for0 h⟩
/-! ### while -/
def whileL (c : Env → R Bool) (b : Env → Out) : Nat → Env → Out
  | 0, _ => .no
  | n + 1, e => match c e with
    | .ok true e1 => (match b e1 with
      | .nx e2 => whileL c b n e2
      | .ct e2 => whileL c b n e2
      | .bk e2 => .nx e2
      | o => o)
    | .ok false e1 => .nx e1
    | .ex c ns vs e => .ex c ns vs e
    | .no => .no
theorem i_while {n : Nat} {c : Env → R Bool} {b : Env → Out} {E : Ends} (h : tS K C W kp (whileL c b n) E σ H) : tWhile (ttOf K C W c) (tS K C W kp b) E σ H := by
  obtain ⟨M0, env, F, r, h⟩ := h
  refine ⟨fun m σ' H' => ∃ e' F', Rel K C M0 H' σ' e' F' ∧ Kp kp σ σ' ∧ okS K C W kp M0 σ' F' H' E (whileL c b m e'), ⟨n, env, F, r, Kp.rfl, h⟩, ?_⟩
  rintro m σ' H' ⟨e', F', r', k', ho⟩
  cases m with
  | zero => exact ho.elim
  | succ m =>
    refine ⟨M0, e', F', r', ?_⟩
    cases ec : c e' with
    | no => simp only [whileL, ec] at ho; exact ho
    | ex c ns ds e => simp only [whileL, ec] at ho; exact exS ho
    | ok t e1 =>
      intro H1 F1 r1 s1
      cases t with
      | false =>
        simp only [whileL, ec] at ho
        rw [if_neg (by decide)]
        exact ho σ' H1 F1 r1 s1 Kp.rfl
      | true =>
        simp only [whileL, ec] at ho
        rw [if_pos rfl]
        refine ⟨fun σ2 H2 => ∃ e2 F2, Rel K C M0 H2 σ2 e2 F2 ∧ Kp kp σ σ2 ∧ okS K C W kp M0 σ2 F2 H2 E (whileL c b m e2), fun σ2 H2 z => ⟨m, Nat.lt_succ_self _, z⟩, M0, e1, F1, r1, ?_⟩
        cases eb : b e1 with
        | nx e4 =>
          simp only [eb] at ho
          exact fun σ4 H4 F4 r4 s4 k4 => ⟨e4, F4, r4, fun j hj => (k4 j hj).trans (k' j hj), okS_trans ho (s1.trans s4) k4⟩
        | ct e4 =>
          simp only [eb] at ho
          exact fun σ4 H4 F4 r4 s4 k4 => ⟨e4, F4, r4, fun j hj => (k4 j hj).trans (k' j hj), okS_trans ho (s1.trans s4) k4⟩
        | bk e4 =>
          simp only [eb] at ho
          exact fun σ4 H4 F4 r4 s4 k4 => ho σ4 H4 F4 r4 (s1.trans s4) k4
        | rt x e4 =>
          simp only [eb] at ho
          exact fun v σ4 H4 F4 r4 s4 k4 => ho v σ4 H4 F4 r4 (s1.trans s4) k4
        | ex c ns xs e4 =>
          simp only [eb] at ho
          exact fun od vs σ4 H4 F4 r4 s4 k4 => ho od vs σ4 H4 F4 r4 (s1.trans s4) k4
        | no => simp only [eb] at ho; exact ho.elim
end
end J
/-! Owned containers written; list comprehensions; displays. -/
namespace J
open PySem L2 PySem.Spec PyProof.Rows
section
variable {K : PySem.W.Frag} {C : CT} {W : Wish} {kp : List Nat} {M0 : Addr → Prop} {H H' H2 : Hp} {σ σ' : L2.St} {env env' : Env} {F F' F1 F2 G G' : List Addr} {v w : V} {d e : D} {l : Addr} {o : HO}
theorem hide_upd {M : Addr → Prop} (h : M l) : Same (hide M H) (hide M (upd H l o)) := fun b o' e => by
  obtain ⟨e1, e2⟩ := hide_some e
  rw [hide_out e2, upd_ne (fun z => e2 (by rw [z]; exact h))]; exact e1
theorem rep_upd {M : Addr → Prop} (h : M l) (n : l ∉ G) (x : Rep K C M H v d G) : Rep K C M (upd H l o) v d G := rep_mono (hide_upd h) x fun b hb o' e => by rw [upd_ne (fun z => n (by rw [← z]; exact hb))]; exact e
theorem repL_upd {M : Addr → Prop} (h : M l) (n : l ∉ G) {vs : List V} {ds : List D} (x : RepL K C M H vs ds G) : RepL K C M (upd H l o) vs ds G := repL_mono (hide_upd h) x fun b hb o' e => by rw [upd_ne (fun z => n (by rw [← z]; exact hb))]; exact e
theorem repO_upd {M : Addr → Prop} (h : M l) (n : l ∉ G) (x : RepO K C M H σ env G) : RepO K C M (upd H l o) σ env G := repO_mono (hide_upd h) x fun b hb o' e => by rw [upd_ne (fun z => n (by rw [← z]; exact hb))]; exact e
/-- the object at l, owned by what stands on top, is written; G: what its items own, G': what the new items own -/
theorem own_write {x : D} (nd : (l :: (G ++ F2)).Nodup) (dj : ∀ b ∈ l :: (G ++ F2), ¬ M0 b) (al : ∀ b, M0 b → Liv H b) (zd : Zd K C (orF M0 (l :: (G ++ F2))) H) (tail : RepO K C (orF M0 (l :: (G ++ F2))) H σ env F2) (nd' : G'.Nodup) (sub : ∀ b ∈ G', b ∈ G)
    (mk : ∀ M', (∀ b, M' b → orF M0 (l :: (G ++ F2)) b) → M' l → Rep K C M' (upd H l o) (.ref l) x (l :: G')) :
    Rel K C M0 (upd H l o) (some (.ref l) :: σ) (some x :: env) (l :: (G' ++ F2)) ∧ Stp (l :: (G ++ F2)) H (l :: (G' ++ F2)) (upd H l o) := by
  have nd0 := List.nodup_cons.mp nd
  have nd1 := List.nodup_append.mp nd0.2
  have mem : ∀ b ∈ l :: (G' ++ F2), b ∈ l :: (G ++ F2) := fun b hb => by
    rcases List.mem_cons.mp hb with q | q
    · exact q ▸ List.mem_cons_self ..
    · exact List.mem_cons_of_mem _ ((List.mem_append.mp q).elim (fun z => List.mem_append_left _ (sub b z)) fun z => List.mem_append_right _ z)
  refine ⟨⟨?_, List.nodup_cons.mpr ⟨fun z => nd0.1 ((List.mem_append.mp z).elim (fun q => List.mem_append_left _ (sub l q)) fun q => List.mem_append_right _ q), List.nodup_append.mpr ⟨nd', nd1.2.1, fun a ha b hb => nd1.2.2 a (sub a ha) b hb⟩⟩, fun b hb => dj b (mem b hb), fun b z => (al b z).upd fun e => dj l (List.mem_cons_self ..) (e ▸ z), zd.mono ((hide_upd (.inr (List.mem_cons_self ..))).trans (hide_mono (.refl _) fun b z => .inl (z.imp id (mem b))))⟩, ⟨fun b o' n e => ?_, fun b hb => .inl (mem b hb)⟩⟩
  · have t2 := repO_upd (o := o) (.inr (List.mem_cons_self ..)) (fun z => nd0.1 (List.mem_append_right _ z)) tail
    have t3 := repO_mono (M' := orF M0 (l :: (G' ++ F2))) (hide_mono (.refl _) fun b z => .inl (z.imp id (mem b))) t2 fun _ _ _ e => e
    exact .have_ (F := l :: G') (G := F2) (mk _ (fun b z => z.imp id (mem b)) (.inr (List.mem_cons_self ..))) t3
  · rw [upd_ne (fun z => n (by rw [z]; exact List.mem_cons_self ..))]; exact e
theorem RepL.app {M : Addr → Prop} : ∀ {vs ws : List V} {ds es : List D} {F G : List Addr}, RepL K C M H vs ds F → RepL K C M H ws es G → RepL K C M H (vs ++ ws) (ds ++ es) (F ++ G)
  | _, _, _, _, _, _, .nil, h => h
  | _, _, _, _, _, _, .cons a t, h => by rw [List.append_assoc]; exact .cons a (t.app h)
theorem Rel.append {xs : List D} (r : Rel K C M0 H (some (.ref l) :: some v :: σ) (some (.lst true xs) :: some d :: env) F) : ∃ ys F', H l = some (.lst ys) ∧ ys.length = xs.length ∧ Rel K C M0 (upd H l (.lst (ys ++ [v]))) (some (.ref l) :: σ) (some (.lst true (xs ++ [d])) :: env) F' ∧ Stp F H F' (upd H l (.lst (ys ++ [v]))) := by
  obtain ⟨rep, nd, dj, al, zd⟩ := r
  cases rep with
  | have_ h t =>
    cases t with
    | have_ hv t =>
      cases h with
      | own hl tl =>
        rename_i F1 F2 ys G
        have eq : (l :: G) ++ (F1 ++ F2) = l :: ((G ++ F1) ++ F2) := by simp
        rw [eq] at nd dj t hv tl zd ⊢
        have nd0 := List.nodup_cons.mp nd
        obtain ⟨r2, s2⟩ := own_write (G := G ++ F1) (G' := G ++ F1) (o := .lst (ys ++ [v])) (x := .lst true (xs ++ [d])) nd dj al zd t (List.nodup_append.mp nd0.2).1 (fun _ h => h) fun M' hM ml => .own upd_same (by
          have h2 := tl.app (.cons hv .nil)
          rw [List.append_nil] at h2
          have h3 := repL_upd (o := .lst (ys ++ [v])) (.inr (List.mem_cons_self ..)) (fun z => nd0.1 (List.mem_append_left _ z)) h2
          exact repL_mono (hide_mono (.refl _) fun b z => .inl (hM b z)) h3 fun _ _ _ e => e)
        exact ⟨ys, _, hl, tl.length, r2, s2⟩
/-! slots of a comprehension -/
def wipeE (e : Env) : List Nat → Env
  | [] => e
  | v :: vs => (wipeE e vs).set v none
theorem Rel.forget {i : Nat} {x : Option V} (r : Rel K C M0 H σ env F) : ∃ F', Rel K C M0 H (σ.set i x) (env.set i none) F' ∧ F'.Sublist F := by
  obtain ⟨F', a, s⟩ := r.rep.forget i x
  exact ⟨F', .mono_ a r.nd s r.dj r.al r.zd, s⟩
theorem Rel.wipe_ (r : Rel K C M0 H σ env F) : ∀ vs, ∃ F', Rel K C M0 H (wipe σ vs) (wipeE env vs) F' ∧ F'.Sublist F
  | [] => ⟨F, r, .refl _⟩
  | v :: vs => by
    obtain ⟨F1, r1, s1⟩ := Rel.wipe_ r vs
    obtain ⟨F2, r2, s2⟩ := r1.forget (i := v) (x := none)
    exact ⟨F2, r2, s2.trans s1⟩
theorem wipeE_at (e : Env) : ∀ vs i, i ∈ vs → ∀ d, (wipeE e vs)[i]? ≠ some (some d)
  | v :: vs, i, h, d => by
    simp only [wipeE]
    intro z
    by_cases q : v = i
    · subst q
      rw [List.getElem?_set] at z
      split at z
      · split at z <;> cases z
      · cases ‹¬ v = v› rfl
    · rw [List.getElem?_set_ne q] at z
      rcases List.mem_cons.mp h with rfl | h
      · exact q rfl
      · exact wipeE_at e vs i h d z
theorem wipe_ne {σ : L2.St} : ∀ vs i, i ∉ vs → (wipe σ vs)[i]? = σ[i]?
  | [], _, _ => rfl
  | v :: vs, i, h => by
    simp only [wipe]
    rw [List.getElem?_set_ne (fun z => h (by rw [z]; exact List.mem_cons_self ..)), wipe_ne vs i fun z => h (List.mem_cons_of_mem _ z)]
theorem wipe_ext {σ τ : L2.St} (hl : σ.length = τ.length) : ∀ vs, (∀ i, i ∉ vs → σ[i]? = τ[i]?) → wipe σ vs = wipe τ vs := fun vs h => by
  have wl : (wipe σ vs).length = (wipe τ vs).length := by rw [wipe_length, wipe_length, hl]
  refine List.ext_getElem? fun i => ?_
  by_cases hi : i ∈ vs
  · have at_ : ∀ (ρ : L2.St) (vs : List Nat), i ∈ vs → (wipe ρ vs)[i]? = if i < ρ.length then some none else none := fun ρ vs => by
      induction vs with
      | nil => intro h; cases h
      | cons v vs ih =>
        intro h
        simp only [wipe]
        by_cases q : v = i
        · subst q
          rw [List.getElem?_set, wipe_length]
          simp
        · rw [List.getElem?_set_ne q]
          exact ih ((List.mem_cons.mp h).resolve_left fun z => q z.symm)
    rw [at_ σ vs hi, at_ τ vs hi, hl]
  · rw [wipe_ne vs i hi, wipe_ne vs i hi, h i hi]
theorem RepO.reslot {M : Addr → Prop} : ∀ {σ σ' : List (Option V)} {e : Env} {F : List Addr}, RepO K C M H σ e F → σ'.length = σ.length → (∀ (i : Nat) (d : D), e[i]? = some (some d) → σ'[i]? = σ[i]?) → RepO K C M H σ' e F
  | _, [], _, _, .nil, _, _ => .nil
  | _, x :: σ', _, _, .gone t, l, h => .gone (RepO.reslot t (by simpa using l) fun i d e => by simpa using h (i + 1) d (by simpa using e))
  | _, x :: σ', _, _, .have_ a t, l, h => by
    have e := h 0 _ rfl
    simp only [List.getElem?_cons_zero, Option.some.injEq] at e
    subst e
    exact .have_ a (RepO.reslot t (by simpa using l) fun i d e => by simpa using h (i + 1) d (by simpa using e))
theorem Rel.reslot (r : Rel K C M0 H σ env F) (l : σ'.length = σ.length) (h : ∀ (i : Nat) (d : D), env[i]? = some (some d) → σ'[i]? = σ[i]?) : Rel K C M0 H σ' env F := ⟨r.rep.reslot l h, r.nd, r.dj, r.al, r.zd⟩
/-! ### [elt for target in iter if test] -/
def W0 : Wish := fun _ _ _ _ => False
def compL (g : D → Env → Option Env) (c : Env → R Bool) (f : Env → R D) (vs : List Nat) : List D → List D → Env → R D
  | acc, [], e => .ok (.lst true acc) e
  | acc, d :: ds, e => match g d e with
    | none => .no
    | some e1 => match c e1 with
      | .ok true e2 => (match f e2 with
        | .ok x e3 => compL g c f vs (acc ++ [x]) ds (wipeE e3 vs)
        | _ => .no)
      | .ok false e2 => compL g c f vs acc ds (wipeE e2 vs)
      | _ => .no
def compO (it : Env → R (List D)) (g : D → Env → Option Env) (c : Env → R Bool) (f : Env → R D) (vs : List Nat) : Env → R D := fun env => match it env with
  | .ok ds e => if ds.length ≤ 1000000 then compL g c f vs [] ds (wipeE e vs) else .no
  | .ex c ns vs e => .ex c ns vs e
  | .no => .no
def yesB : Env → R Bool := fun e => .ok true e
theorem i_yes {Q : Bool → Hp → Prop} (h : ttOf K C W yesB σ H Q) : tYes σ H Q := by
  obtain ⟨M0, env, F, r, h⟩ := h
  exact h H F r .refl
theorem okT_trans {Q : VK} {o : R D} (h : okT K C W M0 σ F H Q o) (s : Stp F H F' H') : okT K C W M0 σ F' H' Q o := by
  cases o with
  | ok d e => exact fun u H2 F2 r2 s2 => h u H2 F2 r2 (s.trans s2)
  | ex c ns ds e => exact ExOk.trans h s
  | no => exact h
theorem i_comp {it : Env → R (List D)} {g : D → Env → Option Env} {c : Env → R Bool} {f : Env → R D} {vs : List Nat} {n : Nat} {Q : VK} (hn : ∀ i, i < n → i ∉ vs → i ∈ kp) (hσ : σ.length = n) (hg : ∀ d e e1, g d e = some e1 → e1.length = e.length) (h : tOf K C W (compO it g c f vs) σ H Q) :
    tLc (iOf K C W it) (gOf K C kp g) (ttOf K C W0 c) (tOf K C W0 f) vs σ H Q := by
  obtain ⟨M0, env, F, r, h⟩ := h
  refine ⟨M0, env, F, r, ?_⟩
  cases ef : it env with
  | no => simp only [compO, ef] at h; exact h
  | ex c ns ds e => simp only [compO, ef] at h; exact h
  | ok ds e =>
    simp only [compO, ef] at h
    split at h
    case isFalse => exact h.elim
    rename_i hsz
    intro J H1 F1 r1 s1 wk Dd nD
    obtain ⟨Fw, rw_, sw⟩ := r1.wipe_ vs
    obtain ⟨r2, s2⟩ := Rel.new (p := Dd) (o := .lst []) (x := .lst true []) rw_ nD fun M' _ => .own (F := []) upd_same .nil
    have s02 := s1.trans ((Stp.subl sw).trans s2)
    refine ⟨fun i m H' => m = ds.length - i ∧ i ≤ ds.length ∧ ∃ acc e' FF, acc.length ≤ i ∧ Rel K C M0 H' (some (.ref Dd) :: wipe σ vs) (some (.lst true acc) :: e') FF ∧ (∀ j ∈ vs, ∀ d, e'[j]? ≠ some (some d)) ∧ Stp F1 H1 FF H' ∧ okT K C W M0 σ FF H' Q (compL g c f vs acc (ds.drop i) e'),
      ⟨ds.length, by simp, Nat.zero_le _, [], wipeE e vs, _, Nat.le_refl _, r2, wipeE_at e vs, (Stp.subl sw).trans s2, okT_trans h s02⟩, ?_⟩
    rintro i m H' ⟨rfl, hi, acc, e', FF, ha, r', we, s', ho⟩
    obtain ⟨G1, G2, eG, hD, r4⟩ := r'.pop
    have hd : Same (hide (orF M0 F1) H1) (hide (orF (orF M0 G1) G2) H') := by
      rw [orF_app, ← eG]; exact Stp.hide s' r1.dj
    obtain ⟨wgo, wst, wy⟩ := wk i (orF M0 G1) (wipe σ vs) e' G2 H' r4 hd
    rcases Nat.lt_or_ge i ds.length with lt | ge
    · refine .inr ⟨wgo lt, fun H2 => ∃ acc e' FF, acc.length ≤ i + 1 ∧ Rel K C M0 H2 (some (.ref Dd) :: wipe σ vs) (some (.lst true acc) :: e') FF ∧ (∀ j ∈ vs, ∀ d, e'[j]? ≠ some (some d)) ∧ Stp F1 H1 FF H2 ∧ okT K C W M0 σ FF H2 Q (compL g c f vs acc (ds.drop (i + 1)) e'), fun H2 z => ⟨ds.length - (i + 1), by omega, rfl, lt, z⟩, fun x H2 y => ?_⟩
      obtain ⟨d, F2, ed, r5, s5⟩ := wy x H2 y lt
      have edr : ds.drop i = d :: ds.drop (i + 1) := by
        rw [List.drop_eq_getElem_cons lt]
        rw [List.getElem?_eq_getElem lt] at ed
        rw [Option.some.inj ed]
      rw [edr] at ho
      cases eg : g d e' with
      | none => simp only [compL, eg] at ho; exact ho.elim
      | some e3 =>
        simp only [compL, eg] at ho
        refine ⟨orF M0 G1, d, e', F2, e3, r5, eg, fun σ3 H3 F3 r6 s6 k6 => ?_⟩
        have l3 : σ3.length = n := by rw [r6.rep.length, hg _ _ _ eg, ← r4.rep.length, wipe_length, hσ]
        have wσ : wipe σ3 vs = wipe σ vs := wipe_ext (by rw [l3, hσ]) vs fun j hj => by
          rcases Nat.lt_or_ge j n with q | q
          · rw [k6 j (hn j q hj), wipe_ne vs j hj]
          · rw [List.getElem?_eq_none (by omega), List.getElem?_eq_none (by omega)]
        refine ⟨wσ, orF M0 G1, e3, F3, r6, ?_⟩
        have s56 := s5.trans s6
        -- the end of a turn without an item
        have fin : ∀ (acc2 : List D) (σ4 : L2.St) (e4 : Env) (H4 : Hp) (FF4 : List Addr), σ4 = σ3 → acc2.length ≤ i + 1 → Rel K C M0 H4 (some (.ref Dd) :: σ4) (some (.lst true acc2) :: e4) FF4 → Stp FF H' FF4 H4 → okT K C W M0 σ FF H' Q (compL g c f vs acc2 (ds.drop (i + 1)) (wipeE e4 vs)) →
            ∃ acc e' FF, acc.length ≤ i + 1 ∧ Rel K C M0 H4 (some (.ref Dd) :: wipe σ vs) (some (.lst true acc) :: e') FF ∧ (∀ j ∈ vs, ∀ d, e'[j]? ≠ some (some d)) ∧ Stp F1 H1 FF H4 ∧ okT K C W M0 σ FF H4 Q (compL g c f vs acc (ds.drop (i + 1)) e') := by
          intro acc2 σ4 e4 H4 FF4 eσ hacc r7 s7 ho
          obtain ⟨X1, X2, eX, hX, r8⟩ := r7.pop
          obtain ⟨X3, r9, s9⟩ := r8.wipe_ vs
          rw [eσ, wσ] at r9
          obtain ⟨r10, s10⟩ := Rel.back r7 X1 X2 eX hX r9 (.subl s9)
          exact ⟨acc2, wipeE e4 vs, _, hacc, r10, wipeE_at e4 vs, s'.trans (s7.trans s10), okT_trans ho (s7.trans s10)⟩
        cases ec : c e3 with
        | no => simp only [ec] at ho; exact ho.elim
        | ex c2 ns xs e4 => simp only [ec] at ho; exact ho.elim
        | ok t e4 =>
          intro H5 F5 r7 s7
          have s57 := s56.trans s7
          cases t with
          | false =>
            simp only [ec] at ho
            rw [if_neg (by decide)]
            obtain ⟨r8, s8⟩ := Rel.back r' G1 G2 eG hD r7 s57
            exact fin acc σ3 e4 H5 _ rfl (by omega) r8 s8 ho
          | true =>
            simp only [ec] at ho
            rw [if_pos rfl]
            refine ⟨orF M0 G1, e4, F5, r7, ?_⟩
            cases eF : f e4 with
            | no => simp only [eF] at ho; exact ho.elim
            | ex c2 ns xs e5 => simp only [eF] at ho; exact ho.elim
            | ok x e5 =>
              simp only [eF] at ho
              intro y H6 F6 r8 s8
              obtain ⟨r9, s9⟩ := Rel.back r' G1 G2 eG hD r8 (s57.trans s8)
              obtain ⟨ys, FF7, hl, ly, r10, s10⟩ := r9.append
              have hlt : ys.length < sizeLine := by
                have : ys.length < 1000000 := by omega
                exact Nat.lt_of_lt_of_le this (by rw [sizeLine_eq]; decide)
              exact ⟨ys, hl, hlt, fin (acc ++ [x]) σ3 e5 _ FF7 rfl (by simp; omega) r10 (s9.trans s10) ho⟩
    · obtain rfl : i = ds.length := Nat.le_antisymm hi ge
      rw [List.drop_length] at ho
      refine .inl ⟨wst rfl, ho (.ref Dd) H' FF (r'.reslot (by simp [wipe_length]) fun j d ej => ?_) .refl⟩
      cases j with
      | zero => rfl
      | succ j =>
        simp only [List.getElem?_cons_succ] at ej ⊢
        exact (wipe_ne vs j fun z => we j z d ej).symm
/-! ### displays -/
def lstF (f : Env → R (List D)) : Env → R D := fun env => match f env with
  | .ok ds e => if ds.length ≤ 1000000 then .ok (.lst true ds) e else .no
  | .ex c ns vs e => .ex c ns vs e
  | .no => .no
def tupF (f : Env → R (List D)) : Env → R D := fun env => match f env with
  | .ok ds e => if ds.length ≤ 1000000 then .ok (.tup ds) e else .no
  | .ex c ns vs e => .ex c ns vs e
  | .no => .no
/-- the values on top are the items of a new object -/
theorem Rel.pack {vs : List V} {ds : List D} {p : Addr} {x : D} (own : Bool) (r : Rel K C M0 H (vs.map some ++ σ) (ds.map some ++ env) F) (l : vs.length = ds.length) (np : H p = none)
    (mk : ∀ M' G, (M' p ↔ own = true) → RepL K C M' (upd H p o) vs ds G → Rep K C M' (upd H p o) (.ref p) x (if own then p :: G else G)) : ∃ F', Rel K C M0 (upd H p o) (some (.ref p) :: σ) (some x :: env) F' ∧ Stp F H F' (upd H p o) := by
  obtain ⟨rep, nd, dj, al, zd⟩ := r
  obtain ⟨G1, G2, rfl, a, b⟩ := RepO.split (by simp [l]) rep
  have toL : ∀ {M : Addr → Prop} {vs : List V} {ds : List D} {G : List Addr}, RepO K C M H (vs.map some) (ds.map some) G → RepL K C M H vs ds G := by
    intro M vs
    induction vs with
    | nil => intro ds G h; cases ds with | nil => cases h; exact .nil | cons d ds => cases h
    | cons v vs ih =>
      intro ds G h
      cases ds with
      | nil => cases h
      | cons d ds => cases h with | have_ h t => exact .cons h (ih t)
  have nF : p ∉ G1 ++ G2 := fun z => (repO_alive rep p z).ne np
  have nM : ¬ M0 p := fun z => (al p z).ne np
  have up : Same H (upd H p o) := new_same np
  have al' : ∀ b, M0 b → Liv (upd H p o) b := fun b z => (al b z).same up
  cases own with
  | true =>
    have s1 : Same (hide (orF M0 (G1 ++ G2)) H) (hide (orF M0 (p :: (G1 ++ G2))) (upd H p o)) := hide_mono up fun b z => by
      rcases z with z | z
      · exact .inl (.inl z)
      · exact (List.mem_cons.mp z).elim (fun q => .inr (by rw [q]; exact np)) fun q => .inl (.inr q)
    refine ⟨p :: (G1 ++ G2), ⟨?_, List.nodup_cons.mpr ⟨nF, nd⟩, fun b hb => ?_, al', zd.mono s1⟩, .same up fun b hb => ?_⟩
    · have hm := mk (orF M0 (p :: (G1 ++ G2))) G1 ⟨fun _ => rfl, fun _ => .inr (List.mem_cons_self ..)⟩ (repL_mono s1 (toL a) fun b _ o e => up b o e)
      rw [if_pos rfl] at hm
      exact .have_ (F := p :: G1) (G := G2) hm (repO_mono s1 b fun b _ o e => up b o e)
    · rcases List.mem_cons.mp hb with q | q
      · rw [q]; exact nM
      · exact dj b q
    · rcases List.mem_cons.mp hb with q | q
      · exact .inr (by rw [q]; exact np)
      · exact .inl q
  | false =>
    have s1 : Same (hide (orF M0 (G1 ++ G2)) H) (hide (orF M0 (G1 ++ G2)) (upd H p o)) := hide_mono up fun b z => .inl z
    refine ⟨G1 ++ G2, ⟨?_, nd, dj, al', zd.mono s1⟩, .same up fun b hb => .inl hb⟩
    have hm := mk (orF M0 (G1 ++ G2)) G1 ⟨fun z => absurd z (fun z => z.elim nM nF), fun z => nomatch z⟩ (repL_mono s1 (toL a) fun b _ o e => up b o e)
    rw [if_neg (by decide)] at hm
    exact .have_ hm (repO_mono s1 b fun b _ o e => up b o e)
theorem i_lst {f : Env → R (List D)} {Q : VK} (h : tOf K C W (lstF f) σ H Q) : tLst (aOf K C W f []) σ H Q := by
  obtain ⟨M0, env, F, r, h⟩ := h
  refine ⟨M0, env, F, r, ?_⟩
  cases ef : f env with
  | no => simp only [lstF, ef] at h; exact h
  | ex c ns ds e => simp only [lstF, ef] at h; exact h
  | ok ds e =>
    simp only [lstF, ef] at h
    split at h
    case isFalse => exact h.elim
    rename_i hz
    intro vs H1 F1 r1 s1 l1 k1
    refine ⟨Nat.le_trans (by omega : vs.length ≤ 1000000) (by rw [sizeLine_eq]; decide), fun p np => ?_⟩
    obtain ⟨F2, r2, s2⟩ := Rel.pack (o := .lst vs) (x := .lst true ds) true r1 l1 np fun M' G hM t => by rw [if_pos rfl]; exact .own upd_same t
    exact h _ _ F2 r2 (s1.trans s2)
theorem i_tup {f : Env → R (List D)} {Q : VK} (h : tOf K C W (tupF f) σ H Q) : tTup (aOf K C W f []) σ H Q := by
  obtain ⟨M0, env, F, r, h⟩ := h
  refine ⟨M0, env, F, r, ?_⟩
  cases ef : f env with
  | no => simp only [tupF, ef] at h; exact h
  | ex c ns ds e => simp only [tupF, ef] at h; exact h
  | ok ds e =>
    simp only [tupF, ef] at h
    split at h
    case isFalse => exact h.elim
    rename_i hz
    intro vs H1 F1 r1 s1 l1 k1
    refine ⟨Nat.le_trans (by omega : vs.length ≤ 1000000) (by rw [sizeLine_eq]; decide), fun p np => ?_⟩
    obtain ⟨F2, r2, s2⟩ := Rel.pack (o := .tup vs) (x := .tup ds) false r1 l1 np fun M' G hM t => by
      rw [if_neg (by decide)]
      exact .tup (by rw [hide_out (fun z => Bool.noConfusion (hM.mp z)), upd_same]) t
    exact h _ _ F2 r2 (s1.trans s2)
end
end J
/-! Operators and built-ins on pure values. -/
namespace J
open PySem L2 PySem.Spec PyProof.Rows
section
variable {K : PySem.W.Frag} {C : CT} {W : Wish} {kp : List Nat} {M0 : Addr → Prop} {H H' H2 : Hp} {σ σ' : L2.St} {env env' : Env} {F F' F1 F2 G G' : List Addr} {v w : V} {d e : D} {l : Addr} {o : HO} {X : Cx}
/-! data, as the library has it -/
mutual
def D.toP : D → PyData
  | .non => .none | .bl b => .bool b | .int i => .int i | .str s => .str s
  | .lst _ xs => .list (D.toPL xs)
  | .scr xs => .list (D.toPL xs)
  | .tup xs => .tuple (D.toPL xs)
  | .dK _ _ _ => .dict [] | .dT _ _ _ => .dict [] | .tK _ _ => .dict [] | .ins _ _ _ _ => .dict [] | .hole => .dict [] | .exc => .dict []
def D.toPL : List D → List PyData
  | [] => []
  | d :: ds => d.toP :: D.toPL ds
end
mutual
/-- without dicts and instances -/
def D.okP : D → Bool
  | .non => true | .bl _ => true | .int _ => true | .str _ => true
  | .lst _ xs => D.okPL xs
  | .scr xs => D.okPL xs
  | .tup xs => D.okPL xs
  | .dK _ _ _ => false | .dT _ _ _ => false | .tK _ _ => false | .ins _ _ _ _ => false | .hole => false | .exc => false
def D.okPL : List D → Bool
  | [] => true
  | d :: ds => d.okP && D.okPL ds
end
theorem toPL_ints (ns : List Int) : D.toPL (ns.map D.int) = ns.map PyData.int := by
  induction ns with
  | nil => rfl
  | cons a b ih => simp only [List.map_cons, D.toPL, D.toP, ih]
mutual
theorem rep_dp {M : Addr → Prop} : ∀ {v : V} {d : D} {F : List Addr}, Rep K C M H v d F → d.okP = true → Dp K H v d.toP
  | _, _, _, .non, _ => .non
  | _, _, _, .bl b, _ => .bl b
  | _, _, _, .int i, _ => .int i
  | _, _, _, .str x, _ => .str x
  | _, _, _, .hole v, k => nomatch k
  | _, _, _, .exc, k => nomatch k
  | _, _, _, .lst h _ t, k => .lst (.of (hide_le _ _ h)) (repL_dp t k)
  | _, _, _, .own h t, k => .lst (.of h) (repL_dp t k)
  | _, _, _, .scr (ns := ns) h, _ => .lst (SqL.mono hide_le h) (by rw [toPL_ints]; exact ints_dpAll ns)
  | _, _, _, .tup h t, k => .tup (.inl (.inl (hide_le _ _ h))) (repL_dp t k)
  | _, _, _, .dKf _ _ _ _, k => nomatch k
  | _, _, _, .dKo _ _ _, k => nomatch k
  | _, _, _, .tK _ _ _ _, k => nomatch k
  | _, _, _, .dTf _ _ _ _, k => nomatch k
  | _, _, _, .dTo _ _ _, k => nomatch k
  | _, _, _, .insF _ _ _ _, k => nomatch k
  | _, _, _, .insO _ _ _, k => nomatch k
theorem repL_dp {M : Addr → Prop} : ∀ {vs : List V} {ds : List D} {F : List Addr}, RepL K C M H vs ds F → D.okPL ds = true → DpAll K H vs (D.toPL ds)
  | _, _, _, .nil, _ => .nil
  | _, _, _, .cons h t, k => by
    simp only [D.okPL, Bool.and_eq_true] at k
    exact .cons (rep_dp h k.1) (repL_dp t k.2)
end
def shp (d : D) : Bool := d.okP && SeqAt.shaped d.toP
def eqD (d e : D) : Option D := if shp d && shp e then some (.bl (PyData.eqv d.toP e.toP)) else none
def neD (d e : D) : Option D := if shp d && shp e then some (.bl (!PyData.eqv d.toP e.toP)) else none
theorem p_eqD : Op2 K C (rEqD K) eqD := by
  intro M0 σ env F H v w d e x Q r eg q
  obtain ⟨F1, F2, F3, eF, hv, hw, _⟩ := r.two
  unfold eqD at eg
  split at eg
  · rename_i hs
    simp only [shp, Bool.and_eq_true] at hs
    obtain rfl := Option.some.inj eg
    exact ⟨_, _, rep_dp hv hs.1.1, rep_dp hw hs.2.1, hs.1.2, hs.2.2, Rel.sc2 r (.bl _) q⟩
  · cases eg
theorem p_neD : Op2 K C (rNeD K) neD := by
  intro M0 σ env F H v w d e x Q r eg q
  obtain ⟨F1, F2, F3, eF, hv, hw, _⟩ := r.two
  unfold neD at eg
  split at eg
  · rename_i hs
    simp only [shp, Bool.and_eq_true] at hs
    obtain rfl := Option.some.inj eg
    exact ⟨_, _, rep_dp hv hs.1.1, rep_dp hw hs.2.1, hs.1.2, hs.2.2, Rel.sc2 r (.bl _) q⟩
  · cases eg
/-! + -/
/-- a new list of data on top, in the place of two values -/
theorem Rel.new2 {xs : List D} {vs : List V} {x y : Option V} {a b : Option D} (own : Bool) (r : Rel K C M0 H (x :: y :: σ) (a :: b :: env) F) (t : RepL K C (orF M0 F) H vs xs []) {p : Addr} (np : H p = none) : ∃ F', Rel K C M0 (upd H p (.lst vs)) (some (.ref p) :: σ) (some (.lst true xs) :: env) F' ∧ Stp F H F' (upd H p (.lst vs)) := by
  obtain ⟨F4, r4, s4⟩ := r.drop
  obtain ⟨F5, r5, s5⟩ := r4.drop
  have sub : ∀ b ∈ F5, b ∈ F := fun b hb => s4.subset (s5.subset hb)
  obtain ⟨r6, s6⟩ := Rel.new (p := p) (o := .lst vs) (x := .lst true xs) r5 np fun M' hM => .own (F := []) upd_same (repL_mono (hide_mono (new_same np) fun b z => (hM b z).imp (fun q => q.imp id (sub b)) fun q => by rw [q]; exact np) t fun _ hb => absurd hb List.not_mem_nil)
  exact ⟨_, r6, (Stp.sub sub).trans s6⟩
theorem Rel.newT2 {xs : List D} {vs : List V} {x y : Option V} {a b : Option D} (r : Rel K C M0 H (x :: y :: σ) (a :: b :: env) F) (t : RepL K C (orF M0 F) H vs xs []) {p : Addr} (np : H p = none) : ∃ F', Rel K C M0 (upd H p (.tup vs)) (some (.ref p) :: σ) (some (.tup xs) :: env) F' ∧ Stp F H F' (upd H p (.tup vs)) := by
  obtain ⟨F4, r4, s4⟩ := r.drop
  obtain ⟨F5, r5, s5⟩ := r4.drop
  have sub : ∀ b ∈ F5, b ∈ F := fun b hb => s4.subset (s5.subset hb)
  obtain ⟨r6, s6⟩ := Rel.newData (p := p) (o := .tup vs) (x := .tup xs) r5 np fun M' hM nM => .tup (F := []) (by rw [hide_out nM, upd_same]) (repL_mono (hide_mono (new_same np) fun b z => .inl ((hM b z).imp id (sub b))) t fun _ hb => absurd hb List.not_mem_nil)
  exact ⟨_, r6, (Stp.sub sub).trans s6⟩
theorem RepL.nn {M : Addr → Prop} {vs : List V} {ds : List D} (h : RepL K C M H vs ds F) (hn : D.noOwnL ds = true) : RepL K C M H vs ds [] := by
  obtain ⟨rfl, _⟩ := fz_noOwnL h hn
  exact h
theorem p_cat : Op2 K C rCat (fun d e => match d, e with | .lst _ xs, .lst _ ys => if D.noOwnL xs && D.noOwnL ys && decide (xs.length + ys.length ≤ 1000000) then some (.lst true (xs ++ ys)) else none | _, _ => none) := by
  intro M0 σ env F H v w d e x Q r eg q
  obtain ⟨F1, F2, F3, eF, hv, hw, _⟩ := r.two
  dsimp only at eg
  split at eg
  · split at eg
    · rename_i hs
      simp only [Bool.and_eq_true, decide_eq_true_eq] at hs
      obtain rfl := Option.some.inj eg
      obtain ⟨a, vs, G1, rfl, h1, t1, _⟩ := hv.lstR
      obtain ⟨b, ws, G2, rfl, h2, t2, _⟩ := hw.lstR
      refine ⟨a, b, vs, ws, rfl, rfl, h1, h2, by rw [t1.length, t2.length]; exact Nat.le_trans hs.2 (by rw [sizeLine_eq]; decide), fun p np => ?_⟩
      obtain ⟨F', r', s'⟩ := Rel.new2 true r (RepL.app (F := []) (G := []) (t1.nn hs.1.1) (t2.nn hs.1.2)) np
      exact q _ _ F' r' s'
    · cases eg
  · cases eg
theorem Rel.dat2 {x : D} {u : V} (r : Rel K C M0 H (some v :: some w :: σ) (some d :: some e :: env) F) (h : Rep K C (orF M0 F) H u x []) {Q : VK} (q : ∀ u H' F', Rel K C M0 H' (some u :: σ) (some x :: env) F' → Stp F H F' H' → Q u H') : Q u H := by
  obtain ⟨F4, r4, s4⟩ := r.drop
  obtain ⟨F5, r5, s5⟩ := r4.drop
  have sub : ∀ b ∈ F5, b ∈ F := fun b hb => s4.subset (s5.subset hb)
  exact q u H F5 (Rel.data r5 (rep_mono (hide_mono (.refl _) fun b z => .inl (z.imp id (sub b))) h fun _ hb => absurd hb List.not_mem_nil)) (.sub sub)
theorem p_catA : Op2 K C (rCatA K) (fun d e => match d, e with | .tup xs, .tup ys => if D.noOwnL xs && D.noOwnL ys && decide (xs.length + ys.length ≤ 1000000) then some (.tup (xs ++ ys)) else none | _, _ => none) := by
  intro M0 σ env F H v w d e x Q r eg q
  obtain ⟨F1, F2, F3, eF, hv, hw, _⟩ := r.two
  dsimp only at eg
  split at eg
  · split at eg
    · rename_i hs
      simp only [Bool.and_eq_true, decide_eq_true_eq] at hs
      obtain rfl := Option.some.inj eg
      obtain ⟨a, vs, rfl, h1, t1⟩ := hv.tupR
      obtain ⟨b, ws, rfl, h2, t2⟩ := hw.tupR
      obtain ⟨rfl, _⟩ := fz_noOwnL t1 hs.1.1
      obtain ⟨rfl, _⟩ := fz_noOwnL t2 hs.1.2
      refine ⟨a, b, vs, ws, rfl, rfl, .inl (.inl h1), .inl (.inl h2), by rw [t1.length, t2.length]; exact Nat.le_trans hs.2 (by rw [sizeLine_eq]; decide), fun e => ?_, fun _ e => ?_, fun n1 n2 p np => ?_⟩
      · subst e
        cases t1
        exact Rel.dat2 r hw q
      · subst e
        cases t2
        rw [List.append_nil] at q
        exact Rel.dat2 r hv q
      · obtain ⟨F', r', s'⟩ := Rel.newT2 r (RepL.app (F := []) (G := []) t1 t2) np
        exact q _ _ F' r' s'
    · cases eg
  · cases eg
theorem p_addS : Op2 K C (fun x y H Q => ∃ i j, x = .str i ∧ y = .str j ∧ i.length + j.length ≤ sizeLine ∧ Q (.str (i ++ j)) H) (fun d e => match d, e with | .str x, .str y => if x.length + y.length ≤ 1000000 then some (.str (x ++ y)) else none | _, _ => none) := by
  intro M0 σ env F H v w d e x Q r eg q
  obtain ⟨F1, F2, F3, eF, hv, hw, _⟩ := r.two
  dsimp only at eg
  split at eg
  · split at eg
    · rename_i hs
      obtain rfl := Option.some.inj eg
      cases hv; cases hw
      exact ⟨_, _, rfl, rfl, Nat.le_trans hs (by rw [sizeLine_eq]; decide), Rel.sc2 r (.str _) q⟩
    · cases eg
  · cases eg
/-- + -/
def addD (d e : D) : Option D := match d, e with
  | .int i, .int j => some (.int (i + j))
  | .lst _ xs, .lst _ ys => if D.noOwnL xs && D.noOwnL ys && decide (xs.length + ys.length ≤ 1000000) then some (.lst true (xs ++ ys)) else none
  | .tup xs, .tup ys => if D.noOwnL xs && D.noOwnL ys && decide (xs.length + ys.length ≤ 1000000) then some (.tup (xs ++ ys)) else none
  | .str x, .str y => if x.length + y.length ≤ 1000000 then some (.str (x ++ y)) else none
  | _, _ => none
theorem Op2.ext {r : R2} {g g' : D → D → Option D} (h : Op2 K C r g) (e : ∀ a b x, g' a b = some x → g a b = some x) : Op2 K C r g' := fun M0 σ env F H v w d e' x Q rl eg q => h M0 σ env F H v w d e' x Q rl (e _ _ _ eg) q
def rAdd (K : PySem.W.Frag) : R2 := fun x y H Q => rI0 (fun i j => .int (i + j)) x y H Q ∨ (rCat x y H Q ∨ (rCatA K x y H Q ∨ ∃ i j, x = .str i ∧ y = .str j ∧ i.length + j.length ≤ sizeLine ∧ Q (.str (i ++ j)) H))
theorem o_add : OpR X (binaryOp .Add) (rAdd X.K) := OpR.or_ op_add (OpR.or_ op_cat (OpR.or_ op_catA op_add_str))
theorem p_add : Op2 K C (rAdd K) addD := by
  refine Op2.ext (Op2.or (op2_int (g' := fun i j => .int (i + j)) fun i j => .int _) (Op2.or p_cat (Op2.or p_catA p_addS))) fun a b x h => ?_
  cases a <;> cases b <;> simp only [addD] at h <;> first | (cases h; done) | simpa using h
def subD (d e : D) : Option D := match d, e with | .int i, .int j => some (.int (i - j)) | _, _ => none
theorem p_sub : Op2 K C (rI0 fun i j => .int (i - j)) subD := op2_int (g' := fun i j => .int (i - j)) fun i j => .int _
/-- * -/
def mulOk (i j : Int) : Bool := (decide (-(2 ^ 64) < i) && decide (i < 2 ^ 64)) || ((decide (-(2 ^ 64) < j) && decide (j < 2 ^ 64)) || decide (i.natAbs.log2 + j.natAbs.log2 < 1000000))
def mulD (d e : D) : Option D := match d, e with
  | .int i, .int j => if mulOk i j then some (.int (i * j)) else none
  | .lst _ xs, .int k => if D.noOwnL xs && (decide (-(2 ^ 63) ≤ k) && (decide (k < 2 ^ 63) && decide (xs.length * k.toNat ≤ 1000000))) then some (.lst true (List.replicate k.toNat xs).flatten) else none
  | _, _ => none
def rMul (K : PySem.W.Frag) : R2 := fun x y H Q => rI L2.CMul (fun i j => .int (i * j)) x y H Q ∨ (rI L2.CMulW (fun i j => .int (i * j)) x y H Q ∨ rRep x y H Q)
theorem o_mul : OpR X (binaryOp .Mult) (rMul X.K) := OpR.or_ op_mul (OpR.or_ op_mulW op_rep)
theorem RepL.rep {M : Addr → Prop} {vs : List V} {ds : List D} (h : RepL K C M H vs ds []) : ∀ n, RepL K C M H (List.replicate n vs).flatten (List.replicate n ds).flatten []
  | 0 => .nil
  | n + 1 => by
    rw [List.replicate_succ, List.replicate_succ, List.flatten_cons, List.flatten_cons]
    exact RepL.app (F := []) (G := []) h (RepL.rep h n)
theorem p_mul : Op2 K C (rMul K) mulD := by
  intro M0 σ env F H v w d e x Q r eg q
  obtain ⟨F1, F2, F3, eF, hv, hw, _⟩ := r.two
  unfold mulD at eg
  split at eg
  · split at eg
    · rename_i hs
      obtain rfl := Option.some.inj eg
      cases hv; cases hw
      rename_i i j
      simp only [mulOk, Bool.or_eq_true, Bool.and_eq_true, decide_eq_true_eq] at hs
      rcases hs with hs | hs | hs
      · exact .inl ⟨_, _, rfl, rfl, .inl hs, Rel.sc2 r (.int _) q⟩
      · exact .inl ⟨_, _, rfl, rfl, .inr hs, Rel.sc2 r (.int _) q⟩
      · exact .inr (.inl ⟨_, _, rfl, rfl, hs, Rel.sc2 r (.int _) q⟩)
    · cases eg
  · split at eg
    · rename_i hs
      simp only [Bool.and_eq_true, decide_eq_true_eq] at hs
      obtain rfl := Option.some.inj eg
      obtain ⟨a, vs, G1, rfl, h1, t1, _⟩ := hv.lstR
      cases hw
      refine .inr (.inr ⟨a, _, vs, rfl, rfl, h1, hs.2.1, hs.2.2.1, by rw [t1.length]; exact Nat.le_trans hs.2.2.2 (by rw [sizeLine_eq]; decide), fun p np => ?_⟩)
      obtain ⟨F', r', s'⟩ := Rel.new2 true r ((t1.nn hs.1).rep _) np
      exact q _ _ F' r' s'
    · cases eg
  · cases eg
/-- // % ** -/
def divD (d e : D) : Option D := match d, e with
  | .int i, .int j => if 0 < j then (if j.natAbs.log2 < 9000 then some (.int (i / j)) else none) else if j ≠ 0 ∧ j.natAbs < 1073741824 then some (.int (i.fdiv j)) else none
  | _, _ => none
def modD (d e : D) : Option D := match d, e with
  | .int i, .int j => if 0 < j then some (.int (i % j)) else if j ≠ 0 then some (.int (i.fmod j)) else none
  | _, _ => none
def powD (d e : D) : Option D := match d, e with
  | .int i, .int j => if 0 ≤ j ∧ j ≤ 1000000 ∧ i.natAbs < 2 ^ 64 then some (.int (i ^ j.toNat)) else none
  | _, _ => none
def rDiv : R2 := fun x y H Q => rI L2.CDivW (fun i j => .int (i / j)) x y H Q ∨ rI CDivN (fun i j => .int (i.fdiv j)) x y H Q
def rMod : R2 := fun x y H Q => rI (fun _ j => 0 < j) (fun i j => .int (i % j)) x y H Q ∨ rI (fun _ j => j ≠ 0) (fun i j => .int (i.fmod j)) x y H Q
theorem o_div : OpR X (binaryOp .FloorDiv) rDiv := OpR.or_ op_fdivW op_fdivN
theorem o_mod : OpR X (binaryOp .Mod) rMod := OpR.or_ op_mod op_modN
theorem p_div : Op2 K C rDiv divD := by
  intro M0 σ env F H v w d e x Q r eg q
  obtain ⟨F1, F2, F3, eF, hv, hw, _⟩ := r.two
  unfold divD at eg
  split at eg
  · cases hv; cases hw
    split at eg
    · rename_i h0
      split at eg
      · rename_i h1
        obtain rfl := Option.some.inj eg
        exact .inl ⟨_, _, rfl, rfl, ⟨h0, h1⟩, Rel.sc2 r (.int _) q⟩
      · cases eg
    · split at eg
      · rename_i h1
        obtain rfl := Option.some.inj eg
        exact .inr ⟨_, _, rfl, rfl, h1, Rel.sc2 r (.int _) q⟩
      · cases eg
  · cases eg
theorem p_mod : Op2 K C rMod modD := by
  intro M0 σ env F H v w d e x Q r eg q
  obtain ⟨F1, F2, F3, eF, hv, hw, _⟩ := r.two
  unfold modD at eg
  split at eg
  · cases hv; cases hw
    split at eg
    · rename_i h0
      obtain rfl := Option.some.inj eg
      exact .inl ⟨_, _, rfl, rfl, h0, Rel.sc2 r (.int _) q⟩
    · split at eg
      · rename_i h1
        obtain rfl := Option.some.inj eg
        exact .inr ⟨_, _, rfl, rfl, h1, Rel.sc2 r (.int _) q⟩
      · cases eg
  · cases eg
theorem p_pow : Op2 K C (rI CPow fun i j => .int (i ^ j.toNat)) powD := by
  intro M0 σ env F H v w d e x Q r eg q
  obtain ⟨F1, F2, F3, eF, hv, hw, _⟩ := r.two
  unfold powD at eg
  split at eg
  · cases hv; cases hw
    split at eg
    · rename_i h0
      obtain rfl := Option.some.inj eg
      exact ⟨_, _, rfl, rfl, h0, Rel.sc2 r (.int _) q⟩
    · cases eg
  · cases eg
/-- comparisons of ints -/
def cmpD (f : Int → Int → Bool) (d e : D) : Option D := match d, e with | .int i, .int j => some (.bl (f i j)) | _, _ => none
theorem p_cmp {f : Int → Int → Bool} : Op2 K C (rI0 fun i j => .bl (f i j)) (cmpD f) := op2_int (g' := fun i j => .bl (f i j)) fun i j => .bl _
def isNonD (d e : D) : Option D := match e with | .non => (match d with | .hole => none | .non => some (.bl true) | _ => some (.bl false)) | _ => none
def isNotNonD (d e : D) : Option D := match e with | .non => (match d with | .hole => none | .non => some (.bl false) | _ => some (.bl true)) | _ => none
theorem p_isN : Op2 K C (fun x y H Q => y = .non ∧ Q (.bl (decide (x = .non))) H) isNonD := by
  intro M0 σ env F H v w d e x Q r eg q
  obtain ⟨F1, F2, F3, eF, hv, hw, _⟩ := r.two
  unfold isNonD at eg
  split at eg
  · cases hw
    refine ⟨rfl, ?_⟩
    cases hv <;> simp only [reduceCtorEq] at eg <;> obtain rfl := Option.some.inj eg <;> exact Rel.sc2 r (.bl _) q
  · cases eg
/-! xs[i] -/
def ixD (d e : D) : Option D := match e with
  | .int i => (match d with
    | .lst _ xs => L2.atI xs i
    | .scr xs => L2.atI xs i
    | .tup xs => L2.atI xs i
    | _ => none)
  | _ => none
def rIx (K : PySem.W.Frag) : R2 := fun x y H Q => rIxL K x y H Q ∨ rIxT K x y H Q
theorem x_ix : IxR X (rIx X.K) := IxR.or_ ix_list ix_tup
theorem atI_map {α β : Type} (f : α → β) {xs : List α} {i : Int} {y : β} (h : L2.atI (xs.map f) i = some y) : ∃ x, L2.atI xs i = some x ∧ y = f x := by
  unfold L2.atI at h ⊢
  rw [List.length_map] at h
  cases q : ixN xs.length i with
  | none => rw [q] at h; cases h
  | some j =>
    rw [q] at h
    simp only [Option.bind_some, List.getElem?_map, Option.map_eq_some_iff] at h ⊢
    obtain ⟨x, h1, h2⟩ := h
    exact ⟨x, h1, h2.symm⟩
theorem atI_map' {α β : Type} (f : α → β) {xs : List α} {i : Int} {x : α} (h : L2.atI xs i = some x) : L2.atI (xs.map f) i = some (f x) := by
  unfold L2.atI at h ⊢
  rw [List.length_map]
  cases q : ixN xs.length i with
  | none => rw [q] at h; cases h
  | some j =>
    rw [q] at h
    simp only [Option.bind_some] at h ⊢
    rw [List.getElem?_map, h]; rfl
/-- what is read alone: an item (borrowed) -/
theorem ix_rep {M : Addr → Prop} {i : Int} {x : D} (hv : Rep K C M H v d F) (e : ixD d (.int i) = some x) {Q : VK} (q : ∀ u G, Rep K C M H u x G → (∀ b ∈ G, b ∈ F) → Q u H) : rIx K v (.int i) H Q := by
  cases d <;> simp only [ixD, reduceCtorEq] at e
  · obtain ⟨a, vs, G1, rfl, h1, t1, sub⟩ := hv.lstR
    obtain ⟨u, G, e1, hu, sg⟩ := t1.atI e
    exact .inl ⟨a, vs, i, u, rfl, rfl, .of h1, e1, q u G hu fun b hb => sub b (sg b hb)⟩
  · cases hv with
    | scr h =>
      obtain ⟨k, e1, rfl⟩ := atI_map _ e
      exact .inl ⟨_, _, i, .int k, rfl, rfl, SqL.mono hide_le h, atI_map' _ e1, q _ [] (.int k) fun b hb => absurd hb List.not_mem_nil⟩
  · obtain ⟨a, vs, rfl, h1, t1⟩ := hv.tupR
    obtain ⟨u, G, e1, hu, sg⟩ := t1.atI e
    exact .inr ⟨a, vs, i, u, rfl, rfl, .inl (.inl h1), e1, q u G hu sg⟩
theorem ixD_int {x : D} (h : ixD d e = some x) : ∃ i, e = .int i := by
  cases e <;> simp only [ixD, reduceCtorEq] at h
  exact ⟨_, rfl⟩
/-- an item that is data -/
def ixF (d e : D) : Option D := match ixD d e with
  | some x => if x.noOwn then some x else none
  | none => none
theorem p_ix : Op2 K C (rIx K) ixF := by
  intro M0 σ env F H v w d e x Q r eg q
  obtain ⟨F1, F2, F3, eF, hv, hw, _⟩ := r.two
  unfold ixF at eg
  split at eg
  · rename_i y ey
    split at eg
    · rename_i hn
      obtain rfl := Option.some.inj eg
      obtain ⟨i, rfl⟩ := ixD_int ey
      cases hw
      refine ix_rep hv ey fun u G hu _ => ?_
      obtain ⟨rfl, _⟩ := fz_noOwn hu hn
      exact Rel.dat2 r hu q
    · cases eg
  · cases eg
/-! read alone -/
def bop2 (g : D → D → Option D) (f f2 : Env → Option D) : Env → Option D := fun env => match f env, f2 env with
  | some d, some e => g d e
  | _, _ => none
def bop1 (g : D → Option D) (f : Env → Option D) : Env → Option D := fun env => match f env with
  | some d => g d
  | none => none
/-- an operator that reads alone -/
def BOp2 (K : PySem.W.Frag) (C : CT) (r : R2) (g : D → D → Option D) : Prop := ∀ (M : Addr → Prop) (H : Hp) (v w : V) (d e x : D) (F : List Addr) (Q : VK), (∃ G, (∀ b ∈ G, b ∈ F) ∧ Rep K C M H v d G) → (∃ G, (∀ b ∈ G, b ∈ F) ∧ Rep K C M H w e G) → g d e = some x →
  (∀ u, (∃ G, (∀ b ∈ G, b ∈ F) ∧ Rep K C M H u x G) → Q u H) → r v w H Q
theorem i_bop2 {r : R2} {g : D → D → Option D} {f f2 : Env → Option D} {Q : VK} (o : BOp2 K C r g) (h : bOf K C (bop2 g f f2) σ H Q) : tOp r (bOf K C f) (bOf K C f2) σ H Q := by
  obtain ⟨M0, env, F, rl, x, ex, h⟩ := h
  unfold bop2 at ex
  split at ex
  · rename_i d e ed ee
    refine ⟨M0, env, F, rl, d, ed, fun v H1 s1 r1 ⟨G1, s1', h1⟩ => ⟨M0, env, F, r1, e, ee, fun w H2 s2 r2 h2 => ?_⟩⟩
    have h1' := rep_mono (hide_mono s2 fun b z => .inl z) h1 fun b _ o e => s2 b o e
    exact o (orF M0 F) H2 v w d e x F Q ⟨G1, s1', h1'⟩ h2 ex fun u hu => h u H2 (s1.trans s2) r2 hu
  · cases ex
theorem b_ix : BOp2 K C (rIx K) ixD := by
  intro M H v w d e x F Q ⟨G1, s1, hv⟩ ⟨G2, s2, hw⟩ ey q
  obtain ⟨i, rfl⟩ := ixD_int ey
  cases hw
  exact ix_rep hv ey fun u G hu sg => q u ⟨G, fun b hb => s1 b (sg b hb), hu⟩
theorem BOp2.or {r r' : R2} {g g' : D → D → Option D} (h : BOp2 K C r g) : BOp2 K C (fun x y H Q => r x y H Q ∨ r' x y H Q) g := fun M H v w d e x F Q a b c q => .inl (h M H v w d e x F Q a b c q)
def addB (d e : D) : Option D := match d, e with | .int i, .int j => some (.int (i + j)) | _, _ => none
/-! len -/
def lenD (d : D) : Option D := match d with
  | .lst _ xs => some (.int xs.length)
  | .scr xs => some (.int xs.length)
  | .tup xs => some (.int xs.length)
  | .str s => if s.length ≤ 1000000 then some (.int s.length) else none
  | _ => none
theorem len_rep {M : Addr → Prop} {x : D} (hv : Rep K C M H v d F) (e : lenD d = some x) {Q : VK} (q : ∀ u, Sc u x → Q u H) : ∃ x n, [v] = [x] ∧ LenV K x H n ∧ Q (.int n) H := by
  cases d <;> simp only [lenD, reduceCtorEq, Option.some.injEq] at e
  · rename_i s
    split at e
    · rename_i hs
      obtain rfl := Option.some.inj e
      cases hv
      exact ⟨_, _, rfl, ⟨Nat.le_trans hs (by rw [sizeLine_eq]; decide), rfl⟩, q _ (.int _)⟩
    · cases e
  · subst e
    obtain ⟨a, vs, G1, rfl, h1, t1, sub⟩ := hv.lstR
    exact ⟨_, _, rfl, .inl ⟨vs, .of h1, t1.length.symm⟩, q _ (.int _)⟩
  · subst e
    cases hv with
    | scr h => exact ⟨_, _, rfl, .inl ⟨_, SqL.mono hide_le h, by simp⟩, q _ (.int _)⟩
  · subst e
    obtain ⟨a, vs, rfl, h1, t1⟩ := hv.tupR
    exact ⟨_, _, rfl, .inr ⟨vs, .inl (.inl h1), t1.length.symm⟩, q _ (.int _)⟩
theorem i_cb1 {r : List V → Hp → VK → Prop} {g : D → Option D} {f : Env → R D} {Q : VK} (o : Op1 K C (fun v H Q => r [v] H Q) g) (h : tOf K C W (lift1 g f) σ H Q) : tCB r (tCons (tOf K C W f) tNil) σ H Q := i_op1 (r := fun v H Q => r [v] H Q) o h
theorem i_cb1b {r : List V → Hp → VK → Prop} {g : D → Option D} {f : Env → Option D} {Q : VK} (o : ∀ M H v d x F Q, Rep K C M H v d F → g d = some x → (∀ u, Sc u x → Q u H) → r [v] H Q) (h : bOf K C (bop1 g f) σ H Q) : tCB r (tCons (bOf K C f) tNil) σ H Q := by
  obtain ⟨M0, env, F, rl, x, ex, h⟩ := h
  unfold bop1 at ex
  split at ex
  · rename_i d ed
    exact ⟨M0, env, F, rl, d, ed, fun v H1 s1 r1 ⟨G1, s1', h1⟩ => o _ _ _ _ _ _ _ h1 ex fun u hu => h u H1 s1 r1 ⟨[], fun _ hb => absurd hb List.not_mem_nil, hu.rep⟩⟩
  · cases ex
theorem op1_rd {r : V → Hp → VK → Prop} {g : D → Option D} (o : ∀ M H v d x F Q, Rep K C M H v d F → g d = some x → (∀ u, Sc u x → Q u H) → r v H Q) : Op1 K C r g := by
  intro M0 σ env F H v d x Q rl eg q
  have rr := rl.rep
  cases rr with
  | have_ hv _ => exact o _ _ _ _ _ _ _ hv eg fun u hu => Rel.sc1 rl hu q
theorem b_len (M : Addr → Prop) (H : Hp) (v : V) (d x : D) (F : List Addr) (Q : VK) (hv : Rep K C M H v d F) (e : lenD d = some x) (q : ∀ u, Sc u x → Q u H) : (fun xs H Q => ∃ x n, xs = [x] ∧ LenV K x H n ∧ Q (.int n) H) [v] H Q := len_rep hv e q
/-- isinstance -/
def isiD (c : String) (d : D) : Option D := match d, c with
  | .ins _ _ _ _, _ => none
  | .hole, _ => none
  | .exc, _ => none
  | .non, _ => some (.bl false)
  | .bl _, "int" => some (.bl true) | .bl _, "bool" => some (.bl true) | .bl _, _ => some (.bl false)
  | .int _, "int" => some (.bl true) | .int _, _ => some (.bl false)
  | .str _, "str" => some (.bl true) | .str _, _ => some (.bl false)
  | .lst _ _, "list" => some (.bl true) | .lst _ _, _ => some (.bl false)
  | .scr _, _ => none
  | .tup _, "tuple" => some (.bl true) | .tup _, _ => some (.bl false)
  | .dK _ _ _, "dict" => some (.bl true) | .dK _ _ _, _ => some (.bl false)
  | .dT true _ _, "dict" => some (.bl true) | .dT true _ _, _ => some (.bl false)
  | .dT false _ _, _ => none
  | .tK _ _, _ => none
def knownC (c : String) : Bool := c == "int" || (c == "bool" || (c == "str" || (c == "list" || (c == "tuple" || c == "dict"))))
theorem b_isi {c : String} (hc : knownC c = true) (M : Addr → Prop) (H : Hp) (v : V) (d x : D) (F : List Addr) (Q : VK) (hv : Rep K C M H v d F) (e : isiD c d = some x) (q : ∀ u, Sc u x → Q u H) : rIsi K [v, .ty c] H Q := by
  have key : ∀ {t : String} {b : Bool}, TyX K H v (.type t) → kitB t c = some b → x = .bl b → rIsi K [v, .ty c] H Q := fun {t b} ht hk ex => ⟨v, .ty c, _, _, b, rfl, .ty c, ht, kit_ty hk, by rw [ex] at q; exact q _ (.bl b)⟩
  simp only [knownC, Bool.or_eq_true, beq_iff_eq] at hc
  have dl : ∀ a xs, H a = some (.lst xs) → TyX K H (.ref a) (.type "list") := fun a xs h => .base (.lst h)
  have dt : ∀ a xs, H a = some (.tup xs) → TyX K H (.ref a) (.type "tuple") := fun a xs h => .base (.tup h)
  have dk : ∀ a xs, H a = some (.dK xs) → TyX K H (.ref a) (.type "dict") := fun a xs h => .base (.dK h)
  have dT : ∀ a xs, H a = some (.dT xs) → TyX K H (.ref a) (.type "dict") := fun a xs h => .base (.dT h)
  cases hv with
  | non => rcases hc with rfl | rfl | rfl | rfl | rfl | rfl <;> exact key (.base .non) (by decide +kernel) (Option.some.inj e).symm
  | bl b => rcases hc with rfl | rfl | rfl | rfl | rfl | rfl <;> exact key (.base (.bl b)) (by decide +kernel) (Option.some.inj e).symm
  | int b => rcases hc with rfl | rfl | rfl | rfl | rfl | rfl <;> exact key (.base (.int b)) (by decide +kernel) (Option.some.inj e).symm
  | hole _ => simp [isiD] at e
  | exc => simp [isiD] at e
  | str b => rcases hc with rfl | rfl | rfl | rfl | rfl | rfl <;> exact key (.base (.str b)) (by decide +kernel) (Option.some.inj e).symm
  | lst h _ _ => rcases hc with rfl | rfl | rfl | rfl | rfl | rfl <;> exact key (dl _ _ (hide_le _ _ h)) (by decide +kernel) (Option.some.inj e).symm
  | own h _ => rcases hc with rfl | rfl | rfl | rfl | rfl | rfl <;> exact key (dl _ _ h) (by decide +kernel) (Option.some.inj e).symm
  | scr h => simp [isiD] at e
  | tup h _ => rcases hc with rfl | rfl | rfl | rfl | rfl | rfl <;> exact key (dt _ _ (hide_le _ _ h)) (by decide +kernel) (Option.some.inj e).symm
  | dKf h _ _ _ => rcases hc with rfl | rfl | rfl | rfl | rfl | rfl <;> exact key (dk _ _ (hide_le _ _ h)) (by decide +kernel) (Option.some.inj e).symm
  | dKo h _ _ => rcases hc with rfl | rfl | rfl | rfl | rfl | rfl <;> exact key (dk _ _ h) (by decide +kernel) (Option.some.inj e).symm
  | tK h _ _ _ => simp [isiD] at e
  | dTf h _ _ _ => simp [isiD] at e
  | dTo h _ _ => rcases hc with rfl | rfl | rfl | rfl | rfl | rfl <;> exact key (dT _ _ h) (by decide +kernel) (Option.some.inj e).symm
  | insF h _ _ _ => simp [isiD] at e
  | insO h _ _ => simp [isiD] at e
/-- isinstance(x, T) -/
theorem i_isi {c : String} {f : Env → R D} {Q : VK} (hc : knownC c = true) (h : tOf K C W (lift1 (isiD c) f) σ H Q) : tCB (rIsi K) (tCons (tOf K C W f) (tCons (tC (.ty c)) tNil)) σ H Q :=
  i_op1 (r := fun v H Q => rIsi K [v, .ty c] H Q) (op1_rd fun M H v d x F Q hv e q => b_isi hc M H v d x F Q hv e q) h
theorem i_isiB {c : String} {f : Env → Option D} {Q : VK} (hc : knownC c = true) (h : bOf K C (bop1 (isiD c) f) σ H Q) : tCB (rIsi K) (tCons (bOf K C f) (tCons (tC (.ty c)) tNil)) σ H Q := by
  obtain ⟨M0, env, F, rl, x, ex, h⟩ := h
  unfold bop1 at ex
  split at ex
  · rename_i d ed
    exact ⟨M0, env, F, rl, d, ed, fun v H1 s1 r1 ⟨G1, s1', h1⟩ => b_isi hc _ _ _ _ _ _ _ h1 ex fun u hu => h u H1 s1 r1 ⟨[], fun _ hb => absurd hb List.not_mem_nil, hu.rep⟩⟩
  · cases ex
end
end J
/-! Slices, built-ins, writes, methods, instances, exceptions. -/
namespace J
open PySem L2 PySem.Spec PyProof.Rows
section
variable {K : PySem.W.Frag} {C : CT} {W : Wish} {kp : List Nat} {M0 : Addr → Prop} {H H' H2 : Hp} {σ σ' : L2.St} {env env' : Env} {F F' F1 F2 G G' : List Addr} {v w : V} {d e : D} {l : Addr} {o : HO} {X : Cx}
/-! ### slices -/
def oOf (K : PySem.W.Frag) (C : CT) (W : Wish) (f : Env → R D) : TO := fun σ H Q => tOf K C W f σ H fun v H' => ∀ p, (v = .non ∧ p = none ∨ ∃ i, v = .int i ∧ p = some i) → Q p H'
theorem i_oN {Q : Option Int → Hp → Prop} (h : oOf K C W (okC .non) σ H Q) : tNoPart σ H Q := by
  have := i_okC .non h
  exact this none (.inl ⟨rfl, rfl⟩)
/-- a part of a slice: an int -/
def asI (f : Env → R D) : Env → R D := fun env => match f env with
  | .ok (.int i) e => .ok (.int i) e
  | .ex c ns vs e => .ex c ns vs e
  | _ => .no
theorem i_oP {f : Env → R D} {Q : Option Int → Hp → Prop} (h : oOf K C W (asI f) σ H Q) : tPart (tOf K C W f) σ H Q := by
  obtain ⟨M0, env, F, r, h⟩ := h
  refine ⟨M0, env, F, r, ?_⟩
  cases ef : f env with
  | no => simp only [asI, ef] at h; exact h
  | ex c ns ds e => simp only [asI, ef] at h; exact h
  | ok d e =>
    cases d with
    | int i =>
      simp only [asI, ef] at h
      intro v H' F' r' s'
      have q := h v H' F' r' s'
      have rr := r'.rep
      cases rr with
      | have_ hv _ => cases hv; exact ⟨i, rfl, q (some i) (.inr ⟨i, rfl, rfl⟩)⟩
    | _ => simp only [asI, ef] at h; exact h.elim
/-- a cut of a list -/
def cutD (xs : List D) (lo hi : Option Int) : List D := (xs.drop (HT.sIx xs.length 0 lo)).take (HT.sIx xs.length xs.length hi - HT.sIx xs.length 0 lo)
theorem cutD_all {xs : List D} {lo hi : Option Int} (hw : HT.sIx xs.length 0 lo = 0 ∧ HT.sIx xs.length xs.length hi = xs.length) : cutD xs lo hi = xs := by
  unfold cutD
  rw [hw.1, hw.2, List.drop_zero, Nat.sub_zero, List.take_length]
def prt (d : D) : Option (Option Int) := match d with | .non => some none | .int i => some (some i) | _ => none
def slD (d l u : D) : Option D := match prt l, prt u with
  | some lo, some hi => (match d with
    | .lst _ xs => if D.noOwnL xs then some (.lst true (cutD xs lo hi)) else none
    | .scr xs => some (.lst true (cutD xs lo hi))
    | .tup xs => if D.noOwnL xs then some (.tup (cutD xs lo hi)) else none
    | _ => none)
  | _, _ => none
def slF (f lo hi : Env → R D) : Env → R D := fun env => (f env).bind fun d e1 => (lo e1).bind fun l e2 => (hi e2).bind fun u e3 => match slD d l u with | some x => .ok x e3 | none => .no
def rSl (K : PySem.W.Frag) : V → Option Int → Option Int → Hp → VK → Prop := fun x lo hi H Q => rSlL K x lo hi H Q ∨ rSlA K x lo hi H Q
theorem sl_any : SlR X (rSl X.K) := SlR.or sl_list sl_tupA
theorem RepL.drop_ {M : Addr → Prop} : ∀ (n : Nat) {vs : List V} {ds : List D}, RepL K C M H vs ds [] → RepL K C M H (vs.drop n) (ds.drop n) []
  | 0, _, _, h => h
  | n + 1, [], [], _ => .nil
  | n + 1, v :: vs, d :: ds, h => by
    generalize hF : ([] : List Addr) = F at h
    cases h with
    | cons a t =>
      obtain ⟨rfl, rfl⟩ := List.append_eq_nil_iff.mp hF.symm
      exact RepL.drop_ n t
  | n + 1, [], _ :: _, h => nomatch h.length
  | n + 1, _ :: _, [], h => nomatch h.length
theorem RepL.take_ {M : Addr → Prop} : ∀ (n : Nat) {vs : List V} {ds : List D}, RepL K C M H vs ds [] → RepL K C M H (vs.take n) (ds.take n) []
  | 0, _, _, h => .nil
  | n + 1, [], [], _ => .nil
  | n + 1, v :: vs, d :: ds, h => by
    generalize hF : ([] : List Addr) = F at h
    cases h with
    | cons a t =>
      obtain ⟨rfl, rfl⟩ := List.append_eq_nil_iff.mp hF.symm
      exact .cons (F := []) (G := []) a (RepL.take_ n t)
  | n + 1, [], _ :: _, h => nomatch h.length
  | n + 1, _ :: _, [], h => nomatch h.length
theorem RepL.cut {M : Addr → Prop} {vs : List V} {ds : List D} (h : RepL K C M H vs ds []) (lo hi : Option Int) : RepL K C M H (cutV vs lo hi) (cutD ds lo hi) [] := by
  unfold cutV cutD
  rw [h.length]
  exact (h.drop_ _).take_ _
theorem ints_repL {M : Addr → Prop} : ∀ ns : List Int, RepL K C M H (ns.map V.int) (ns.map D.int) []
  | [] => .nil
  | _ :: t => .cons (F := []) (G := []) (.int _) (ints_repL t)
theorem Rel.three {a b c : V} {x y z : D} (r : Rel K C M0 H (some a :: some b :: some c :: σ) (some x :: some y :: some z :: env) F) : (∃ G, Rep K C (orF M0 F) H a x G) ∧ (∃ G, Rep K C (orF M0 F) H b y G) ∧ (∃ G, Rep K C (orF M0 F) H c z G) ∧ ∃ F', Rel K C M0 H σ env F' ∧ ∀ b ∈ F', b ∈ F := by
  obtain ⟨F4, r4, s4⟩ := r.drop
  obtain ⟨F5, r5, s5⟩ := r4.drop
  obtain ⟨F6, r6, s6⟩ := r5.drop
  have rr := r.rep
  cases rr with
  | have_ h1 t => cases t with
    | have_ h2 t => cases t with
      | have_ h3 t => exact ⟨⟨_, h1⟩, ⟨_, h2⟩, ⟨_, h3⟩, F6, r6, fun b hb => s4.subset (s5.subset (s6.subset hb))⟩
/-- a new list of data, in the place of what stood above σ -/
theorem Rel.newL_ {xs : List D} {vs : List V} {F0 : List Addr} (r : Rel K C M0 H σ env F0) (sub : ∀ b ∈ F0, b ∈ F) (t : RepL K C (orF M0 F) H vs xs []) {p : Addr} (np : H p = none) : ∃ F', Rel K C M0 (upd H p (.lst vs)) (some (.ref p) :: σ) (some (.lst true xs) :: env) F' ∧ Stp F H F' (upd H p (.lst vs)) := by
  obtain ⟨r6, s6⟩ := Rel.new (p := p) (o := .lst vs) (x := .lst true xs) r np fun M' hM => .own (F := []) upd_same (repL_mono (hide_mono (new_same np) fun b z => (hM b z).imp (fun q => q.imp id (sub b)) fun q => by rw [q]; exact np) t fun _ hb => absurd hb List.not_mem_nil)
  exact ⟨_, r6, (Stp.sub sub).trans s6⟩
theorem Rel.newT_ {xs : List D} {vs : List V} {F0 : List Addr} (r : Rel K C M0 H σ env F0) (sub : ∀ b ∈ F0, b ∈ F) (t : RepL K C (orF M0 F) H vs xs []) {p : Addr} (np : H p = none) : ∃ F', Rel K C M0 (upd H p (.tup vs)) (some (.ref p) :: σ) (some (.tup xs) :: env) F' ∧ Stp F H F' (upd H p (.tup vs)) := by
  obtain ⟨r6, s6⟩ := Rel.newData (p := p) (o := .tup vs) (x := .tup xs) r np fun M' hM nM => .tup (F := []) (by rw [hide_out nM, upd_same]) (repL_mono (hide_mono (new_same np) fun b z => .inl ((hM b z).imp id (sub b))) t fun _ hb => absurd hb List.not_mem_nil)
  exact ⟨_, r6, (Stp.sub sub).trans s6⟩
theorem i_sl {f lo hi : Env → R D} {Q : VK} (h : tOf K C W (slF f lo hi) σ H Q) : tSl (rSl K) (tOf K C W f) (oOf K C W lo) (oOf K C W hi) σ H Q := by
  refine then_tOf (k := fun d e1 => (lo e1).bind fun l e2 => (hi e2).bind fun u e3 => match slD d l u with | some x => .ok x e3 | none => .no) (t := fun v σ H1 Q => oOf K C W lo σ H1 fun l H2 => oOf K C W hi σ H2 fun u H3 => rSl K v l u H3 Q) h ?_
  intro d e1 v H1 M0 F r1 h1
  refine below_tOf r1 h1 ?_
  intro x e2 w H2 F2 r2 h2 p hp
  -- both values put aside
  obtain ⟨G1, G2, eG, hpp, r3⟩ := Rel.pops (σ1 := [some v, some w]) (e1 := [some d, some x]) r2 rfl
  refine ⟨orF M0 G1, e2, G2, r3, ?_⟩
  cases eh : hi e2 with
  | no => rw [eh] at h2; exact h2
  | ex c ns ds e => rw [eh] at h2; subst eG; exact ExOk.lift h2 .refl
  | ok y e3 =>
    rw [eh] at h2
    intro u H3 F3 r4 s4 p2 hp2
    obtain ⟨r5, s5⟩ := Rel.backs r2 G1 G2 eG hpp r4 s4
    have h3 : okT K C W M0 σ F2 H2 Q (match slD d x y with | some z => .ok z e3 | none => .no) := h2
    have r5 : Rel K C M0 H3 (some v :: some w :: some u :: σ) (some d :: some x :: some y :: e3) (G1 ++ F3) := r5
    cases ez : slD d x y with
    | none => rw [ez] at h3; exact h3.elim
    | some z =>
      rw [ez] at h3
      obtain ⟨⟨Ga, ha⟩, ⟨Gb, hb⟩, ⟨Gc, hc⟩, F6, r6, sub⟩ := r5.three
      have fin : ∀ u H' F', Rel K C M0 H' (some u :: σ) (some z :: e3) F' → Stp (G1 ++ F3) H3 F' H' → Q u H' := fun u H' F' r s => h3 u H' F' r (s5.trans s)
      have pe : ∀ {v : V} {d : D} {G : List Addr} {p : Option Int} {q : Option Int}, Rep K C (orF M0 (G1 ++ F3)) H3 v d G → (v = .non ∧ p = none ∨ ∃ i, v = .int i ∧ p = some i) → prt d = some q → p = q := by
        intro v d G p q hr hv hd
        rcases hv with ⟨rfl, rfl⟩ | ⟨i, rfl, rfl⟩
        · cases hr <;> first | exact Option.some.inj hd | (simp [prt] at hd)
        · cases hr <;> first | exact Option.some.inj hd | (simp [prt] at hd)
      unfold slD at ez
      split at ez
      case h_2 => cases ez
      rename_i lo' hi' e1' e2'
      obtain rfl := pe hb hp e1'
      obtain rfl := pe hc hp2 e2'
      cases d <;> simp only [reduceCtorEq] at ez
      · split at ez
        · rename_i hn
          obtain rfl := Option.some.inj ez
          obtain ⟨a, vs, G7, rfl, h7, t7, _⟩ := ha.lstR
          refine .inl ⟨a, vs, rfl, .of h7, fun p np => ?_⟩
          obtain ⟨F8, r8, s8⟩ := Rel.newL_ r6 sub ((t7.nn hn).cut _ _) np
          exact fin _ _ F8 r8 s8
        · cases ez
      · obtain rfl := Option.some.inj ez
        cases ha with
        | scr h7 =>
          refine .inl ⟨_, _, rfl, SqL.mono hide_le h7, fun p np => ?_⟩
          obtain ⟨F8, r8, s8⟩ := Rel.newL_ r6 sub ((ints_repL _).cut _ _) np
          exact fin _ _ F8 r8 s8
      · split at ez
        · rename_i hn
          obtain rfl := Option.some.inj ez
          have ha0 := ha
          obtain ⟨a, vs, rfl, h7, t7⟩ := ha.tupR
          have t8 := t7.nn hn
          refine .inr ⟨a, vs, rfl, .inl (.inl h7), fun hw => ?_, fun hw p np => ?_⟩
          · rw [t7.length] at hw
            rw [cutD_all hw] at fin
            obtain ⟨rfl, _⟩ := fz_noOwnL t7 hn
            exact fin _ H3 F6 (Rel.data r6 (rep_mono (hide_mono (.refl _) fun b z => .inl (z.imp id (sub b))) ha0 fun _ hb => absurd hb List.not_mem_nil)) (.sub sub)
          · obtain ⟨F8, r8, s8⟩ := Rel.newT_ r6 sub (t8.cut _ _) np
            exact fin _ _ F8 r8 s8
        · cases ez
/-! ### built-ins of one argument -/
theorem Op1.or {r r' : V → Hp → VK → Prop} {g g' : D → Option D} (h : Op1 K C r g) (h' : Op1 K C r' g') : Op1 K C (fun x H Q => r x H Q ∨ r' x H Q) (fun d => (g d).or (g' d)) := by
  intro M0 σ env F H v d x Q rl eg q
  have eg : (g d).or (g' d) = some x := eg
  cases e1 : g d with
  | some y =>
    rw [e1] at eg
    obtain rfl : y = x := by simpa using eg
    exact .inl (h M0 σ env F H v d y Q rl e1 q)
  | none =>
    rw [e1] at eg
    exact .inr (h' M0 σ env F H v d x Q rl (by simpa using eg) q)
def listD (d : D) : Option D := match d with
  | .lst _ xs => if D.noOwnL xs then some (.lst true xs) else none
  | .scr xs => some (.lst true xs)
  | .tup xs => if D.noOwnL xs then some (.lst true xs) else none
  | _ => none
theorem p_list : Op1 K C (fun v H Q => ∃ p ys, [v] = [V.ref p] ∧ (SqL K H p ys ∨ SqT K H p ys) ∧ ∀ l, H l = none → Q (.ref l) (upd H l (.lst ys))) listD := by
  intro M0 σ env F H v d x Q rl eg q
  obtain ⟨F4, r4, s4⟩ := rl.drop
  have sub : ∀ b ∈ F4, b ∈ F := fun b hb => s4.subset hb
  have rr := rl.rep
  cases rr with
  | have_ hv _ =>
    cases d <;> simp only [listD, reduceCtorEq] at eg
    · split at eg
      · rename_i hn
        obtain rfl := Option.some.inj eg
        obtain ⟨a, vs, G7, rfl, h7, t7, _⟩ := hv.lstR
        refine ⟨a, vs, rfl, .inl (.of h7), fun p np => ?_⟩
        obtain ⟨F8, r8, s8⟩ := Rel.newL_ r4 sub (t7.nn hn) np
        exact q _ _ F8 r8 s8
      · cases eg
    · obtain rfl := Option.some.inj eg
      cases hv with
      | scr h7 =>
        refine ⟨_, _, rfl, .inl (SqL.mono hide_le h7), fun p np => ?_⟩
        obtain ⟨F8, r8, s8⟩ := Rel.newL_ r4 sub (ints_repL _) np
        exact q _ _ F8 r8 s8
    · split at eg
      · rename_i hn
        obtain rfl := Option.some.inj eg
        obtain ⟨a, vs, rfl, h7, t7⟩ := hv.tupR
        refine ⟨a, vs, rfl, .inr (.inl (.inl h7)), fun p np => ?_⟩
        obtain ⟨F8, r8, s8⟩ := Rel.newL_ r4 sub (t7.nn hn) np
        exact q _ _ F8 r8 s8
      · cases eg
def tupleD (d : D) : Option D := match d with
  | .lst _ xs => if D.noOwnL xs then some (.tup xs) else none
  | .tup xs => if D.noOwnL xs then some (.tup xs) else none
  | _ => none
def intD (d : D) : Option D := match d with | .int i => some (.int i) | .bl k => some (.int (if k then 1 else 0)) | _ => none
theorem p_int : Op1 K C (fun v H Q => (∃ i, [v] = [V.int i] ∧ Q (.int i) H) ∨ ∃ k, [v] = [V.bl k] ∧ Q (.int (if k then 1 else 0)) H) intD := by
  intro M0 σ env F H v d x Q rl eg q
  have rr := rl.rep
  cases rr with
  | have_ hv _ =>
    cases d <;> simp only [intD, reduceCtorEq] at eg
    · obtain rfl := Option.some.inj eg
      cases hv
      exact .inr ⟨_, rfl, Rel.sc1 rl (.int _) q⟩
    · obtain rfl := Option.some.inj eg
      cases hv
      exact .inl ⟨_, rfl, Rel.sc1 rl (.int _) q⟩
def negD (d : D) : Option D := match d with | .int i => some (.int (-i)) | _ => none
theorem p_neg : Op1 K C (rU fun i => .int (-i)) negD := by
  intro M0 σ env F H v d x Q rl eg q
  have rr := rl.rep
  cases rr with
  | have_ hv _ =>
    cases d <;> simp only [negD, reduceCtorEq] at eg
    obtain rfl := Option.some.inj eg
    cases hv
    exact ⟨_, rfl, Rel.sc1 rl (.int _) q⟩
/-- lists of ints, of bools -/
def intsD : List D → Option (List Int)
  | [] => some []
  | .int i :: r => (intsD r).map (i :: ·)
  | _ => none
def blsD : List D → Option (List Bool)
  | [] => some []
  | .bl i :: r => (blsD r).map (i :: ·)
  | _ => none
theorem blsD_vs {M : Addr → Prop} : ∀ {vs : List V} {ds : List D} {F : List Addr} {ns : List Bool}, RepL K C M H vs ds F → blsD ds = some ns → vs = ns.map V.bl
  | _, _, _, _, .nil, e => by simp [blsD] at e; subst e; rfl
  | _, d :: _, _, _, .cons h t, e => by
    cases d <;> simp [blsD] at e
    obtain ⟨ms, h1, rfl⟩ := e
    cases h
    rw [blsD_vs t h1]; rfl
def allD (d : D) : Option D := match d with | .lst _ xs => (blsD xs).map fun bs => .bl (bs.all id) | _ => none
theorem p_all : Op1 K C (fun v H Q => rAll K [v] H Q) allD := by
  intro M0 σ env F H v d x Q rl eg q
  have rr := rl.rep
  cases rr with
  | have_ hv _ =>
    cases d <;> simp only [allD, reduceCtorEq, Option.map_eq_some_iff] at eg
    obtain ⟨ns, h1, rfl⟩ := eg
    obtain ⟨a, vs, G7, rfl, h7, t7, _⟩ := hv.lstR
    rw [blsD_vs t7 h1] at h7
    exact ⟨a, ns, rfl, .of h7, Rel.sc1 rl (.bl _) q⟩
/-- two arguments -/
def maxD (d e : D) : Option D := match d, e with | .int i, .int j => some (.int (if j > i then j else i)) | _, _ => none
def minD (d e : D) : Option D := match d, e with | .int i, .int j => some (.int (if j < i then j else i)) | _, _ => none
theorem i_cb2 {r : List V → Hp → VK → Prop} {g : D → D → Option D} {f f2 : Env → R D} {Q : VK} (o : Op2 K C (fun v w H Q => r [v, w] H Q) g) (h : tOf K C W (lift2 g f f2) σ H Q) : tCB r (tCons (tOf K C W f) (tCons (tOf K C W f2) tNil)) σ H Q := i_op2 (r := fun v w H Q => r [v, w] H Q) o h
theorem p_max : Op2 K C (fun v w H Q => ∃ i j, [v, w] = [V.int i, V.int j] ∧ Q (.int (if j > i then j else i)) H) maxD := by
  intro M0 σ env F H v w d e x Q r eg q
  obtain ⟨F1, F2, F3, eF, hv, hw, _⟩ := r.two
  unfold maxD at eg
  split at eg
  · cases hv; cases hw
    obtain rfl := Option.some.inj eg
    exact ⟨_, _, rfl, Rel.sc2 r (.int _) q⟩
  · cases eg
/-- repr -/
def reprD (d : D) : Option D := if d.okP && (d.toP.showable && (decide (d.toP.depth ≤ 60) && decide (d.toP.shown.length ≤ 1000000))) then some (.str d.toP.shown) else none
end
end J
/-! Writes at places, methods, instances. -/
namespace J
open PySem L2 PySem.Spec PyProof.Rows
section
variable {K : PySem.W.Frag} {C : CT} {W : Wish} {kp : List Nat} {M0 : Addr → Prop} {H H' H2 : Hp} {σ σ' : L2.St} {env env' : Env} {F F' F1 F2 G G' : List Addr} {v w : V} {d e : D} {l : Addr} {o : HO} {X : Cx}
/-! ### an item taken out, put back -/
theorem RepL.out {M : Addr → Prop} : ∀ {vs : List V} {ds : List D} {F : List Addr} {j : Nat} {d : D}, RepL K C M H vs ds F → ds[j]? = some d → ∃ v G F1 F2, vs[j]? = some v ∧ Rep K C M H v d G ∧ F = F1 ++ (G ++ F2) ∧ ∀ x x', Rep K C M H x' x [] → RepL K C M H (vs.set j x') (ds.set j x) (F1 ++ F2)
  | _, _, _, _, _, .nil, e => by simp at e
  | _, _, _, 0, d, .cons (F := F0) (G := G0) h t, e => by
    simp only [List.getElem?_cons_zero, Option.some.injEq] at e
    subst e
    exact ⟨_, F0, [], G0, rfl, h, rfl, fun x x' hx => .cons (F := []) hx t⟩
  | _, _, _, j + 1, d, .cons (F := F0) h t, e => by
    obtain ⟨v, G, F1, F2, h1, h2, h3, h4⟩ := RepL.out t (j := j) (d := d) (by simpa using e)
    exact ⟨v, G, F0 ++ F1, F2, by simpa using h1, h2, by rw [h3]; simp, fun x x' hx => by rw [List.append_assoc]; exact .cons h (h4 x x' hx)⟩
theorem RepL.set_ {M : Addr → Prop} : ∀ {vs : List V} {ds : List D} {F : List Addr} {j : Nat}, RepL K C M H vs ds F → j < ds.length → Rep K C M H v d G → ∃ F1 F2 F3, F = F1 ++ (F2 ++ F3) ∧ RepL K C M H (vs.set j v) (ds.set j d) (F1 ++ (G ++ F3))
  | _, _, _, _, .nil, hj, _ => by simp at hj
  | _, _, _, 0, .cons (F := F0) (G := G0) h t, _, hv => ⟨[], F0, G0, rfl, by have hh := RepL.cons hv t; exact hh⟩
  | _, _, _, j + 1, .cons (F := F0) h t, hj, hv => by
    obtain ⟨F1, F2, F3, e, q⟩ := RepL.set_ t (j := j) (by simpa using hj) hv
    exact ⟨F0 ++ F1, F2, F3, by rw [e]; simp, by rw [List.append_assoc]; exact .cons h q⟩
/-- xs[j] = v: the list and the value on top -/
theorem Rel.setAt {xs : List D} {j : Nat} (r : Rel K C M0 H (some (.ref l) :: some v :: σ) (some (.lst true xs) :: some d :: env) F) (hj : j < xs.length) :
    ∃ ys F', H l = some (.lst ys) ∧ ys.length = xs.length ∧ Rel K C M0 (upd H l (.lst (ys.set j v))) (some (.ref l) :: σ) (some (.lst true (xs.set j d)) :: env) F' ∧ Stp F H F' (upd H l (.lst (ys.set j v))) := by
  obtain ⟨rep, nd, dj, al, zd⟩ := r
  cases rep with
  | have_ h t =>
    cases t with
    | have_ hv t =>
      cases h with
      | own hl tl =>
        rename_i F1 F2 ys G
        obtain ⟨A1, A2, A3, eG, q⟩ := RepL.set_ tl hj hv
        have eq : (l :: G) ++ (F1 ++ F2) = l :: ((G ++ F1) ++ F2) := by simp
        rw [eq] at nd dj t hv tl q zd ⊢
        have nd0 := List.nodup_cons.mp nd
        have ndG := (List.nodup_append.mp nd0.2).1
        have sub : ∀ b ∈ A1 ++ (F1 ++ A3), b ∈ G ++ F1 := fun b hb => by
          rw [eG]; simp only [List.mem_append] at hb ⊢; rcases hb with h | h | h <;> simp [h]
        have nd' : (A1 ++ (F1 ++ A3)).Nodup := by
          rw [eG] at ndG
          rw [List.nodup_append] at ndG
          obtain ⟨a, b, c⟩ := ndG
          have a' : (A1 ++ A3).Nodup := a.sublist ((List.sublist_append_right A2 A3).append_left A1)
          refine nodup_mid (List.nodup_append.mpr ⟨b, a', fun x hx y hy => ?_⟩)
          refine fun e => c y ?_ x hx e.symm
          simp only [List.mem_append] at hy ⊢
          rcases hy with h | h <;> simp [h]
        obtain ⟨r2, s2⟩ := own_write (G := G ++ F1) (G' := A1 ++ (F1 ++ A3)) (o := .lst (ys.set j v)) (x := .lst true (xs.set j d)) nd dj al zd t nd' sub fun M' hM ml => .own upd_same (by
          have h3 := repL_upd (o := .lst (ys.set j v)) (.inr (List.mem_cons_self ..)) (fun z => nd0.1 (List.mem_append_left _ (sub _ z))) q
          exact repL_mono (hide_mono (.refl _) fun b z => .inl (hM b z)) h3 fun _ _ _ e => e)
        exact ⟨ys, _, hl, tl.length, r2, s2⟩
/-- an item that is owned: taken out of its list -/
theorem Rel.item {xs : List D} {j : Nat} {x : D} (r : Rel K C M0 H (some v :: σ) (some (.lst true xs) :: env) F) (hj : xs[j]? = some x) :
    ∃ a ys u F', v = .ref a ∧ H a = some (.lst ys) ∧ ys[j]? = some u ∧ Rel K C M0 H (some u :: some v :: σ) (some x :: some (.lst true (xs.set j .hole)) :: env) F' ∧ ∀ b ∈ F', b ∈ F := by
  obtain ⟨rep, nd, dj, al, zd⟩ := r
  cases rep with
  | have_ h t =>
    cases h with
    | own hl tl =>
      rename_i F2 a ys G
      obtain ⟨u, Gx, A1, A2, hu, hx, eG, q⟩ := RepL.out tl hj
      have q := q .hole u (.hole u)
      have es : ys.set j u = ys := by
        have lj : j < ys.length := by
          rcases Nat.lt_or_ge j ys.length with z | z
          · exact z
          · rw [List.getElem?_eq_none z] at hu; cases hu
        rw [List.getElem?_eq_getElem lj] at hu
        have := Option.some.inj hu
        conv => lhs; rw [← this]
        exact List.set_getElem_self lj
      rw [es] at q
      have m : ∀ b, b ∈ Gx ++ ((a :: (A1 ++ A2)) ++ F2) ↔ b ∈ (a :: G) ++ F2 := fun b => by
        rw [eG]; simp only [List.mem_append, List.mem_cons]
        exact ⟨fun h => by rcases h with h | (h | h | h) | h <;> simp [h], fun h => by rcases h with (h | h | h | h) | h <;> simp [h]⟩
      have em : orF M0 ((a :: G) ++ F2) = orF M0 (Gx ++ ((a :: (A1 ++ A2)) ++ F2)) := by
        funext b; simp only [orF]; exact propext (or_congr_right (m b).symm)
      refine ⟨a, ys, u, Gx ++ ((a :: (A1 ++ A2)) ++ F2), rfl, hl, hu, ⟨?_, ?_, fun b hb => dj b ((m b).mp hb), al, by rw [← em]; exact zd⟩, fun b hb => (m b).mp hb⟩
      · rw [em] at hx q t
        exact .have_ hx (.have_ (.own hl q) t)
      · have nd2 : ((a :: A1) ++ (Gx ++ (A2 ++ F2))).Nodup := by rw [eG] at nd; simpa [List.append_assoc] using nd
        have := nodup_mid (F1 := Gx) (G := a :: A1) (F2 := A2 ++ F2) nd2
        simpa [List.append_assoc] using this
/-! ### xs.append(e), at a slot -/
def appO (i : Nat) (f : Env → R D) : Env → Out := fun env => match env[i]? with
  | some (some (.lst true _)) => (match f env with
    | .ok d e => (match e[i]? with
      | some (some (.lst true xs)) => if xs.length < 1000000 then .nx (e.set i (some (.lst true (xs ++ [d])))) else .no
      | _ => .no)
    | .ex c ns vs e => .ex c ns vs e
    | .no => .no)
  | _ => .no
theorem i_app {i : Nat} {f : Env → R D} {E : Ends} (h : tS K C W kp (appO i f) E σ H) : tDrop (tBM K "list" rAppend (tVar i) (tCons (tOf K C W f) tNil)) E σ H := by
  obtain ⟨M0, env, F, r, h⟩ := h
  unfold appO at h
  split at h
  case h_2 => exact h.elim
  rename_i xs0 e0
  obtain ⟨v0, G, A1, A2, hσ, hv0, eF, _⟩ := r.rep.at e0
  obtain ⟨l, vs0, _, rfl, hl0, _, _⟩ := hv0.lstR
  refine ⟨.ref l, hσ, .inl ⟨rfl, _, .of hl0⟩, M0, env, F, r, ?_⟩
  cases ef : f env with
  | no => rw [ef] at h; exact h
  | ex c ns ds e => rw [ef] at h; exact exS h
  | ok d e =>
    rw [ef] at h
    intro v H1 F1 r1 s1
    have h : okS K C W kp M0 σ F H E (match e[i]? with
      | some (some (.lst true xs)) => if xs.length < 1000000 then .nx (e.set i (some (.lst true (xs ++ [d])))) else .no
      | _ => .no) := h
    split at h
    case h_2 => exact h.elim
    rename_i xs ei
    split at h
    case isFalse => exact h.elim
    rename_i hz
    have e1 : (some d :: e)[i + 1]? = some (some (.lst true xs)) := by simpa using ei
    obtain ⟨v', F2, hσ', r2, s2⟩ := r1.take e1
    obtain rfl : v' = .ref l := by
      have : (some v :: σ)[i + 1]? = σ[i]? := by simp
      rw [this, hσ] at hσ'
      simpa using hσ'.symm
    obtain ⟨ys, F3, hl, ly, r3, s3⟩ := Rel.append (l := l) r2
    obtain ⟨F4, r4, s4⟩ := r3.put (i := i) hσ
    rw [List.set_set] at r4
    refine ⟨l, ys, v, rfl, rfl, hl, Nat.lt_of_lt_of_le (by omega : ys.length < 1000000) (by rw [sizeLine_eq]; decide), ?_⟩
    exact h σ _ F4 r4 (s1.trans ((Stp.sub s2).trans (s3.trans (.sub s4)))) Kp.rfl
/-! ### xs[i] = e, at a slot -/
def put1G (i : Nat) (fk : Env → Option D) : D → Env → Option Env := fun d env => match fk env, env[i]? with
  | some (.int k), some (some (.lst true xs)) => (match ixN xs.length k with
    | some j => some (env.set i (some (.lst true (xs.set j d))))
    | none => none)
  | _, _ => none
theorem ixN_lt {n : Nat} {i : Int} {j : Nat} (h : ixN n i = some j) : j < n := (ixN_seq h).2.1
/-- an evaluation that reads alone, below a value -/
theorem Rel.below (r : Rel K C M0 H (some v :: σ) (some d :: env) F) : ∃ F1 F2, F = F1 ++ F2 ∧ Rep K C (orF M0 F) H v d F1 ∧ Rel K C (orF M0 F1) H σ env F2 := r.pop
theorem i_put1 {i : Nat} {fk : Env → Option D} {Q : L2.St → Hp → Prop} (h : gOf K C kp (put1G i fk) v σ H Q) : gSub (tVar i) (bOf K C fk) rSetL v σ H Q := by
  obtain ⟨M0, d, env, F, e, r, eg, h⟩ := h
  unfold put1G at eg
  split at eg
  case h_2 => cases eg
  rename_i k xs ek ei
  split at eg
  case h_2 => cases eg
  rename_i j ej
  obtain rfl := Option.some.inj eg
  obtain ⟨G1, G2, eG, hv, r2⟩ := r.pop
  obtain ⟨v0, _, _, _, hσ, hv0, _, _⟩ := r2.rep.at ei
  obtain ⟨l, ys, _, rfl, hl, tl, _⟩ := hv0.lstR
  refine ⟨.ref l, hσ, orF M0 G1, env, G2, r2, .int k, ek, fun u H1 s1 r3 ⟨G3, _, hu⟩ => ?_⟩
  cases hu
  have r4 := r.grow s1
  have e1 : (some d :: env)[i + 1]? = some (some (.lst true xs)) := by simpa using ei
  obtain ⟨v', F2, hσ', r5, s5⟩ := r4.take e1
  obtain rfl : v' = .ref l := by
    have : (some v :: σ)[i + 1]? = σ[i]? := by simp
    rw [this, hσ] at hσ'
    simpa using hσ'.symm
  obtain ⟨zs, F3, hl2, ly, r6, s6⟩ := Rel.setAt (l := l) r5 (ixN_lt ej)
  obtain ⟨F4, r7, s7⟩ := r6.put (i := i) hσ
  rw [List.set_set] at r7
  refine ⟨l, zs, k, j, rfl, rfl, hl2, by rw [ly]; exact ej, h σ _ F4 r7 ?_ Kp.rfl⟩
  exact (Stp.same s1 fun b hb => .inl hb).trans ((Stp.sub s5).trans (s6.trans (.sub s7)))
/-- xs[a][b] = e -/
def put2G (i : Nat) (fa fb : Env → Option D) : D → Env → Option Env := fun d env => match fa env, fb env, env[i]? with
  | some (.int a), some (.int b), some (some (.lst true rows)) => (match ixN rows.length a with
    | some ja => (match rows[ja]? with
      | some (.lst true xs) => (match ixN xs.length b with
        | some j => some (env.set i (some (.lst true (rows.set ja (.lst true (xs.set j d))))))
        | none => none)
      | _ => none)
    | none => none)
  | _, _, _ => none
/-! ### fields, methods, instances -/
def lookD : List Str → List D → Str → Option D
  | n :: ns, d :: ds, f => if f == n then some d else lookD ns ds f
  | _, _, _ => none
/-- o.f, read alone -/
def fldB (c : Nat) (f : Str) (g : Env → Option D) : Env → Option D := fun env => match g env with
  | some (.ins _ c' ns ds) => if c' = c then lookD ns ds f else none
  | _ => none
/-- what is called as a method -/
def recv (c : Nat) (m : Str) (d : D) : Bool := match d with
  | .ins _ c' ns _ => c' == c && !ns.contains m
  | _ => false
def methF (c : Nat) (m : Str) (run : List D → R D) (f : Env → R D) (g : Env → R (List D)) (lk : List (Nat × Nat)) : Env → R D := fun env => (f env).bind fun d e => if recv c m d then callF run (lkV lk) (fun e => (g e).bind fun ds e2 => .ok (d :: ds) e2) e else .no
/-- C(..): a new instance, then __init__ -/
def makeF (c : Nat) (run : List D → R D) (lk : List (Nat × Nat)) (af : Env → R (List D)) : Env → R D := fun env => (af env).bind fun ds e => match run (.ins true c [] [] :: ds) with
  | .ok .non (some d :: outs) => .ok d (relink lk outs e)
  | .ex c ns xs (_ :: outs) => .ex c ns xs (relink lk outs e)
  | _ => .no
end
section
variable {X : Cx} {C f : Addr} {k : Nat} {fd : FuncData} {ps : List Str} {sp : Sp} {dvs : List V} {ds : List Value} {W : WX} {x : Str} {p pos : Pos} {e : Expr} {es : List Expr} {t : TA}
/-! keywords -/
def tCallKU (sp : Sp) (gV : List V → List V → List V) (E : L2.St → XK) (t tk : TA) : TE := fun σ H Q => t σ H fun vs H1 => tk σ H1 fun zs H2 => sp (gV vs zs) H2 Q (E σ)
theorem pe_callKU {ks : List Str} {g : List Value → List Value → List Value} {gV : List V → List V → List V} {kws : List Keyword} {tk : TA} (F : FnU X.prog X.w X.K X.mg X.base k f fd ps sp) (hG : X.A.guards = some []) (hr : Room k X.A) (hg : Gl X x) (hm : X.mg x = some (.ref f)) (hk : PySem.W.keepIn X.K (.ref f) = true) (hb : KBinds X.K fd ps ks g gV) (tw : Takes X W)
    (ha : PA X (e :: es) t) (hkw : PK X kws tk) (hall : (backToKw pos (keywordEach kws X.env)).all (·.1.isSome) = true := by rfl) (hks : (backToKw pos (keywordEach kws X.env)).filterMap (·.1) = ks := by rfl)
    (hdb : (x == ("__debug__" : Str)) = false := by decide) (he : starEach (e :: es) X.env = (false, eval e X.env) :: starEach es X.env := by rfl)
    (hpl : ((backTo pos (starEach (e :: es) X.env)).any (·.1) || (backToKw pos (keywordEach kws X.env)).any (·.1.isNone)) = false := by rfl) :
    PE X (.Call (.Name x p) (e :: es) kws pos) (tCallKU sp gV (WE W) t tk) := by
  refine ⟨fun pins s σ H Q I h => ?_⟩
  refine wpAny_Call_Name_kw (ld_glob I hg hm ?_ hdb)
  refine PySem.W.callWith_KW (h₀ := X.base) I.ok.mod.kin hk hall (thn (ha.run pos pins s σ H _ I h) fun us s1 ⟨vs, H1, I1, r, q⟩ => ?_) hpl he
  refine thn (hkw.run pos pins s1 σ H1 _ I1 q) fun ws s2 ⟨zs, H2, I2, rz, q2⟩ => ⟨I2.kIn, ?_⟩
  rw [hks]
  have r2 := hb.rel r rz
  have hl : (g us ws).length = ps.length := by rw [← r2.length]; exact F.len _ _ _ _ q2
  refine wpAny_call (codeAny_mono (F.run X.A hG X.stack s2 H2 ⟨us, ks.zip ws⟩ (g us ws) (gV vs zs) Q (WE W σ) hr I2.env0 (hb.to s2 us ws I2.kIn hl) r2 q2) fun r s' hq => ?_)
  cases r with
  | error e => exact passAt tw σ pins H2 s2 e s' I2 hq
  | ok fl =>
    cases fl with
    | ret u => exact I2.after hq
    | next => exact False.elim hq
    | brk => exact False.elim hq
    | cont => exact False.elim hq
theorem _root_.L2.PK.imp {kws : List Keyword} {t t' : TA} (h : PK X kws t) (i : ∀ σ H Q, t' σ H Q → t σ H Q) : PK X kws t' := ⟨fun pos pins s σ H Q I q => h.run pos pins s σ H Q I (i σ H Q q)⟩
end
section
variable {K : PySem.W.Frag} {C : CT} {W : Wish} {kp : List Nat} {M0 : Addr → Prop} {H H' H2 : Hp} {σ σ' : L2.St} {env env' : Env} {F F' F1 F2 G G' : List Addr}
def argApp (f g : Env → R (List D)) : Env → R (List D) := fun env => (f env).bind fun ds e1 => (g e1).bind fun es e2 => .ok (ds ++ es) e2
theorem i_callK {n m : Nat} {run : List D → R D} {f g : Env → R (List D)} {lk : List (Nat × Nat)} {gV : List V → List V → List V} {Q : VK} (P : Pure n run) (hm : ∀ env ds e, f env = .ok ds e → ds.length = m) (hn : ∀ env ds e, g env = .ok ds e → m + ds.length = n)
    (hgV : ∀ vs zs : List V, vs.length = m → gV vs zs = vs ++ zs) (h : tOf K C W (callF run lk (argApp f g)) σ H Q) : tCallKU (spP K C n run) gV W (aOf K C W f lk) (aOf K C W g []) σ H Q := by
  obtain ⟨M0, env, F, r, h⟩ := h
  refine ⟨M0, env, F, r, ?_⟩
  cases ef : f env with
  | no => simp only [callF, argApp, ef, R.bind] at h; exact h
  | ex c ns ds e => simp only [callF, argApp, ef, R.bind] at h; exact h
  | ok ds e =>
    intro vs H1 F1 r1 s1 l1 k1
    obtain ⟨G1, G2, eG, hp, r2⟩ := Rel.pops r1 (by simp [l1])
    refine ⟨orF M0 G1, e, G2, r2, ?_⟩
    cases eg : g e with
    | no => simp only [callF, argApp, ef, eg, R.bind] at h; exact h
    | ex c ns xs e2 => simp only [callF, argApp, ef, eg, R.bind] at h; subst eG; exact ExOk.lift h s1
    | ok es e2 =>
      simp only [callF, argApp, ef, eg, R.bind] at h
      intro zs H2 F2 r3 s3 l3 _
      obtain ⟨r4, s4⟩ := Rel.backs r1 G1 G2 eG hp r3 s3
      rw [hgV vs zs (l1.trans (hm _ _ _ ef))]
      have r5 : Rel K C M0 H2 ((vs ++ zs).map some ++ σ) ((ds ++ es).map some ++ e2) (G1 ++ F2) := by
        rw [List.map_append, List.map_append, List.append_assoc, List.append_assoc]; exact r4
      refine call_core r5 (by simp [l1, l3]) (by rw [List.length_append, hm _ _ _ ef, hn _ _ _ eg]) (fun q hq => ?_) (P.len _).1 (P.len _).2 (okT_trans h (s1.trans s4))
      obtain ⟨v, h1, h2⟩ := k1 q hq
      refine ⟨v, ?_, h2⟩
      rw [List.getElem?_append_left]
      · exact h1
      · rcases Nat.lt_or_ge q.1 vs.length with z | z
        · exact z
        · rw [List.getElem?_eq_none z] at h1; cases h1
/-- self.f = e, self in slot i -/
def putN (f : Str) : List Str → List Str
  | [] => [f]
  | g :: r => if g = f then g :: r else g :: putN f r
def putDs (f : Str) (d : D) : List Str → List D → List D
  | g :: r, x :: ds => if g = f then d :: ds else x :: putDs f d r ds
  | _, _ => [d]
def fldO (c i : Nat) (f : Str) (g : Env → R D) : Env → Out := fun env => match g env with
  | .ok d e => (match e[i]? with
    | some (some (.ins true c' ns ds)) => if c' = c ∧ ns.length < 900 ∧ d.noOwn = true then .nx (e.set i (some (.ins true c (putN f ns) (putDs f d ns ds)))) else .no
    | _ => .no)
  | .ex c ns vs e => .ex c ns vs e
  | .no => .no
end
end J
/-! The terms that a printed derivation is made of: each a rule of the hand layer with its pure word. -/
namespace J
open PySem L2 PySem.Spec PyProof.Rows
/-- a def, by its pure run -/
theorem okP {P : Program} {w : World} {K : PySem.W.Frag} {mg : Str → Option Value} {base : Heap} {C : CT} {x qual : Str} {st : Stmt} {f : Addr} {fd : FuncData} {N ps : List Str} {k n l : Nat} {kp : List Nat} {body : J.Env → Out}
    (F : Fun K x qual st f fd) (S : FnScope N ps (defScope st)) (hN : N.length = n + l) (hp : ps.length = n) (hkp : ∀ i ∈ kp, i < n)
    (hb : ∀ (cdv : Value) (A : Around) (outer : List PySem.Env) (s : Shared) (H : Hp) (E : XK), A.guards = some [] → Room k (A.deeper (envOfC qual (defScope st) s.heap.objs.size f cdv)) →
      PSs (cxOf (L2.CX P w) P w K mg base N qual (defScope st) f cdv A outer s H E) (defBody st) (tS K C (fun _ => E) kp body)) : FnU P w K mg base (k + 1) f fd ps (spP K C n (defF n kp l body)) := by
  obtain ⟨oc, od, kV, doc, pm, an, cdv, ct, osl, rfl, lk, hcd⟩ := F.ex
  exact okU lk hcd S (fun vs H Q E h => h.1.trans hp.symm) fun A outer s H vs Q E hg hr h => ⟨_, hb cdv A outer s H E hg hr, def_core hN hkp h⟩
/-- a def of the module, called -/
structure CalU (P : Program) (w : World) (K : PySem.W.Frag) (mg : Str → Option Value) (base : Heap) (C : CT) (x : Str) (k : Nat) (ps : List Str) (n : Nat) (run : List D → R D) where
  f : Addr
  fd : FuncData
  ok : FnU P w K mg base k f fd ps (spP K C n run)
  g : mg x = some (.ref f)
  kp : PySem.W.keepIn K (.ref f) = true
  b : Binds K fd ps []
  pu : Pure n run
structure CalKU (P : Program) (w : World) (K : PySem.W.Frag) (mg : Str → Option Value) (base : Heap) (C : CT) (x : Str) (k : Nat) (ps ks : List Str) (n : Nat) (run : List D → R D) (gg : List Value → List Value → List Value) (gV : List V → List V → List V) where
  f : Addr
  fd : FuncData
  ok : FnU P w K mg base k f fd ps (spP K C n run)
  g : mg x = some (.ref f)
  kp : PySem.W.keepIn K (.ref f) = true
  b : KBinds K fd ps ks gg gV
  pu : Pure n run
section
variable {X : Cx} {C : CT} {W : WX} {kp : List Nat} {pos p p' p2 apos : Pos} {a b c e o : Expr} {es : List Expr} {x m : Str} {i : Nat}
abbrev T_ (X : Cx) (C : CT) (W : WX) (f : J.Env → R D) : TE := tOf X.K C (WE W) f
abbrev A_ (X : Cx) (C : CT) (W : WX) (f : J.Env → R (List D)) (lk : List (Nat × Nat)) : TA := aOf X.K C (WE W) f lk
abbrev TT_ (X : Cx) (C : CT) (W : WX) (f : J.Env → R Bool) : TT := ttOf X.K C (WE W) f
abbrev S_ (X : Cx) (C : CT) (W : WX) (kp : List Nat) (f : J.Env → Out) : TS := tS X.K C (WE W) kp f
variable {f f2 f3 : J.Env → R D} {g g2 : J.Env → Option D} {c1 c2 : J.Env → R Bool} {s1 s2 : J.Env → Out} {af af2 : J.Env → R (List D)} {lk : List (Nat × Nat)}
/-! expressions -/
theorem q_name (h : PE X a (tVar i)) : PE X a (T_ X C W (rdF i)) := h.imp fun _ _ _ q => i_rdF q
theorem q_move (h : PE X a (tVar i)) : PE X a (T_ X C W (rdM i)) := h.imp fun _ _ _ q => i_rdM q
theorem q_c {v : V} {d : D} (s : Sc v d) (h : PE X a (tC v)) : PE X a (T_ X C W (okC d)) := h.imp fun _ _ _ q => i_okC s q
theorem q_b (h : PE X a (bOf X.K C g)) : PE X a (T_ X C W (toT g)) := h.imp fun _ _ _ q => i_toT q
theorem qb_name (h : PE X a (tVar i)) : PE X a (bOf X.K C (rdB i)) := h.imp fun _ _ _ q => i_rdB q
theorem qb_c {v : V} {d : D} (s : Sc v d) (h : PE X a (tC v)) : PE X a (bOf X.K C fun _ => some d) := h.imp fun _ _ _ q => i_bC s q
theorem qb_ix (ha : PE X a (bOf X.K C g)) (hb : PE X b (bOf X.K C g2)) (hs : PlainIx b) : PE X (.Subscript a b pos) (bOf X.K C (bop2 ixD g g2)) := (pe_ix x_ix ha hb hs).imp fun _ _ _ q => i_bop2 b_ix q
theorem q_add (ha : PE X a (T_ X C W f)) (hb : PE X b (T_ X C W f2)) : PE X (.BinOp a .Add b pos) (T_ X C W (lift2 addD f f2)) := (pe_op o_add ha hb).imp fun _ _ _ q => i_op2 p_add q
theorem q_sub (ha : PE X a (T_ X C W f)) (hb : PE X b (T_ X C W f2)) : PE X (.BinOp a .Sub b pos) (T_ X C W (lift2 subD f f2)) := (pe_op op_sub ha hb).imp fun _ _ _ q => i_op2 p_sub q
theorem q_mul (ha : PE X a (T_ X C W f)) (hb : PE X b (T_ X C W f2)) : PE X (.BinOp a .Mult b pos) (T_ X C W (lift2 mulD f f2)) := (pe_op o_mul ha hb).imp fun _ _ _ q => i_op2 p_mul q
theorem q_div (ha : PE X a (T_ X C W f)) (hb : PE X b (T_ X C W f2)) : PE X (.BinOp a .FloorDiv b pos) (T_ X C W (lift2 divD f f2)) := (pe_op o_div ha hb).imp fun _ _ _ q => i_op2 p_div q
theorem q_mod (ha : PE X a (T_ X C W f)) (hb : PE X b (T_ X C W f2)) : PE X (.BinOp a .Mod b pos) (T_ X C W (lift2 modD f f2)) := (pe_op o_mod ha hb).imp fun _ _ _ q => i_op2 p_mod q
theorem q_pow (ha : PE X a (T_ X C W f)) (hb : PE X b (T_ X C W f2)) : PE X (.BinOp a .Pow b pos) (T_ X C W (lift2 powD f f2)) := (pe_op op_pow ha hb).imp fun _ _ _ q => i_op2 p_pow q
theorem q_neg (ha : PE X a (T_ X C W f)) : PE X (.UnaryOp .USub a pos) (T_ X C W (lift1 negD f)) := (pe_un un_neg ha).imp fun _ _ _ q => i_op1 p_neg q
/-- a comparison -/
theorem q_cmp {op : CmpOp} {r : R2} {gd : D → D → Option D} (ho : OpR X (compareOp op) r) (hg : Op2 X.K C r gd) (ha : PE X a (T_ X C W f)) (hb : PE X b (T_ X C W f2)) (hm : behindInMarks op b = false) : PE X (.Compare a [op] [b] pos) (T_ X C W (lift2 gd f f2)) := (pe_cmpR ho ha hb hm).imp fun _ _ _ q => i_op2 hg q
theorem t_cmp {op : CmpOp} {r : R2} {gd : D → D → Option D} (ho : OpR X (compareOp op) r) (hg : Op2 X.K C r gd) (ha : PE X a (T_ X C W f)) (hb : PE X b (T_ X C W f2)) (hm : behindInMarks op b = false) : PT X (.Compare a [op] [b] pos) (TT_ X C W (asB (lift2 gd f f2))) := by
  refine (pt_cmpR ho ha hb hm).imp fun σ H Q q => ?_
  exact i_op2 hg (i_asB q)
def chainF (p p' : Int → Int → Bool) (f f2 f3 : J.Env → R D) : J.Env → R D := fun env => (f env).bind fun d e1 => (f2 e1).bind fun y e2 => match d, y with
  | .int i, .int j => if p i j = true then (f3 e2).bind fun z e3 => (match z with | .int k => .ok (.bl (p' j k)) e3 | _ => .no) else .ok (.bl false) e2
  | _, _ => .no
theorem i_chain {q1 q2 : Int → Int → Bool} {σ : L2.St} {H : Hp} {Q : VK} (h : tOf X.K C (WE W) (chainF q1 q2 f f2 f3) σ H Q) : tChain (rI0 fun i j => .bl (q1 i j)) (rI0 fun i j => .bl (q2 i j)) (T_ X C W f) (T_ X C W f2) (T_ X C W f3) σ H Q := by
  refine then_tOf (k := fun d e1 => (f2 e1).bind fun y e2 => match d, y with
  | .int i, .int j => if q1 i j = true then (f3 e2).bind fun z e3 => (match z with | .int k => .ok (.bl (q2 j k)) e3 | _ => .no) else .ok (.bl false) e2
  | _, _ => .no) (t := fun v σ H1 Q => T_ X C W f2 σ H1 fun y H2 => rI0 (fun i j => .bl (q1 i j)) v y H2 fun z H3 => ∃ k, z = .bl k ∧ (if k = true then T_ X C W f3 σ H3 fun w' H4 => rI0 (fun i j => .bl (q2 i j)) y w' H4 Q else Q (.bl false) H3)) h ?_
  intro d e1 v H1 M0 F r1 h1
  refine below_tOf r1 h1 ?_
  intro y e2 w H2 F2 r2 h2
  obtain ⟨Ga, Gb, Gc, eGG, hv, hw, F3, r3, s3⟩ := r2.two
  cases d <;> try exact h2.elim
  cases y <;> try exact h2.elim
  rename_i i j
  cases hv; cases hw
  refine ⟨i, j, rfl, rfl, q1 i j, rfl, ?_⟩
  by_cases hp : q1 i j = true
  · rw [if_pos hp]
    have h2 : okT X.K C (WE W) M0 σ F2 H2 Q (if q1 i j = true then (f3 e2).bind fun z e3 => (match z with | .int k => .ok (.bl (q2 j k)) e3 | _ => .no) else .ok (.bl false) e2) := h2
    rw [if_pos hp] at h2
    refine ⟨M0, e2, F3, r3, ?_⟩
    have h2 := okT_trans h2 (.sub s3)
    cases e3 : f3 e2 with
    | no => rw [e3] at h2; exact h2
    | ex c ns ds e => rw [e3] at h2; exact h2
    | ok z e4 =>
      rw [e3] at h2
      intro u H4 F4 r4 s4
      have rr := r4.rep
      cases rr with
      | have_ hu _ =>
        cases z <;> simp only [R.bind] at h2 <;> try exact h2.elim
        cases hu
        exact ⟨j, _, rfl, rfl, Rel.sc1 r4 (.bl _) fun u H' F' r s => h2 u H' F' r (s4.trans s)⟩
  · rw [if_neg hp]
    have h2 : okT X.K C (WE W) M0 σ F2 H2 Q (if q1 i j = true then (f3 e2).bind fun z e3 => (match z with | .int k => .ok (.bl (q2 j k)) e3 | _ => .no) else .ok (.bl false) e2) := h2
    rw [if_neg hp] at h2
    exact h2 (.bl false) H2 F3 (Rel.data r3 (.bl _)) (.sub s3)
theorem q_chain {op op' : CmpOp} {q1 q2 : Int → Int → Bool} (ho : OpR X (compareOp op) (rI0 fun i j => .bl (q1 i j))) (ho' : OpR X (compareOp op') (rI0 fun i j => .bl (q2 i j))) (ha : PE X a (T_ X C W f)) (hb : PE X b (T_ X C W f2)) (hc : PE X c (T_ X C W f3))
    (hm : lastMarks [op, op'] [b, c] = false := by with_unfolding_all rfl) : PE X (.Compare a [op, op'] [b, c] pos) (T_ X C W (chainF q1 q2 f f2 f3)) := (pe_chain ho ho' ha hb hc hm).imp fun _ _ _ q => i_chain q
theorem t_chain {op op' : CmpOp} {q1 q2 : Int → Int → Bool} (ho : OpR X (compareOp op) (rI0 fun i j => .bl (q1 i j))) (ho' : OpR X (compareOp op') (rI0 fun i j => .bl (q2 i j))) (ha : PE X a (T_ X C W f)) (hb : PE X b (T_ X C W f2)) (hc : PE X c (T_ X C W f3))
    (hm : lastMarks [op, op'] [b, c] = false := by with_unfolding_all rfl) : PT X (.Compare a [op, op'] [b, c] pos) (TT_ X C W (asB (chainF q1 q2 f f2 f3))) := (pt_chain ho ho' ha hb hc hm).imp fun σ H Q q => by
  have h1 := i_asB q
  exact i_chain h1
/-! tests -/
theorem t_val (h : PE X a (T_ X C W f)) (he : ∀ whole, isTrue a X.env whole = (do let v ← whole; standAt a.pos; holding [v] (truthy v)) := by intro _; rfl) : PT X a (TT_ X C W (asB f)) := (pt_val h he).imp fun _ _ _ q => i_asB2 q
theorem t_not (h : PT X a (TT_ X C W c1)) : PT X (.UnaryOp .Not a pos) (TT_ X C W (notB c1)) := (pt_not h).imp fun _ _ _ q => i_notB q
theorem w_and1 (h : PT X a (TT_ X C W c1)) : PW X (.BoolOp .And [a] pos) (TT_ X C W c1) := pw_and1 h
theorem w_or1 (h : PT X a (TT_ X C W c1)) : PW X (.BoolOp .Or [a] pos) (TT_ X C W c1) := pw_or1 h
theorem _root_.L2.PW.imp {t t' : TT} (h : PW X e t) (i : ∀ σ H Q, t' σ H Q → t σ H Q) : PW X e t' := ⟨fun wh pins s σ H Q I q => h.run wh pins s σ H Q I (i σ H Q q)⟩
theorem w_and {rest : List Expr} (h : PT X a (TT_ X C W c1)) (hb : PW X (.BoolOp .And (b :: rest) pos) (TT_ X C W c2)) : PW X (.BoolOp .And (a :: b :: rest) pos) (TT_ X C W (andB c1 c2)) := (pw_and h hb).imp fun _ _ _ q => i_andB q
theorem w_or {rest : List Expr} (h : PT X a (TT_ X C W c1)) (hb : PW X (.BoolOp .Or (b :: rest) pos) (TT_ X C W c2)) : PW X (.BoolOp .Or (a :: b :: rest) pos) (TT_ X C W (orB c1 c2)) := (pw_or h hb).imp fun _ _ _ q => i_orB q
/-! bools as values -/
theorem v_ofB (h : PE X a (T_ X C W f)) : PE X a (T_ X C W (ofB (asB f))) := h.imp fun _ _ _ q => i_ofB q
theorem v_one {op} (h : PE X a (T_ X C W (ofB c1))) : PE X (.BoolOp op [a] pos) (T_ X C W (ofB c1)) := pe_one h
theorem v_and {rest : List Expr} (h : PE X a (T_ X C W (ofB c1))) (hb : PE X (.BoolOp .And (b :: rest) pos) (T_ X C W (ofB c2))) : PE X (.BoolOp .And (a :: b :: rest) pos) (T_ X C W (ofB (andB c1 c2))) := (pe_and h hb).imp fun _ _ _ q => i_andV q
theorem v_not (h : PE X a (T_ X C W (ofB c1))) : PE X (.UnaryOp .Not a pos) (T_ X C W (ofB (notB c1))) := (pe_not h).imp fun _ _ _ q => i_notV q
/-! containers -/
theorem q_ix (ha : PE X a (T_ X C W f)) (hb : PE X b (T_ X C W f2)) (hs : PlainIx b) : PE X (.Subscript a b pos) (T_ X C W (lift2 ixF f f2)) := (pe_ix x_ix ha hb hs).imp fun _ _ _ q => i_op2 p_ix q
theorem o_none : PO X none (oOf X.K C (WE W) (okC .non)) := ⟨fun pins s σ H Q I q => po_none.run pins s σ H Q I (i_oN q)⟩
theorem o_some (h : PE X a (T_ X C W f)) : PO X (some a) (oOf X.K C (WE W) (asI f)) := ⟨fun pins s σ H Q I q => (po_some h).run pins s σ H Q I (i_oP q)⟩
theorem q_slice {lo hi : Option Expr} (he : PE X e (T_ X C W f)) (hl : PO X lo (oOf X.K C (WE W) f2)) (hu : PO X hi (oOf X.K C (WE W) f3)) : PE X (.Subscript e (.Slice lo hi none p2) pos) (T_ X C W (slF f f2 f3)) := (pe_slice sl_any he hl hu).imp fun _ _ _ q => i_sl q
theorem a_nil : PA X [] (A_ X C W args0 []) := pa_nil.imp fun _ _ _ q => i_args0 q
theorem z_av (h : PA X es (tCons (T_ X C W f) (A_ X C W af lk))) : PA X es (A_ X C W (argV f af) (lkV lk)) := h.imp fun _ _ _ q => i_argV q
theorem z_ar (h : PA X es (tCons (tVar i) (A_ X C W af lk))) : PA X es (A_ X C W (argR i af) ((0, i) :: lkV lk)) := h.imp fun _ _ _ q => i_argR q
theorem k_nil : PK X [] (A_ X C W args0 []) := pk_nil.imp fun _ _ _ q => i_args0 q
theorem z_kv {kws : List Keyword} (h : PK X kws (tCons (T_ X C W f) (A_ X C W af []))) : PK X kws (A_ X C W (argV f af) []) := h.imp fun _ _ _ q => i_argV q
/-- how many arguments there are -/
def AL (af : J.Env → R (List D)) (n : Nat) : Prop := ∀ env ds e, af env = .ok ds e → ds.length = n
theorem AL.nil : AL args0 0 := fun env ds e h => by
  unfold args0 at h
  obtain ⟨rfl, _⟩ : [] = ds ∧ env = e := by injection h with a b; exact ⟨a, b⟩
  rfl
theorem AL.val {n : Nat} (h : AL af n) : AL (argV f af) (n + 1) := fun env ds e q => by
  unfold argV at q
  cases ef : f env with
  | no => rw [ef] at q; cases q
  | ex _ _ _ _ => rw [ef] at q; cases q
  | ok d e1 =>
    rw [ef] at q
    simp only [R.bind] at q
    cases eg : af e1 with
    | no => rw [eg] at q; cases q
    | ex _ _ _ _ => rw [eg] at q; cases q
    | ok es e2 =>
      rw [eg] at q
      simp only [R.ok.injEq] at q
      rw [← q.1, List.length_cons, h _ _ _ eg]
theorem AL.ref {n i : Nat} (h : AL af n) : AL (argR i af) (n + 1) := fun env ds e q => by
  unfold argR at q
  split at q
  · rename_i d ed
    cases eg : af (env.set i none) with
    | no => rw [eg] at q; cases q
    | ex _ _ _ _ => rw [eg] at q; cases q
    | ok es e2 =>
      rw [eg] at q
      simp only [R.bind, R.ok.injEq] at q
      rw [← q.1, List.length_cons, h _ _ _ eg]
  · cases q
theorem z_lst (h : PE X e (tLst (A_ X C W af []))) : PE X e (T_ X C W (lstF af)) := h.imp fun _ _ _ q => i_lst q
theorem z_tup (h : PE X e (tTup (A_ X C W af []))) : PE X e (T_ X C W (tupF af)) := h.imp fun _ _ _ q => i_tup q
theorem z_call {n : Nat} {run : List D → R D} (P : Pure n run) (hn : AL af n) (h : PE X e (tCallSD (spP X.K C n run) [] (WE W) (A_ X C W af lk))) : PE X e (T_ X C W (callF run lk af)) := h.imp fun _ _ _ q => i_call P hn q
theorem z_callK {n mm : Nat} {run : List D → R D} {gV : List V → List V → List V} (P : Pure n run) (hm : AL af mm) (hn : AL af2 (n - mm)) (hmn : mm ≤ n) (hgV : ∀ vs zs : List V, vs.length = mm → gV vs zs = vs ++ zs) (h : PE X e (tCallKU (spP X.K C n run) gV (WE W) (A_ X C W af lk) (A_ X C W af2 []))) : PE X e (T_ X C W (callF run lk (argApp af af2))) :=
  h.imp fun _ _ _ q => i_callK P hm (fun env ds e h => by have := hn env ds e h; omega) hgV q
theorem z_cb1 {r : List V → Hp → VK → Prop} {gd : D → Option D} (ho : Op1 X.K C (fun v H Q => r [v] H Q) gd) (h : PE X e (tCB r (tCons (T_ X C W f) tNil))) : PE X e (T_ X C W (lift1 gd f)) := h.imp fun _ _ _ q => i_cb1 ho q
theorem z_cb2 {r : List V → Hp → VK → Prop} {gd : D → D → Option D} (ho : Op2 X.K C (fun v w H Q => r [v, w] H Q) gd) (h : PE X e (tCB r (tCons (T_ X C W f) (tCons (T_ X C W f2) tNil)))) : PE X e (T_ X C W (lift2 gd f f2)) := h.imp fun _ _ _ q => i_cb2 ho q
theorem z_len (h : PE X e (tCB (fun xs H Q => ∃ x n, xs = [x] ∧ LenV X.K x H n ∧ Q (.int n) H) (tCons (T_ X C W f) tNil))) : PE X e (T_ X C W (lift1 lenD f)) := h.imp fun _ _ _ q => i_cb1 (op1_rd fun M H v d x F Q hv e q => b_len M H v d x F Q hv e q) q
theorem zb_len (h : PE X e (tCB (fun xs H Q => ∃ x n, xs = [x] ∧ LenV X.K x H n ∧ Q (.int n) H) (tCons (bOf X.K C g) tNil))) : PE X e (bOf X.K C (bop1 lenD g)) := h.imp fun _ _ _ q => i_cb1b (fun M H v d x F Q hv e q => b_len M H v d x F Q hv e q) q
theorem z_isi {cn : String} (hc : knownC cn = true) (h : PE X e (tCB (rIsi X.K) (tCons (T_ X C W f) (tCons (tC (.ty cn)) tNil)))) : PE X e (T_ X C W (lift1 (isiD cn) f)) := h.imp fun _ _ _ q => i_isi hc q
theorem zb_isi {cn : String} (hc : knownC cn = true) (h : PE X e (tCB (rIsi X.K) (tCons (bOf X.K C g) (tCons (tC (.ty cn)) tNil)))) : PE X e (bOf X.K C (bop1 (isiD cn) g)) := h.imp fun _ _ _ q => i_isiB hc q
/-! iterables -/
theorem y_list {tg : Expr} (h : PE X e (T_ X C W f)) : PI X tg e (iOf X.K C (WE W) (lstI f)) := ⟨fun pins s σ H R I q => (pi_list h).run pins s σ H R I (i_lstI q)⟩
theorem y_tup {tg : Expr} (h : PE X e (T_ X C W f)) : PI X tg e (iOf X.K C (WE W) (tupI f)) := ⟨fun pins s σ H R I q => (pi_tup h).run pins s σ H R I (i_tupI q)⟩
theorem z_enum {tg : Expr} (h : PI X tg e (iEnum X.K (A_ X C W af []))) : PI X tg e (iOf X.K C (WE W) (enumI 0 af)) := ⟨fun pins s σ H R I q => h.run pins s σ H R I (i_enumI q)⟩
theorem z_rng2 {tg : Expr} (h : PI X tg e (iRng2 (A_ X C W af []))) : PI X tg e (iOf X.K C (WE W) (rng2I af)) := ⟨fun pins s σ H R I q => h.run pins s σ H R I (i_rng2I q)⟩
/-! targets -/
theorem g_name (hk : i ∉ kp) (h : PG X a (gName i)) : PG X a (gOf X.K C kp (setG i)) := h.imp fun _ _ _ _ q => i_setG hk q
theorem _root_.L2.PGs.imp {es : List Expr} {t t' : TGs} (h : PGs X es t) (i : ∀ v σ H Q, t' v σ H Q → t v σ H Q) : PGs X es t' := by
  obtain ⟨h⟩ := h
  constructor
  intros
  exact h _ _ _ _ _ _ _ (by assumption) (by assumption) (by apply i; assumption)
theorem gs_nil : PGs X [] (gsOf X.K C kp nilG) := pgs_nil.imp fun _ _ _ _ q => i_nilG q
theorem z_gcons {gg : D → J.Env → Option J.Env} {kk : List D → J.Env → Option J.Env} (h : PGs X es (gCons (gOf X.K C kp gg) (gsOf X.K C kp kk))) : PGs X es (gsOf X.K C kp (consG gg kk)) := h.imp fun _ _ _ _ q => i_consG q
theorem z_gtup {n : Nat} {kk : List D → J.Env → Option J.Env} (h : PG X a (gTup X.K n (gsOf X.K C kp kk))) : PG X a (gOf X.K C kp (tupG n kk)) := h.imp fun _ _ _ _ q => i_tupG q
theorem z_put1 {fk : J.Env → Option D} (h : PG X a (gSub (tVar i) (bOf X.K C fk) rSetL)) : PG X a (gOf X.K C kp (put1G i fk)) := h.imp fun _ _ _ _ q => i_put1 q
/-- targets leave as many slots as there are -/
def GL (g : D → J.Env → Option J.Env) : Prop := ∀ d e e1, g d e = some e1 → e1.length = e.length
def GLs (g : List D → J.Env → Option J.Env) : Prop := ∀ d e e1, g d e = some e1 → e1.length = e.length
theorem GL.set : GL (setG i) := fun d e e1 h => by
  unfold setG at h
  split at h
  · obtain rfl := Option.some.inj h; simp
  · cases h
theorem GLs.nil : GLs nilG := fun ds e e1 h => by
  unfold nilG at h
  split at h
  · obtain rfl := Option.some.inj h; rfl
  · cases h
theorem GLs.cons {gg : D → J.Env → Option J.Env} {kk : List D → J.Env → Option J.Env} (h1 : GL gg) (h2 : GLs kk) : GLs (consG gg kk) := fun ds e e1 h => by
  cases ds with
  | nil => cases h
  | cons d ds =>
    cases e2 : gg d e with
    | none => simp only [consG, e2, Option.bind_none] at h; cases h
    | some e3 =>
      simp only [consG, e2, Option.bind_some] at h
      rw [h2 _ _ _ h, h1 _ _ _ e2]
theorem GL.tup {n : Nat} {kk : List D → J.Env → Option J.Env} (h2 : GLs kk) : GL (tupG n kk) := fun d e e1 h => by
  unfold tupG at h
  split at h
  · split at h
    · exact h2 _ _ _ h
    · cases h
  · cases h
/-! list comprehensions -/
theorem z_lc (nl : Nat) (hnl : X.N.length = nl) {it : J.Env → R (List D)} {gg : D → J.Env → Option J.Env} {cc : J.Env → R Bool} {ff : J.Env → R D} {vs : List Nat} (hn : ∀ j, j < nl → j ∉ vs → j ∈ kp) (hg : GL gg)
    (h : PE X e (tLc (iOf X.K C (WE W) it) (gOf X.K C kp gg) (ttOf X.K C W0 cc) (tOf X.K C W0 ff) vs)) : PE X e (T_ X C W (compO it gg cc ff vs)) :=
  ⟨fun pins s σ H Q I q => h.run pins s σ H Q I (i_comp (n := nl) hn (I.len.trans hnl) hg q)⟩
/-! statements -/
theorem st_nil : PSs X [] (S_ X C W kp nilO) := pss_nil.imp fun _ _ _ q => i_nil q
theorem st_seq {st : Stmt} {rest : List Stmt} (h : PS X st (S_ X C W kp s1)) (hr : PSs X rest (S_ X C W kp s2)) : PSs X (st :: rest) (S_ X C W kp (seqO s1 s2)) := (pss_cons h hr).imp fun _ _ _ q => i_seq q
theorem st_one {st : Stmt} (h : PS X st (S_ X C W kp s1)) : PSs X [st] (S_ X C W kp s1) := pss_one h
theorem s_ret (h : PE X e (T_ X C W f)) : PS X (.Return (some e) pos) (S_ X C W kp (retO f)) := (ps_ret h).imp fun _ _ _ q => i_ret q
def retN : J.Env → Out := fun env => .rt .non env
theorem s_if {ss tt : List Stmt} (hc : PT X c (TT_ X C W c1)) (h1 : PSs X ss (S_ X C W kp s1)) (h2 : PSs X tt (S_ X C W kp s2)) : PS X (.If c ss tt pos) (S_ X C W kp (ifO c1 s1 s2)) := (ps_if hc h1 h2).imp fun _ _ _ q => i_if q
theorem z_drop {st : Stmt} (h : PS X st (tDrop (T_ X C W f))) : PS X st (S_ X C W kp (dropO f)) := h.imp fun _ _ _ q => i_drop q
theorem z_asg {st : Stmt} {gg : D → J.Env → Option J.Env} (h : PS X st (tAsg (T_ X C W f) (gOf X.K C kp gg))) : PS X st (S_ X C W kp (asgO f gg)) := h.imp fun _ _ _ q => i_asg q
theorem z_set {st : Stmt} (hk : i ∉ kp) (h : PS X st (tAsg (T_ X C W f) (gName i))) : PS X st (S_ X C W kp (asgO f (setG i))) := h.imp fun D σ H q => by
  obtain ⟨M0, env, F, r, h⟩ := i_asg q
  refine ⟨M0, env, F, r, ?_⟩
  cases ef : f env with
  | no => rw [ef] at h; exact h
  | ex c ns ds e => rw [ef] at h; exact h
  | ok d e => rw [ef] at h; exact fun v H' F' r' s' => i_setG hk (h v H' F' r' s')
theorem z_for {st : Stmt} {it : J.Env → R (List D)} {gg : D → J.Env → Option J.Env} (h : PS X st (tFor (iOf X.K C (WE W) it) (gOf X.K C kp gg) (S_ X C W kp s1))) : PS X st (S_ X C W kp (forO it gg s1)) := h.imp fun _ _ _ q => i_for q
theorem z_while {st : Stmt} {n : Nat} (h : PS X st (tWhile (TT_ X C W c1) (S_ X C W kp s1))) : PS X st (S_ X C W kp (whileL c1 s1 n)) := h.imp fun _ _ _ q => i_while q
theorem z_app {st : Stmt} (h : PS X st (tDrop (tBM X.K "list" rAppend (tVar i) (tCons (T_ X C W f) tNil)))) : PS X st (S_ X C W kp (appO i f)) := h.imp fun _ _ _ q => i_app q
def noO : J.Env → Out := fun _ => .no
end
end J
/-! More terms: a op= e, a, b = x, y, x = [..], truth, three fors. -/
namespace J
open PySem L2 PySem.Spec PyProof.Rows
section
variable {K : PySem.W.Frag} {C : CT} {W : Wish} {kp : List Nat} {M0 : Addr → Prop} {H H' H2 : Hp} {σ σ' : L2.St} {env env' : J.Env} {F F' F1 F2 G G' : List Addr} {v w : V} {d e : D}
/-- i op= f, ints -/
def augO (i : Nat) (op : Int → Int → Int) (f : J.Env → R D) : J.Env → Out := fun env => match env[i]? with
  | some (some (.int a)) => (match f env with
    | .ok (.int b) e => .nx (e.set i (some (.int (op a b))))
    | .ex c ns vs e => .ex c ns vs e
    | _ => .no)
  | _ => .no
/-- i, j = .. -/
def parO (i j : Nat) (af : J.Env → R (List D)) : J.Env → Out := fun env => match af env with
  | .ok [a, b] e => if i < e.length ∧ j < e.length then .nx ((e.set i (some a)).set j (some b)) else .no
  | .ex c ns vs e => .ex c ns vs e
  | _ => .no
theorem i_par {i j : Nat} {af : J.Env → R (List D)} {E : Ends} (hi : i ∉ kp) (hj : j ∉ kp) (h : tS K C W kp (parO i j af) E σ H) : tPar i j (aOf K C W af []) E σ H := by
  obtain ⟨M0, env, F, r, h⟩ := h
  refine ⟨M0, env, F, r, ?_⟩
  unfold parO at h
  split at h
  · rename_i a b e ea
    rw [ea]
    split at h
    case isFalse => exact h.elim
    rename_i hl
    intro vs H1 F1 r1 s1 l1 k1
    obtain ⟨v, w, rfl⟩ : ∃ v w, vs = [v, w] := by
      match vs, l1 with | [v, w], _ => exact ⟨v, w, rfl⟩
    refine ⟨v, w, rfl, ?_⟩
    have r1 : Rel K C M0 H1 (some v :: some w :: σ) (some a :: some b :: e) F1 := r1
    obtain ⟨F2, r2, s2⟩ := r1.store (i := i + 1) (by simp; omega)
    have r2 : Rel K C M0 H1 (some w :: σ.set i (some v)) (some b :: e.set i (some a)) F2 := by simpa using r2
    obtain ⟨F3, r3, s3⟩ := r2.store (i := j) (by simp; omega)
    refine h _ H1 F3 r3 (s1.trans (.sub fun b hb => s2 b (s3 b hb))) fun m hm => ?_
    rw [List.getElem?_set_ne (by rintro rfl; exact hj hm), List.getElem?_set_ne (by rintro rfl; exact hi hm)]
  · rename_i ea; rw [ea]; exact exS h
  · exact h.elim
/-- truth -/
def truD (d : D) : Option Bool := match d with
  | .non => some false | .bl b => some b | .int i => some (i != 0)
  | .str y => if y.length ≤ 1000000 then some ((y.length : Int) != 0) else none
  | .lst _ xs => some (!xs.isEmpty)
  | .tup xs => some (!xs.isEmpty)
  | .scr xs => some (!xs.isEmpty)
  | _ => none
def truB (f : J.Env → R D) : J.Env → R Bool := fun env => match f env with
  | .ok d e => (match truD d with | some b => .ok b e | none => .no)
  | .ex c ns vs e => .ex c ns vs e
  | .no => .no
theorem isE {α β : Type} {xs : List α} {ys : List β} (h : xs.length = ys.length) : (!ys.isEmpty) = !xs.isEmpty := by
  cases xs <;> cases ys <;> simp at h <;> rfl
theorem tru_rep {M : Addr → Prop} {b : Bool} (h : Rep K C M H v d F) (e : truD d = some b) : TruV K v H b := by
  cases d <;> simp only [truD, reduceCtorEq, Option.some.injEq] at e
  · cases h; exact e.symm
  · cases h; exact e.symm
  · cases h; exact e.symm
  · split at e
    · rename_i hs
      cases h; exact ⟨Nat.le_trans hs (by rw [sizeLine_eq]; decide), (Option.some.inj e).symm⟩
    · cases e
  · obtain ⟨a, vs, G, rfl, h1, t, _⟩ := h.lstR
    exact .inl ⟨vs, .of h1, by rw [← e]; exact isE t.length⟩
  · cases h with
    | scr h1 => exact .inl ⟨_, SqL.mono hide_le h1, by rw [← e]; simp [List.isEmpty_map]⟩
  · obtain ⟨a, vs, rfl, h1, t⟩ := h.tupR
    exact .inr (.inl ⟨vs, .inl (.inl h1), by rw [← e]; exact isE t.length⟩)
end
section
variable {X : Cx} {C : CT} {W : WX} {kp : List Nat} {pos p p' p2 apos : Pos} {a b c e o : Expr} {es : List Expr} {x m : Str} {i j : Nat}
variable {f f2 f3 : J.Env → R D} {g g2 : J.Env → Option D} {c1 c2 : J.Env → R Bool} {s1 s2 : J.Env → Out} {af af2 : J.Env → R (List D)} {lk : List (Nat × Nat)}
theorem z_par {st : Stmt} (hi : i ∉ kp) (hj : j ∉ kp) (h : PS X st (tPar i j (A_ X C W af []))) : PS X st (S_ X C W kp (parO i j af)) := h.imp fun _ _ _ q => i_par hi hj q
theorem z_pts (h : PT X a (ttOf X.K C W0 c1)) : PTs X [a] (ttOf X.K C W0 c1) := pts_one h
theorem z_pt0 : PTs X [] (ttOf X.K C W0 yesB) := ⟨fun pins s σ H Q I q => pts_nil.run pins s σ H Q I (i_yes q)⟩
theorem qb_neg (ha : PE X a (bOf X.K C g)) : PE X (.UnaryOp .USub a pos) (bOf X.K C (bop1 negD g)) := (pe_un un_neg ha).imp fun σ H Q h => by
  obtain ⟨M0, env, F, rl, x, ex, h⟩ := h
  unfold bop1 at ex
  split at ex
  · rename_i d ed
    cases d <;> simp only [negD, reduceCtorEq] at ex
    obtain rfl := Option.some.inj ex
    refine ⟨M0, env, F, rl, _, ed, fun v H1 s1 r1 ⟨G1, s1', h1⟩ => ?_⟩
    cases h1
    exact ⟨_, rfl, h _ H1 s1 r1 ⟨[], fun _ hb => absurd hb List.not_mem_nil, .int _⟩⟩
  · cases ex
end
/-! keywords: n positional arguments, then the keywords' -/
def gapp {α : Type} (n : Nat) (us ws : List α) : List α := if us.length = n then us ++ ws else []
theorem gapp_V {n : Nat} : ∀ vs zs : List V, vs.length = n → gapp n vs zs = vs ++ zs := fun vs zs h => by unfold gapp; rw [if_pos h]
theorem gapp_rel {n : Nat} {vs : List V} {us : List Value} {zs : List V} {ws : List Value} (h : Vals vs us) (k : Vals zs ws) : Vals (gapp n vs zs) (gapp n us ws) := by
  unfold gapp
  rw [h.length]
  split
  · exact h.append k
  · exact .nil
theorem kbp12 {K : PySem.W.Frag} {x qual : Str} {st : Stmt} {f : Addr} {fd : FuncData} {ps ks : List Str} (F : Fun K x qual st f fd) (h3 : ps.length = 3)
    (h : ∀ (kV doc pm : Value) (an : Option Addr) (cdv ct a b c : Value), bindArgs (PySem.W.fnOf x qual (defArgs st) (defBody st) (defScope st) .none kV doc pm an cdv ct) ⟨[a], ks.zip [b, c]⟩ = pure (ps.zip [a, b, c])) : KBinds K fd ps ks (gapp 1) (gapp 1) := by
  obtain ⟨oc, od, kV, doc, pm, an, cdv, ct, osl, rfl, lk, hcd⟩ := F.ex
  refine ⟨fun s us ws _ hl => ?_, gapp_rel⟩
  rcases us with _ | ⟨a, _ | ⟨a2, us⟩⟩ <;> rcases ws with _ | ⟨b, _ | ⟨c, _ | ⟨d, ws⟩⟩⟩ <;> first | exact .of_eq (h ..) | (simp [gapp, h3] at hl)
/-! enumerate with a start -/
end J
/-! List comprehensions with two and three fors; defs that call themselves. -/
namespace J
open PySem L2 PySem.Spec PyProof.Rows
section
variable {K : PySem.W.Frag} {C : CT} {W : Wish} {kp : List Nat} {M0 : Addr → Prop} {H H' H2 : Hp} {σ σ' : L2.St} {env env' : J.Env} {F F' F1 F2 G G' : List Addr} {v w : V} {d e : D}
abbrev KW := List D → J.Env → Option (List D × J.Env)
def kLastW (f : J.Env → R J.D) : KW := fun acc env => match f env with
  | .ok x e => if acc.length < 1000000 then some (acc ++ [x], e) else none
  | _ => none
def loopW (g : J.D → J.Env → Option J.Env) (c : J.Env → R Bool) (kw : KW) (vs : List Nat) : List J.D → List J.D → J.Env → Option (List J.D × J.Env)
  | [], acc, e => some (acc, e)
  | d :: ds, acc, e => match g d e with
    | none => none
    | some e1 => match c e1 with
      | .ok true e2 => (match kw acc e2 with
        | some (acc2, e3) => loopW g c kw vs ds acc2 (wipeE e3 vs)
        | none => none)
      | .ok false e2 => loopW g c kw vs ds acc (wipeE e2 vs)
      | _ => none
def kNextW (it : J.Env → R (List J.D)) (g : J.D → J.Env → Option J.Env) (c : J.Env → R Bool) (kw : KW) (vs : List Nat) : KW := fun acc env => match it env with
  | .ok ds e => loopW g c kw vs ds acc (wipeE e vs)
  | _ => none
def compNO (it : J.Env → R (List J.D)) (g : J.D → J.Env → Option J.Env) (c : J.Env → R Bool) (kw : KW) (vs : List Nat) : J.Env → R J.D := fun env => match it env with
  | .ok ds e => (match loopW g c kw vs ds [] (wipeE e vs) with
    | some (acc, e') => .ok (.lst true acc) e'
    | none => .no)
  | .ex c ns vs e => .ex c ns vs e
  | .no => .no
end
/-! defs that call themselves -/
theorem FnU.no {P : Program} {w : World} {K : PySem.W.Frag} {mg : Str → Option Value} {base : Heap} {C : CT} {k n : Nat} {f : Addr} {fd : FuncData} {ps : List Str} (hp : ps.length = n) : FnU P w K mg base k f fd ps (spP K C n fun _ => .no) :=
  ⟨fun vs H Q E h => h.1.trans hp.symm, fun A _ outer s H args us vs Q E _ _ _ _ h => by
    obtain ⟨_, M0, ds, F, _, z⟩ := h
    exact z.elim⟩
theorem Pure.no {n : Nat} : Pure n fun _ => R.no := ⟨fun _ => ⟨fun _ _ h => (nomatch h), fun _ _ _ _ h => (nomatch h)⟩⟩
end J
/-! List methods that write, slices stored, xs[::-1], truth of a list that is owned, list(range(..)). -/
namespace J
open PySem L2 PySem.Spec PyProof.Rows
section
variable {K : PySem.W.Frag} {C : CT} {W : Wish} {kp : List Nat} {M0 : Addr → Prop} {H H' H2 : Hp} {σ σ' : L2.St} {env env' : J.Env} {F F' F1 F2 G G' : List Addr} {v w : V} {d e : D} {l : Addr} {o : HO}
theorem RepL.erase {M : Addr → Prop} : ∀ {vs : List V} {ds : List D} {F : List Addr} {j : Nat} {d : D}, RepL K C M H vs ds F → ds[j]? = some d → ∃ v G F1 F2, vs[j]? = some v ∧ Rep K C M H v d G ∧ F = F1 ++ (G ++ F2) ∧ RepL K C M H (vs.eraseIdx j) (ds.eraseIdx j) (F1 ++ F2)
  | _, _, _, _, _, .nil, e => by simp at e
  | _, _, _, 0, d, .cons (F := F0) (G := G0) h t, e => by
    simp only [List.getElem?_cons_zero, Option.some.injEq] at e
    subst e
    exact ⟨_, F0, [], G0, rfl, h, rfl, t⟩
  | _, _, _, j + 1, d, .cons (F := F0) h t, e => by
    obtain ⟨v, G, F1, F2, h1, h2, h3, h4⟩ := RepL.erase t (j := j) (d := d) (by simpa using e)
    exact ⟨v, G, F0 ++ F1, F2, by simpa using h1, h2, by rw [h3]; simp, by rw [List.append_assoc]; exact .cons h h4⟩
/-- an item leaves the list on top, and comes to the top -/
theorem Rel.popAt {xs : List D} {j : Nat} {x : D} (r : Rel K C M0 H (some (.ref l) :: σ) (some (.lst true xs) :: env) F) (hj : xs[j]? = some x) :
    ∃ ys u F', H l = some (.lst ys) ∧ ys.length = xs.length ∧ ys[j]? = some u ∧ Rel K C M0 (upd H l (.lst (ys.eraseIdx j))) (some u :: some (.ref l) :: σ) (some x :: some (.lst true (xs.eraseIdx j)) :: env) F' ∧ Stp F H F' (upd H l (.lst (ys.eraseIdx j))) := by
  obtain ⟨rep, nd, dj, al, zd⟩ := r
  cases rep with
  | have_ h t =>
    cases h with
    | own hl tl =>
      rename_i F2 ys G
      obtain ⟨u, Gx, A1, A2, hu, hx, eG, q⟩ := RepL.erase tl hj
      subst eG
      -- the item's own part beside the rest
      have mem : ∀ b, b ∈ Gx ++ (l :: ((A1 ++ A2) ++ F2)) ↔ b ∈ l :: ((A1 ++ (Gx ++ A2)) ++ F2) := fun b => by
        simp only [List.mem_append, List.mem_cons]
        exact ⟨fun h => by rcases h with h | h | (h | h) | h <;> simp [h], fun h => by rcases h with h | (h | h | h) | h <;> simp [h]⟩
      have nd0 := List.nodup_cons.mp nd
      have ndA : ((A1 ++ (Gx ++ A2)) ++ F2).Nodup := nd0.2
      have nlG : l ∉ Gx := fun z => nd0.1 (by simp [z])
      have nlA : l ∉ A1 ++ A2 := fun z => nd0.1 (by simp only [List.mem_append] at z ⊢; rcases z with z | z <;> simp [z])
      have nlF : l ∉ F2 := fun z => nd0.1 (by simp [z])
      have em : orF M0 (l :: ((A1 ++ (Gx ++ A2)) ++ F2)) = orF M0 (Gx ++ (l :: ((A1 ++ A2) ++ F2))) := by
        funext b; simp only [orF]; exact propext (or_congr_right (mem b).symm)
      have ml : orF M0 (Gx ++ (l :: ((A1 ++ A2) ++ F2))) l := .inr (by simp)
      have h0 : (l :: (A1 ++ (Gx ++ A2))) ++ F2 = l :: ((A1 ++ (Gx ++ A2)) ++ F2) := rfl
      rw [h0] at t hx q zd dj
      rw [em] at t hx q zd
      refine ⟨ys, u, Gx ++ (l :: ((A1 ++ A2) ++ F2)), hl, tl.length, hu, ⟨?_, ?_, fun b hb => dj b ((mem b).mp hb), fun b z => (al b z).upd fun e => dj l (List.mem_cons_self ..) (e ▸ z), zd.mono (hide_upd ml)⟩, ⟨fun b o' n e => ?_, fun b hb => .inl ((mem b).mp hb)⟩⟩
      · exact .have_ (rep_upd ml nlG hx) (.have_ (F := l :: (A1 ++ A2)) (.own upd_same (repL_upd ml nlA q)) (repO_upd ml nlF t))
      · have h1 : ((A1 ++ (Gx ++ A2)) ++ F2) = A1 ++ (Gx ++ (A2 ++ F2)) := by simp
        have h2 : (Gx ++ (A1 ++ (A2 ++ F2))).Nodup := nodup_mid (F1 := Gx) (G := A1) (F2 := A2 ++ F2) (by rw [h1] at ndA; exact ndA)
        rw [List.nodup_append] at h2 ⊢
        refine ⟨h2.1, List.nodup_cons.mpr ⟨fun z => ?_, by simpa [List.append_assoc] using h2.2.1⟩, fun a ha b hb => ?_⟩
        · simp only [List.mem_append] at z nlA
          rcases z with (z | z) | z
          · exact nlA (.inl z)
          · exact nlA (.inr z)
          · exact nlF z
        · rcases List.mem_cons.mp hb with z | z
          · rintro rfl; exact nlG (z ▸ ha)
          · exact h2.2.2 a ha b (by simpa [List.append_assoc] using z)
      · rw [upd_ne (fun z => n (by rw [z]; exact List.mem_cons_self ..))]; exact e
theorem eraseIdx_last {α : Type} (xs : List α) : xs.eraseIdx (xs.length - 1) = xs.dropLast := by
  rw [List.dropLast_eq_take, List.eraseIdx_eq_take_drop_succ]
  rcases Nat.eq_zero_or_pos xs.length with h | h
  · rw [List.length_eq_zero_iff.mp h]; rfl
  · rw [List.drop_eq_nil_of_le (by omega), List.append_nil]
/-- xs.pop() -/
def popF (i : Nat) : J.Env → R D := fun env => match env[i]? with
  | some (some (.lst true xs)) => (match xs[xs.length - 1]? with
    | some x => .ok x (env.set i (some (.lst true (xs.eraseIdx (xs.length - 1)))))
    | none => .no)
  | _ => .no
theorem i_pop {i : Nat} {Q : VK} (h : tOf K C W (popF i) σ H Q) : tBM0 K "list" rPop (tVar i) σ H Q := by
  obtain ⟨M0, env, F, r, h⟩ := h
  unfold popF at h
  split at h
  case h_2 => exact h.elim
  rename_i xs ei
  split at h
  case h_2 => exact h.elim
  rename_i x ex
  obtain ⟨v, F1, hσ, r1, s1⟩ := r.take ei
  obtain ⟨l, ys0, _, rfl, hl0, _, _⟩ : ∃ a vs G, v = V.ref a ∧ H a = some (.lst vs) ∧ RepL K C (orF M0 F1) H vs xs G ∧ True := by
    have rr := r1.rep
    cases rr with
    | have_ hv _ => obtain ⟨a, vs, G, e, h1, t, _⟩ := hv.lstR; exact ⟨a, vs, G, e, h1, t, trivial⟩
  obtain ⟨ys, u, F2, hl, ly, hu, r2, s2⟩ := Rel.popAt r1 ex
  obtain ⟨G1, G2, eG, hv, r3⟩ := r2.pop
  obtain ⟨F3, r4, s4⟩ := r3.put (i := i) hσ
  rw [List.set_set] at r4
  obtain ⟨r5, s5⟩ := Rel.back r2 G1 G2 eG hv r4 (.sub s4)
  refine ⟨.ref l, hσ, .inl ⟨rfl, _, .of hl⟩, l, ys, u, rfl, rfl, hl, by rw [ly]; exact hu, ?_⟩
  rw [← eraseIdx_last, ly]
  rw [ly] at *
  exact h u _ _ r5 ((Stp.sub s1).trans (s2.trans s5))
/-- xs.pop(k) -/
def popKF (i : Nat) (f : J.Env → R D) : J.Env → R D := fun env => match env[i]? with
  | some (some (.lst true _)) => (f env).bind fun k e => (match k, e[i]? with
    | .int n, some (some (.lst true xs)) => if -(2 ^ 63) ≤ n ∧ n < 2 ^ 63 then (match ixN xs.length n with
      | some j => (match xs[j]? with
        | some x => .ok x (e.set i (some (.lst true (xs.eraseIdx j))))
        | none => .no)
      | none => .no) else .no
    | _, _ => .no)
  | _ => .no
/-- xs.extend(e) -/
def extO (i : Nat) (f : J.Env → R D) : J.Env → Out := fun env => match env[i]? with
  | some (some (.lst true _)) => (match f env with
    | .ok (.lst _ zs) e => (match e[i]? with
      | some (some (.lst true xs)) => if D.noOwnL zs && decide (xs.length + zs.length ≤ 1000000) then .nx (e.set i (some (.lst true (xs ++ zs)))) else .no
      | _ => .no)
    | .ex c ns vs e => .ex c ns vs e
    | _ => .no)
  | _ => .no
/-- the list on top is written anew: data behind its items -/
theorem Rel.lstNew {xs xs' : List D} {ws : List V} {G0 : List Addr} (r : Rel K C M0 H (some (.ref l) :: σ) (some (.lst true xs) :: env) F) (h : ∀ ys G, H l = some (.lst ys) → RepL K C (orF M0 F) H ys xs G → ∃ G', RepL K C (orF M0 F) H ws xs' G' ∧ G'.Sublist G) :
    ∃ F', Rel K C M0 (upd H l (.lst ws)) (some (.ref l) :: σ) (some (.lst true xs') :: env) F' ∧ Stp F H F' (upd H l (.lst ws)) := by
  obtain ⟨rep, nd, dj, al, zd⟩ := r
  cases rep with
  | have_ h' t =>
    cases h' with
    | own hl tl =>
      rename_i F2 ys G
      obtain ⟨G', t', sub⟩ := h ys G hl tl
      have nd0 := List.nodup_cons.mp nd
      obtain ⟨r2, s2⟩ := own_write (G := G) (G' := G') (o := .lst ws) (x := .lst true xs') nd dj al zd t ((List.nodup_append.mp nd0.2).1.sublist sub) (fun b hb => sub.subset hb) fun M' hM ml => .own upd_same (by
        have h3 := repL_upd (o := .lst ws) (.inr (List.mem_cons_self ..)) (fun z => nd0.1 (List.mem_append_left _ (sub.subset z))) t'
        exact repL_mono (hide_mono (.refl _) fun b z => .inl (hM b z)) h3 fun _ _ _ e => e)
      exact ⟨_, r2, s2⟩
theorem i_ext {i : Nat} {f : J.Env → R D} {E : Ends} (h : tS K C W kp (extO i f) E σ H) : tDrop (tBM K "list" rExtend (tVar i) (tCons (tOf K C W f) tNil)) E σ H := by
  obtain ⟨M0, env, F, r, h⟩ := h
  unfold extO at h
  split at h
  case h_2 => exact h.elim
  rename_i xs0 e0
  obtain ⟨v0, _, _, _, hσ, hv0, _, _⟩ := r.rep.at e0
  obtain ⟨l, vs0, _, rfl, hl0, _, _⟩ := hv0.lstR
  refine ⟨.ref l, hσ, .inl ⟨rfl, _, .of hl0⟩, M0, env, F, r, ?_⟩
  cases ef : f env with
  | no => rw [ef] at h; exact h
  | ex c ns ds e => rw [ef] at h; exact exS h
  | ok d e =>
    rw [ef] at h
    cases d <;> try exact h.elim
    rename_i oo zs
    intro v H1 F1 r1 s1
    simp only at h
    split at h
    case h_2 => exact h.elim
    rename_i xs ei
    split at h
    case isFalse => exact h.elim
    rename_i hz
    simp only [Bool.and_eq_true, decide_eq_true_eq] at hz
    obtain ⟨F2, r2, s2⟩ := r1.fz
    obtain ⟨F3, r3, s3, hv⟩ := r2.dataTop
    obtain ⟨v', F4, hσ', r4, s4⟩ := r3.take ei
    obtain rfl : v' = .ref l := by rw [hσ] at hσ'; simpa using hσ'.symm
    have hv2 := rep_mono (M' := orF M0 F4) (hide_mono (.refl _) fun b z => .inl (z.imp id (s4 b))) hv fun _ hb => absurd hb List.not_mem_nil
    obtain ⟨b, ws, Gz, rfl, hb, tz, _⟩ := hv2.lstR
    have tz := tz.nn (Rel.dup.noOwnL_fzL zs)
    have ez : D.fzL zs = zs := by
      have rr := r1.rep
      cases rr with
      | have_ hv _ =>
        obtain ⟨_, _, _, _, _, t, _⟩ := hv.lstR
        exact (fz_noOwnL t hz.1).2
    rw [ez] at tz
    obtain ⟨l', ys, _, el, hl, tl, _⟩ : ∃ a vs G, V.ref l = V.ref a ∧ H1 a = some (.lst vs) ∧ RepL K C (orF M0 F4) H1 vs xs G ∧ True := by
      have rr := r4.rep
      cases rr with
      | have_ hv _ => obtain ⟨a, vs, G, e, h1, t, _⟩ := hv.lstR; exact ⟨a, vs, G, e, h1, t, trivial⟩
    cases el
    obtain ⟨F5, r5, s5⟩ := Rel.lstNew (G0 := []) (xs' := xs ++ zs) (ws := ys ++ ws) r4 fun ys' G hl' t' => by
      rw [hl] at hl'
      obtain rfl : ys = ys' := by simpa using hl'
      exact ⟨G, by have := t'.app tz; rw [List.append_nil] at this; exact this, .refl _⟩
    obtain ⟨F6, r6, s6⟩ := r5.put (i := i) hσ
    rw [List.set_set] at r6
    refine ⟨l, b, ys, ws, rfl, rfl, hl, hb, by rw [tl.length, tz.length]; exact Nat.le_trans hz.2 (by rw [sizeLine_eq]; decide), ?_⟩
    exact h σ _ F6 r6 (s1.trans ((Stp.subl s2).trans ((Stp.subl s3).trans ((Stp.sub s4).trans (s5.trans (.sub s6)))))) Kp.rfl
/-! xs[a:c] = e -/
def putSG (i : Nat) (fa fb : J.Env → Option D) : D → J.Env → Option J.Env := fun d env => match d, fa env, fb env, env[i]? with
  | .lst _ ys, some (.int a), some (.int c), some (some (.lst true xs)) => if D.noOwnL ys && (D.noOwnL xs && (decide (0 ≤ a) && (decide (a ≤ c) && (decide (c ≤ xs.length) && decide (xs.length + ys.length ≤ 1000000))))) then
      some (env.set i (some (.lst true (xs.take a.toNat ++ ys ++ xs.drop c.toNat)))) else none
  | _, _, _, _ => none
/-! xs[::-1] -/
def revD (d : D) : Option D := match d with
  | .lst _ xs => if D.noOwnL xs then some (.lst true xs.reverse) else none
  | .scr xs => some (.lst true xs.reverse)
  | _ => none
theorem RepL.rev {M : Addr → Prop} : ∀ {vs : List V} {ds : List D} {F : List Addr}, RepL K C M H vs ds F → F = [] → RepL K C M H vs.reverse ds.reverse []
  | _, _, _, .nil, _ => .nil
  | _, _, _, .cons h t, e => by
    obtain ⟨rfl, rfl⟩ := List.append_eq_nil_iff.mp e
    rw [List.reverse_cons, List.reverse_cons]
    exact RepL.app (F := []) (G := []) (t.rev rfl) (.cons (F := []) (G := []) h .nil)
theorem p_rev : Op1 K C (fun x H1 Q => ∃ a xs, x = .ref a ∧ SqL K H1 a xs ∧ ∀ p, H1 p = none → Q (.ref p) (upd H1 p (.lst xs.reverse))) revD := by
  intro M0 σ env F H v d x Q rl eg q
  obtain ⟨F4, r4, s4⟩ := rl.drop
  have sub : ∀ b ∈ F4, b ∈ F := fun b hb => s4.subset hb
  have rr := rl.rep
  cases rr with
  | have_ hv _ =>
    cases d <;> simp only [revD, reduceCtorEq] at eg
    · split at eg
      · rename_i hn
        obtain rfl := Option.some.inj eg
        obtain ⟨a, vs, G7, rfl, h7, t7, _⟩ := hv.lstR
        refine ⟨a, vs, rfl, .of h7, fun p np => ?_⟩
        obtain ⟨F8, r8, s8⟩ := Rel.newL_ r4 sub ((t7.nn hn).rev rfl) np
        exact q _ _ F8 r8 s8
      · cases eg
    · obtain rfl := Option.some.inj eg
      cases hv with
      | scr h7 =>
        refine ⟨_, _, rfl, SqL.mono hide_le h7, fun p np => ?_⟩
        obtain ⟨F8, r8, s8⟩ := Rel.newL_ r4 sub ((ints_repL _).rev rfl) np
        exact q _ _ F8 r8 s8
/-! truth, read alone -/
def truBB (g : J.Env → Option D) : J.Env → R Bool := fun env => match g env with
  | some d => (match truD d with | some b => .ok b env | none => .no)
  | none => .no
theorem i_truBB {g : J.Env → Option D} {Q : Bool → Hp → Prop} (h : ttOf K C W (truBB g) σ H Q) : bOf K C g σ H fun x H' => ∃ k, TruV K x H' k ∧ Q k H' := by
  obtain ⟨M0, env, F, r, h⟩ := h
  unfold truBB at h
  cases eg : g env with
  | none => rw [eg] at h; exact h.elim
  | some d =>
    rw [eg] at h
    refine ⟨M0, env, F, r, d, eg, fun v H' s r' ⟨G, _, hv⟩ => ?_⟩
    cases eb : truD d with
    | none => simp only [eb] at h; exact h.elim
    | some b => simp only [eb] at h; exact ⟨b, tru_rep hv eb, h H' F r' (.same s fun b hb => .inl hb)⟩
/-! list(range(..)) -/
def rgD (a b : Int) : List D := (List.range (b - a).toNat).map fun i => .int (a + (i : Nat))
def lrgF1 (f : J.Env → R D) : J.Env → R D := fun env => match f env with
  | .ok (.int n) e => if n ≤ 10000 ∧ 0 ≤ n then .ok (.lst true (rgD 0 n)) e else .no
  | .ex c ns vs e => .ex c ns vs e
  | _ => .no
end
section
variable {X : Cx} {C : CT} {W : WX} {kp : List Nat} {pos p p' p2 apos : Pos} {a b c e o : Expr} {i : Nat} {f f2 : J.Env → R D} {g g2 : J.Env → Option D}
theorem z_pop (h : PE X e (tBM0 X.K "list" rPop (tVar i))) : PE X e (T_ X C W (popF i)) := h.imp fun _ _ _ q => i_pop q
theorem z_ext {st : Stmt} (h : PS X st (tDrop (tBM X.K "list" rExtend (tVar i) (tCons (T_ X C W f) tNil)))) : PS X st (S_ X C W kp (extO i f)) := h.imp fun _ _ _ q => i_ext q
theorem z_rev (h : PE X e (tRevL X.K (T_ X C W f))) : PE X e (T_ X C W (lift1 revD f)) := h.imp fun σ H Q q => i_op1 (r := fun x H1 Q => ∃ a xs, x = .ref a ∧ SqL X.K H1 a xs ∧ ∀ p, H1 p = none → Q (.ref p) (upd H1 p (.lst xs.reverse))) p_rev q
theorem t_truB (h : PE X a (bOf X.K C g)) (he : ∀ whole, isTrue a X.env whole = (do let v ← whole; standAt a.pos; holding [v] (truthy v))) : PT X a (TT_ X C W (truBB g)) := (pt_truth h he).imp fun _ _ _ q => i_truBB q
end
/-! zip of two lists -/
section
variable {K : PySem.W.Frag} {C : CT} {W : Wish} {M0 : Addr → Prop} {H : Hp} {σ : L2.St} {env : J.Env} {F : List Addr}
def zipI (f : J.Env → R (List D)) : J.Env → R (List D) := fun env => match f env with
  | .ok [.lst _ xs, .lst _ ys] e => .ok (zipD (D.fzL xs) (D.fzL ys)) e
  | .ex c ns vs e => .ex c ns vs e
  | _ => .no
end
/-! x in a list or tuple of flat items -/
section
variable {K : PySem.W.Frag} {C : CT} {W : Wish} {M0 : Addr → Prop} {H : Hp} {σ : L2.St} {env : J.Env} {F : List Addr}
def seqD : D → Option (List D)
  | .lst _ xs => some xs | .tup xs => some xs | _ => none
end
end J
/-! a value is frozen at once: nobody writes it any more -/
namespace J
open PySem L2 PySem.Spec PyProof.Rows
def ltI (i j : Int) : Bool := decide (i < j)
def leI (i j : Int) : Bool := decide (i ≤ j)
def gtI (i j : Int) : Bool := decide (j < i)
def geI (i j : Int) : Bool := decide (j ≤ i)
def frzF (f : J.Env → R D) : J.Env → R D := fun env => match f env with
  | .ok d e => .ok d.fz e
  | .ex c ns vs e => .ex c ns vs e
  | .no => .no
/-! a, b, .. = a list of that length -/
def lstG (n : Nat) (g : List D → J.Env → Option J.Env) : D → J.Env → Option J.Env := fun d env => match d with
  | .lst false ds => if ds.length = n then g ds env else none
  | _ => none
end J
/-! exceptions: raised, caught -/
namespace J
open PySem L2 PySem.Spec PyProof.Rows
/-- the promise of an own exception class's __init__: ns are the fields, fl their values by the arguments -/
def spX (Ca : Addr) (okv : List V → Prop) (ns : List Str) (fl : List V → List V) : Sp := fun vs H Q _ => ∃ (a : Addr) (us : List V), vs = .ref a :: us ∧ okv us ∧ H a = some (exo a Ca none) ∧ ∀ d, H d = none → d ≠ a → Q .non (upd (upd H d (exd d (ns.zip (fl us)))) a (exo a Ca (some d)))
structure XCalU (P : Program) (w : World) (K : PySem.W.Frag) (mg : Str → Option Value) (base : Heap) (C : CT) (c : Nat) (x : Str) (k : Nat) (ps : List Str) (okv : List V → Prop) (ns : List Str) (fl : List V → List V) (ds : List Value) (dvs : List V) where
  f : Addr
  fd : FuncData
  ok : FnOk P w K mg base CX0 k f fd ps (spX (C c) okv ns fl)
  b : Binds K fd ps ds
  vd : Vals dvs ds
  ox : OexC K (C c)
  g : mg x = some (.ref (C c))
  iC : PySem.W.findIn K (.ref (C c)) "__init__" = some (some (.ref f))
  tI : PySem.W.typeIn K (.ref f) = some (.type "function")
def raiseO (c : Nat) (ns : List Str) (g : List D → Option (List D)) (af : J.Env → R (List D)) : J.Env → Out := fun env => match af env with
  | .ok ds e => if D.noOwnL ds then (match g ds with | some xs => .ex c ns xs e | none => .no) else .no
  | .ex c ns vs e => .ex c ns vs e
  | .no => .no
/-- what the pure word says of the fields is what the heap's does -/
def XG (g : List D → Option (List D)) (okv : List V → Prop) (fl : List V → List V) (dvs : List V) (ns : List Str) : Prop := ∀ (K : PySem.W.Frag) (C : Nat → Addr) (M : Addr → Prop) (H : Hp) (vs : List V) (ds xs : List D), RepL K C M H vs ds [] → g ds = some xs → okv (vs ++ dvs) ∧ RepL K C M H (fl (vs ++ dvs)) xs [] ∧ vs.length ≤ 1000 ∧ (fl (vs ++ dvs)).length = ns.length
section
variable {K : PySem.W.Frag} {C : CT} {W : Wish} {kp : List Nat} {M0 : Addr → Prop} {H : Hp} {σ : L2.St} {env : J.Env} {F : List Addr}
theorem repO_L {M : Addr → Prop} : ∀ {vs : List V} {ds : List D} {F : List Addr}, RepO K C M H (vs.map some) (ds.map some) F → RepL K C M H vs ds F
  | [], [], _, .nil => .nil
  | _ :: _, _ :: _, _, .have_ h t => .cons h (repO_L t)
theorem i_raise {c : Nat} {ns : List Str} {g : List D → Option (List D)} {af : J.Env → R (List D)} {okv : List V → Prop} {fl : List V → List V} {dvs : List V} {E : Ends} (G : XG g okv fl dvs ns) (h : tS K C W kp (raiseO c ns g af) E σ H) :
    tMkO (C c) (spX (C c) okv ns fl) dvs (aOf K C W af []) σ H (fun cls d H' => W σ cls d H') := by
  obtain ⟨M0, env, F, r, h⟩ := h
  refine ⟨M0, env, F, r, ?_⟩
  cases ef : af env with
  | no => simp only [raiseO, ef] at h; exact h
  | ex c ns ds e => simp only [raiseO, ef] at h; exact exS h
  | ok ds e =>
    simp only [raiseO, ef] at h
    intro vs H1 F1 r1 s1 hl _
    have hn : D.noOwnL ds = true := by
      by_cases hn : D.noOwnL ds = true
      · exact hn
      · rw [if_neg hn] at h; exact False.elim h
    rw [if_pos hn] at h
    cases hg : g ds with
    | none => rw [hg] at h; exact False.elim h
    | some xs =>
      rw [hg] at h
      obtain ⟨Fa, Fb, eF, ra, rb⟩ := r1.pops (by rw [List.length_map, List.length_map]; exact hl)
      have rl : RepL K C (orF M0 F1) H1 vs ds [] := (repO_L ra).nn hn
      obtain ⟨g1, g2, g3, g4⟩ := G K C _ H1 vs ds xs rl hg
      obtain ⟨F2, r2, m2⟩ := Rel.drops (by rw [List.length_map, List.length_map]; exact hl) r1
      refine ⟨g3, fun a na => ⟨a, vs ++ dvs, rfl, g1, upd_same, fun d nd hda => ?_⟩⟩
      have nd1 : H1 d = none := by rw [upd_ne hda] at nd; exact nd
      refine ⟨rfl, d, ns.zip (fl (vs ++ dvs)), upd_same, by rw [upd_ne hda, upd_same], nd1, ?_⟩
      have eH : upd (del (upd (upd (upd H1 a (exo a (C c) none)) d (exd d (ns.zip (fl (vs ++ dvs))))) a (exo a (C c) (some d))) a) d (.xd (ns.zip (fl (vs ++ dvs)))) = upd H1 d (.xd (ns.zip (fl (vs ++ dvs)))) := by
        funext b
        by_cases hb : b = d
        · rw [hb, upd_same, upd_same]
        · rw [upd_ne hb, upd_ne hb]
          by_cases hba : b = a
          · rw [hba, del_same, na]
          · rw [del_ne hba, upd_ne hba, upd_ne hb, upd_ne hba]
      rw [eH]
      have sm : Same H1 (upd H1 d (.xd (ns.zip (fl (vs ++ dvs))))) := new_same nd1
      refine h d _ σ _ F2 (r2.grow sm) (s1.trans ⟨fun b o _ e => sm b o e, fun b hb => .inl (m2 b hb)⟩) Kp.rfl (by
        rw [hide_out fun z => ?_]
        · exact upd_same
        · rcases z with z | z
          · exact (r2.al _ z).ne nd1
          · exact (repO_alive r2.rep _ z).ne nd1) g4.symm ?_
      refine repL_mono (fun b o q => ?_) g2 fun _ hb => absurd hb List.not_mem_nil
      obtain ⟨q1, q2⟩ := hide_some q
      rw [hide_out fun z => q2 ?_]
      · exact sm b o q1
      · rcases z with z | z
        · exact .inl z
        · exact .inr (m2 b z)
end
/-- raise X(..) -/
theorem z_raise {P : Program} {w : World} {mg : Str → Option Value} {base : Heap} {X : Cx} {C : CT} {W : WX} {kp : List Nat} {c : Nat} {x : Str} {k : Nat} {ps : List Str} {okv : List V → Prop} {ns : List Str} {fl : List V → List V} {ds : List Value} {dvs : List V} {g : List D → Option (List D)} {af : J.Env → R (List D)} {e : Expr} {es : List Expr} {p pos pos' : Pos}
    (hc : X.calm = true) (tk : Takes X W) (eP : X.prog = P) (ew : X.w = w) (eM : X.mg = mg) (eB : X.base = base) (xc : XCalU P w X.K mg base C c x k ps okv ns fl ds dvs) (hr : Room (k + 1) X.A) (hg : Gl X x) (G : XG g okv fl dvs ns) (ha : PA X (e :: es) (A_ X C W af []))
    (hdb : (x == ("__debug__" : Str)) = false := by decide) (he : starEach (e :: es) X.env = (false, eval e X.env) :: starEach es X.env := by rfl) (hpl : (backTo pos (starEach es X.env)).any (·.1) = false := by rfl) :
    PS X (.Raise (some (.Call (.Name x p) (e :: es) [] pos)) none pos') (S_ X C W kp (raiseO c ns g af)) := by
  subst eP ew eM eB
  exact (ps_raise hc tk (pmk_oex xc.ox xc.iC xc.tI xc.ok hr xc.b xc.vd pass0 hg xc.g ha hdb he hpl)).imp fun D σ H h => i_raise G h
end J
namespace J
open PySem L2 PySem.Spec PyProof.Rows
/-! what a suite holds -/
mutual
def D.noX : D → Bool
  | .non => true | .bl _ => true | .int _ => true | .str _ => true | .hole => true | .exc => false
  | .lst _ xs => D.noXL xs
  | .scr _ => true
  | .tup xs => D.noXL xs
  | .dK _ _ vs => D.noXL vs
  | .tK _ vs => D.noXL vs
  | .dT _ _ vs => D.noXL vs
  | .ins _ c _ vs => c != 999 && D.noXL vs
def D.noXL : List D → Bool
  | [] => true
  | d :: ds => d.noX && D.noXL ds
end
def noXE : J.Env → Bool
  | [] => true
  | none :: e => noXE e
  | some d :: e => d.noX && noXE e
section
variable {K : PySem.W.Frag} {C C' : Nat → Addr} {M : Addr → Prop} {H : Hp}
mutual
theorem rep_chg (h : ∀ n, n ≠ 999 → C' n = C n) : ∀ {v : V} {d : D} {F : List Addr}, Rep K C M H v d F → d.noX = true → Rep K C' M H v d F
  | _, _, _, .non, _ => .non
  | _, _, _, .bl b, _ => .bl b
  | _, _, _, .int i, _ => .int i
  | _, _, _, .str x, _ => .str x
  | _, _, _, .hole v, _ => .hole v
  | _, _, _, .exc, k => nomatch k
  | _, _, _, .lst h1 e t, k => .lst h1 e (repL_chg h t k)
  | _, _, _, .scr h1, k => .scr h1
  | _, _, _, .own h1 t, k => .own h1 (repL_chg h t k)
  | _, _, _, .tup h1 t, k => .tup h1 (repL_chg h t k)
  | _, _, _, .dKf h1 l e t, k => .dKf h1 l e (repL_chg h t k)
  | _, _, _, .dKo h1 l t, k => .dKo h1 l (repL_chg h t k)
  | _, _, _, .tK h1 l e t, k => .tK h1 l e (repL_chg h t k)
  | _, _, _, .dTf h1 l e t, k => .dTf h1 l e (repL_chg h t k)
  | _, _, _, .dTo h1 l t, k => .dTo h1 l (repL_chg h t k)
  | _, _, _, .insF (c := c) h1 l e t, k => by
    simp only [D.noX, Bool.and_eq_true, bne_iff_ne] at k
    exact .insF (c := c) (by rw [h c k.1]; exact h1) l e (repL_chg h t k.2)
  | _, _, _, .insO (c := c) h1 l t, k => by
    simp only [D.noX, Bool.and_eq_true, bne_iff_ne] at k
    exact .insO (c := c) (by rw [h c k.1]; exact h1) l (repL_chg h t k.2)
theorem repL_chg (h : ∀ n, n ≠ 999 → C' n = C n) : ∀ {vs : List V} {ds : List D} {F : List Addr}, RepL K C M H vs ds F → D.noXL ds = true → RepL K C' M H vs ds F
  | _, _, _, .nil, _ => .nil
  | _, _, _, .cons a t, k => by
    simp only [D.noXL, Bool.and_eq_true] at k
    exact .cons (rep_chg h a k.1) (repL_chg h t k.2)
end
theorem repO_chg (h : ∀ n, n ≠ 999 → C' n = C n) : ∀ {σ : List (Option V)} {e : J.Env} {F : List Addr}, RepO K C M H σ e F → noXE e = true → RepO K C' M H σ e F
  | _, _, _, .nil, _ => .nil
  | _, _, _, .gone t, k => .gone (repO_chg h t k)
  | _, _, _, .have_ a t, k => by
    simp only [noXE, Bool.and_eq_true] at k
    exact .have_ (rep_chg h a k.1) (repO_chg h t k.2)
end
/-- C, an exception held beside -/
def CT.hold (C : CT) (z : ZT) : CT := { cl := fun n => if n = 999 then z.a else C.cl n, z := some z }
theorem CT.hold_ne {C : CT} {z : ZT} {n : Nat} (h : n ≠ 999) : (C.hold z).cl n = C.cl n := if_neg h
theorem CT.hold_999 {C : CT} {z : ZT} : (C.hold z).cl 999 = z.a := by simp [CT.hold]
def tryOnlyO (m : List (Nat × Bool)) (body hd : J.Env → Out) : J.Env → Out := fun env => match body env with
  | .ex c ns vs e => (match m.lookup c with
    | some true => (match hd e with
      | .ex _ _ _ _ => .no
      | o => o)
    | some false => .ex c ns vs e
    | none => .no)
  | o => o
/-- what is behind a suite: the exception's name goes -/
def outX (i : Nat) : Out → Out := fun o => match o with
  | .nx e => if noXE (e.set i none) then .nx (e.set i none) else .no
  | .bk e => if noXE (e.set i none) then .bk (e.set i none) else .no
  | .ct e => if noXE (e.set i none) then .ct (e.set i none) else .no
  | .rt r e => if r.noX && noXE (e.set i none) then .rt r (e.set i none) else .no
  | _ => .no
def tryAsO (m : List (Nat × Bool)) (i : Nat) (body : J.Env → Out) (hd : Nat → List Str → List D → J.Env → Out) : J.Env → Out := fun env => match body env with
  | .ex c ns vs e => (match m.lookup c with
    | some true => if i < e.length then (if D.noXL vs && noXE (e.set i none) then outX i (hd c ns vs (e.set i (some .exc))) else .no) else .no
    | some false => .ex c ns vs e
    | none => .no)
  | o => o
/-- e.f in a suite -/
def xfF (i : Nat) (f : Str) (ns : List Str) (ds : List D) : J.Env → R D := fun env => match env[i]? with
  | some (some .exc) => (match lookD ns ds f with
    | some d => .ok d env
    | none => .no)
  | _ => .no
def W00 : WX := fun _ _ _ _ => False
section
variable {K : PySem.W.Frag} {C : CT} {W : Wish} {kp : List Nat} {M0 : Addr → Prop} {H H' : Hp} {σ σ' : L2.St} {env e : J.Env} {F F' : List Addr} {D0 : Ends} {o : Out} {z : ZT} {r : D} {v : V}
/-- the exception is let go again -/
theorem Rel.unhold {i : Nat} (rl : Rel K (C.hold z) M0 H σ e F) (hn : noXE (e.set i none) = true) (zd : Zd K C (orF M0 F) H) (x : Option V) : ∃ F', Rel K C M0 H (σ.set i x) (e.set i none) F' ∧ F'.Sublist F := by
  obtain ⟨F1, r1, s1⟩ := rl.forget (i := i) (x := x)
  refine ⟨F1, ⟨repO_chg (fun n hn => (CT.hold_ne hn).symm) r1.rep hn, r1.nd, r1.dj, r1.al, zd.mono (hide_mono (.refl _) fun b y => .inl (y.imp id fun q => s1.subset q))⟩, s1⟩
theorem Rel.unholdV {i : Nat} (rl : Rel K (C.hold z) M0 H (some v :: σ) (some r :: e) F) (hr : r.noX = true) (hn : noXE (e.set i none) = true) (zd : Zd K C (orF M0 F) H) (x : Option V) : ∃ F', Rel K C M0 H (some v :: σ.set i x) (some r :: e.set i none) F' ∧ F'.Sublist F := by
  have h := Rel.unhold (i := i + 1) rl (by simp only [List.set_cons_succ, noXE, hr, hn, Bool.and_self]) zd x
  simpa only [List.set_cons_succ] using h
theorem i_tryAs {m : List (Nat × Bool)} {i : Nat} {body : J.Env → Out} {hd : Nat → List Str → List D → J.Env → Out} {cc : Value} {ts : Addr → Value → Option Addr → TS} {W' : WX} (hW : W = WE W') (hik : i ∉ kp) (hm : ∀ c b, m.lookup c = some b → PySem.W.exmOne K (.ref (C c)) cc = some b)
    (hts : ∀ (a : Addr) (z : ZT) cls d E σ H, z.a = a → cls = Value.ref (C z.c) → d = some z.dd → m.lookup z.c = some true → tS K (C.hold z) W0 kp (hd z.c z.ns z.ds) E σ H → ts a cls d E σ H) (h : tS K C W kp (tryAsO m i body hd) D0 σ H) : tS K C (WE (wAs K cc i ts W' D0)) kp body D0 σ H := by
  obtain ⟨M0, env, F, r, h⟩ := h
  refine ⟨M0, env, F, r, ?_⟩
  unfold tryAsO at h
  cases hb : body env with
  | nx e => rw [hb] at h; exact h
  | rt q e => rw [hb] at h; exact h
  | bk e => rw [hb] at h; exact h
  | ct e => rw [hb] at h; exact h
  | no => rw [hb] at h; exact h
  | ex c ns vs e =>
    rw [hb] at h
    dsimp only at h
    intro od us σ1 H1 F1 r1 s1 k1 e1 e2 l1
    cases hl : m.lookup c with
    | none => rw [hl] at h; exact False.elim h
    | some b =>
      rw [hl] at h
      refine ⟨b, hm c b hl, fun hb a na => ?_, fun hb => by subst hb; subst hW; exact h od us σ1 H1 F1 r1 s1 k1 e1 e2 l1⟩
      subst hb
      dsimp only at h
      have hi : i < e.length := by
        by_cases hi : i < e.length
        · exact hi
        · rw [if_neg hi] at h; exact False.elim h
      rw [if_pos hi] at h
      have hn : (D.noXL vs && noXE (e.set i none)) = true := by
        by_cases hn : (D.noXL vs && noXE (e.set i none)) = true
        · exact hn
        · rw [if_neg hn] at h; exact False.elim h
      rw [if_pos hn] at h
      simp only [Bool.and_eq_true] at hn
      have hik' : ∀ {σ2 : L2.St} {x : Option V}, Kp kp σ2 (σ2.set i x) := fun {σ2 x} j hj => List.getElem?_set_ne (fun q : i = j => hik (by rw [q]; exact hj))
      have kt : ∀ {a b c : L2.St}, Kp kp a b → Kp kp b c → Kp kp a c := fun x y j hj => (y j hj).trans (x j hj)
      obtain ⟨F2, r2, s2⟩ := r1.forget (i := i) (x := some (.ref a))
      have ee : (e.set i none).set i (some (.exc : D)) = e.set i (some .exc) := by simp
      obtain ⟨z, hz⟩ : ∃ z : ZT, z = ⟨a, c, od, ns, us, vs⟩ := ⟨_, rfl⟩
      have r3 : Rel K (C.hold z) M0 H1 (σ1.set i (some (.ref a))) (e.set i none) F2 := by
        refine ⟨repO_chg (fun n hn => CT.hold_ne hn) r2.rep hn.2, r2.nd, r2.dj, r2.al, fun z' hz' => ?_⟩
        have hz2 : z = z' := Option.some.inj hz'
        subst hz2
        subst hz
        have hs : Same (hide (orF M0 F1) H1) (hide (orF M0 F2) H1) := hide_mono (.refl _) fun b y => .inl (y.imp id fun q => s2.subset q)
        exact ⟨hs _ _ e1, e2, repL_chg (fun n hn => CT.hold_ne hn) (repL_mono hs l1 fun _ hb => absurd hb List.not_mem_nil) hn.1⟩
      have hx : Rep K (C.hold z) (orF M0 F2) H1 (.ref a) .exc [] := by
        have q : (C.hold z).cl 999 = a := by rw [CT.hold_999, hz]
        have := Rep.exc (K := K) (C := (C.hold z).cl) (M := orF M0 F2) (H := H1)
        rw [q] at this
        exact this
      have lσ : i < σ1.length := by rw [r1.rep.length]; exact hi
      obtain ⟨F3, r5, m5⟩ := (r3.data hx).put (i := i) (List.getElem?_set_self lσ)
      rw [ee] at r5
      have s13 : Stp F1 H1 F3 H1 := .sub fun b hb => s2.subset (m5 b hb)
      refine hts a z _ _ _ _ _ (by rw [hz]) (by rw [hz]) (by rw [hz]) (by rw [hz]; exact hl) ⟨M0, e.set i (some .exc), F3, r5, ?_⟩
      rw [show z.ns = ns by rw [hz], show z.ds = vs by rw [hz], show z.c = c by rw [hz]]
      generalize hd c ns vs (e.set i (some .exc)) = o at h ⊢
      have zd : ∀ {F4 : List Addr} {H2 : Hp}, Stp F3 H1 F4 H2 → Zd K C (orF M0 F4) H2 := fun s => r1.zd.mono (Stp.hide (s13.trans s) r1.dj)
      cases o with
      | nx e3 =>
        intro σ2 H2 F4 r6 s6 k6
        unfold outX at h
        by_cases q : noXE (e3.set i none) = true
        · simp only [q, if_true] at h
          obtain ⟨F5, r7, s7⟩ := r6.unhold q (zd s6) none
          exact h _ H2 F5 r7 (s1.trans (s13.trans (s6.trans (.subl s7)))) (kt k1 (kt hik' (kt k6 hik')))
        · simp only [q, if_false] at h; exact False.elim h
      | bk e3 =>
        intro σ2 H2 F4 r6 s6 k6
        unfold outX at h
        by_cases q : noXE (e3.set i none) = true
        · simp only [q, if_true] at h
          obtain ⟨F5, r7, s7⟩ := r6.unhold q (zd s6) none
          exact h _ H2 F5 r7 (s1.trans (s13.trans (s6.trans (.subl s7)))) (kt k1 (kt hik' (kt k6 hik')))
        · simp only [q, if_false] at h; exact False.elim h
      | ct e3 =>
        intro σ2 H2 F4 r6 s6 k6
        unfold outX at h
        by_cases q : noXE (e3.set i none) = true
        · simp only [q, if_true] at h
          obtain ⟨F5, r7, s7⟩ := r6.unhold q (zd s6) none
          exact h _ H2 F5 r7 (s1.trans (s13.trans (s6.trans (.subl s7)))) (kt k1 (kt hik' (kt k6 hik')))
        · simp only [q, if_false] at h; exact False.elim h
      | rt r e3 =>
        intro v σ2 H2 F4 r6 s6 k6
        unfold outX at h
        by_cases q : (r.noX && noXE (e3.set i none)) = true
        · simp only [q, if_true] at h
          simp only [Bool.and_eq_true] at q
          obtain ⟨F5, r7, s7⟩ := r6.unholdV q.1 q.2 (zd s6) none
          exact h v _ H2 F5 r7 (s1.trans (s13.trans (s6.trans (.subl s7)))) (kt k1 (kt hik' (kt k6 hik')))
        · simp only [q, if_false] at h; exact False.elim h
      | ex => exact False.elim h
      | no => exact False.elim h
theorem i_xf {i : Nat} {f : Str} {a : Addr} {cls : Value} {dd : Option Addr} {Q : VK} (ha : z.a = a) (hc : cls = Value.ref (C z.c)) (hd : dd = some z.dd) (h : tOf K (C.hold z) W (xfF i f z.ns z.ds) σ H Q) : tXf a cls dd (C z.c) f (tVar i) σ H Q := by
  obtain ⟨M0, env, F, r, h⟩ := h
  unfold xfF at h
  cases he : env[i]? with
  | none => rw [he] at h; exact False.elim h
  | some y => cases y with
    | none => rw [he] at h; exact False.elim h
    | some d => cases d with
      | exc =>
        rw [he] at h
        dsimp only at h
        obtain ⟨v, G, F1, F2, hσ, hv, _⟩ := r.rep.at he
        obtain ⟨h1, h2, h3⟩ := r.zd z rfl
        have hva : v = .ref a := by
          cases hv
          rw [CT.hold_999, ha]
        subst hva
        cases hl : lookD z.ns z.ds f with
        | none => rw [hl] at h; exact False.elim h
        | some d =>
          rw [hl] at h
          have key : ∀ {ns : List Str} {vs : List V} {ds : List D}, ns.length = vs.length → RepL K (C.hold z) (orF M0 F) H vs ds [] → lookD ns ds f = some d → ∃ v, (ns.zip vs).lookup f = some v ∧ Rep K (C.hold z) (orF M0 F) H v d [] := by
            intro ns
            induction ns with
            | nil => intro vs ds _ _ q; simp [lookD] at q
            | cons n ns ih =>
              intro vs ds l t q
              generalize hE : ([] : List Addr) = E at t
              cases t with
              | nil => simp [lookD] at q
              | cons a1 t1 =>
                rename_i v1 d1 vs1 ds1 Fa Fb
                obtain ⟨ea, eb⟩ := List.append_eq_nil_iff.mp hE.symm
                subst ea eb
                simp only [lookD] at q
                by_cases hf : (f == n) = true
                · rw [if_pos hf] at q
                  cases q
                  exact ⟨v1, by simp only [List.zip_cons_cons, List.lookup, hf], a1⟩
                · rw [if_neg hf] at q
                  obtain ⟨v, q1, q2⟩ := ih (by simpa using l) t1 q
                  exact ⟨v, by simp only [List.zip_cons_cons, List.lookup, Bool.eq_false_iff.mpr hf]; exact q1, q2⟩
          obtain ⟨v, q1, q2⟩ := key h2 h3 hl
          exact ⟨.ref a, hσ, rfl, hc, z.dd, _, v, hd, (hide_some h1).1, q1, h v H F (r.data q2) .refl⟩
      | _ => rw [he] at h; exact False.elim h
end
/-- e.f in a suite -/
theorem q_xf {X : Cx} {C : CT} {W : WX} {a : Addr} {oe : Obj} {cls : Value} {d : Option Addr} {pn : List (Addr × Obj)} {z : ZT} {i : Nat} {e : Expr} {pos : Pos} {f : Str} (ha : z.a = a) (hc : cls = Value.ref (C z.c)) (hd : d = some z.dd) (T : XfC X.K (C z.c)) (hno : PySem.W.findIn X.K (.ref (C z.c)) f = some none)
    (hz : Zc cls d oe) (hf : ∃ vs, oe.data = .fields vs) (he : PE (X.suite a ((a, oe) :: pn)) e (tVar i)) (hb : attributeBase e f X.env (eval e X.env) = eval e X.env := by rfl) :
    PE (X.suite a ((a, oe) :: pn)) (.Attribute e f pos) (T_ (X.suite a ((a, oe) :: pn)) (C.hold z) W (xfF i f z.ns z.ds)) :=
  (pe_xf (C := C z.c) T hno hz hf he hb).imp fun σ H Q h => i_xf ha hc hd h
/-- a suite whose reading depends on what is held -/
theorem pss_ex {X : Cx} {ss : List Stmt} {α : Type} {p : α → Prop} {t : α → TS} (h : ∀ a, p a → PSs X ss (t a)) : PSs X ss (fun D σ H => ∃ a, p a ∧ t a D σ H) := ⟨fun pins s σ H D I ⟨a, pa, q⟩ => (h a pa).run pins s σ H D I q⟩
/-! the package's classes: one field and a text; a reason and a place; a reason alone -/
def gF1 (txt : Str) : List D → Option (List D) := fun ds => match ds with
  | [d] => some [d, .str txt]
  | _ => none
def gB1 : List D → Option (List D) := fun ds => match ds with
  | [.str y] => some [.non, .str y]
  | _ => none
def gB2 : List D → Option (List D) := fun ds => match ds with
  | [.str y, d] => some [d, .str y]
  | _ => none
def okvW : List V → Prop := fun us => ∃ y : Str, us = [.str y]
def gW : List D → Option (List D) := fun ds => match ds with
  | [.str y] => some [.str y]
  | _ => none
section
variable {K : PySem.W.Frag} {C : Nat → Addr} {M : Addr → Prop} {H : Hp}
theorem repL1 {vs : List V} {d : D} (h : RepL K C M H vs [d] []) : ∃ v, vs = [v] ∧ Rep K C M H v d [] := by
  generalize e : ([] : List Addr) = E at h
  cases h with
  | cons a t =>
    cases t
    obtain ⟨e1, -⟩ := List.append_eq_nil_iff.mp e.symm
    subst e1
    exact ⟨_, rfl, a⟩
end
theorem xg_W : XG gW okvW id [] ["why"] := by
  intro K C M H vs ds xs h hg
  unfold gW at hg
  split at hg
  · cases hg
    obtain ⟨v, rfl, a⟩ := repL1 h
    cases a
    exact ⟨⟨_, rfl⟩, .cons (F := []) (G := []) (.str _) .nil, by simp, rfl⟩
  · cases hg
/-- TollError's own, on the way to a class of the package -/
def spTE (K : PySem.W.Frag) : Sp := fun vs H Q _ => ∃ (a D : Addr) (y : Str), vs = [.ref a, .str y] ∧ OexC K D ∧ PySem.W.findIn K (.ref D) "why" = some none ∧ H a = some (exo a D none) ∧
  ∀ d, H d = none → d ≠ a → Q .non (upd (upd H d (exd d [("why", .str y)])) a (exo a D (some d)))
end J
namespace J
open PySem L2 PySem.Spec PyProof.Rows
/-! what K holds of the exception classes, put together -/
theorem oex_mk {K : PySem.W.Frag} {C : Addr} {nm q : Str} {N : Addr} {bs bm : List Value} {sn sub ab col dd k0 k1 k2 k3 k5 : _} (hC : K.lookup C = some (excClassObj nm q C N bs bm true sn sub ab col dd k0 k1 k2 k3 k5 "ValueError.__new__")) (hb : PySem.HandSPX.refsVE bm = true)
    (sa : PySem.W.findIn K (.ref C) "__setattr__" = some (some (.builtin "object.__setattr__"))) (ex : PySem.W.subIn K (.ref C) (.type "BaseException") = some true) (ty : PySem.W.typeIn K (.ref C) = some (.type "type")) (kC : PySem.W.keepIn K (.ref C) = true) : OexC K C :=
  ⟨⟨nm, q, N, bs, bm, sn, sub, ab, col, dd, k0, k1, k2, k3, k5, hC, hb⟩, sa, ex, ty, kC⟩
section
variable {K : PySem.W.Frag} {x qual : Str} {st : Stmt} {f T : Addr} {oc : Value} {od an : Option Addr} {osl : Array (Option Value)} {kV doc pm cdv ct ocT : Value} {odT : Option Addr} {n : Nat} {slT : Array (Option Value)}
theorem fundS_mk {y : Str} {tk : _} (l : K.lookup f = some ⟨oc, od, .func (PySem.W.fnOf x qual (defArgs st) (defBody st) (defScope st) (.ref T) kV doc pm an cdv ct), osl⟩) (c : PySem.W.codeIn K cdv qual = true) (k : PySem.W.keepIn K (.ref f) = true) (lT : K.lookup T = some ⟨ocT, odT, .seq #[.str y tk] n, slT⟩) :
    FunD K x qual (defArgs st) (defBody st) (defScope st) [.str y] [] f (PySem.W.fnOf x qual (defArgs st) (defBody st) (defScope st) (.ref T) kV doc pm an cdv ct) :=
  ⟨⟨oc, od, .ref T, kV, doc, pm, an, cdv, ct, osl, rfl, l, c, .inr ⟨by simp, T, _, [.str y tk], n, rfl, lT, rfl, .cons ⟨tk, rfl⟩ .nil⟩, .inl rfl⟩, k⟩
end
theorem exm_mk {K : PySem.W.Frag} {S D : Addr} {b : Bool} (h1 : PySem.W.subIn K (.ref S) (.type "BaseException") = some true) (h2 : PySem.W.isClsIn K S = true) (h3 : PySem.W.typeIn K (.ref S) = some (.type "type")) (h4 : PySem.W.subIn K (.ref D) (.ref S) = some b) : PySem.W.exmOne K (.ref D) (.ref S) = some b := by
  have e1 : (PySem.W.subIn K (.ref S) (.type "BaseException") == some true) = true := by rw [h1] <;> rfl
  have e2 : ((PySem.W.clsIn K S).isSome && PySem.W.typeIn K (.ref S) == some (.type "type")) = true := by
    have h2' : (PySem.W.clsIn K S).isSome = true := h2
    rw [h2', h3] <;> rfl
  show (if (PySem.W.subIn K (.ref S) (.type "BaseException") == some true) = true then (if ((PySem.W.clsIn K S).isSome && PySem.W.typeIn K (.ref S) == some (.type "type")) = true then PySem.W.subIn K (.ref D) (.ref S) else none) else none) = some b
  rw [if_pos e1, if_pos e2]
  exact h4
theorem all_nil {α : Type} {P : α → Prop} : ∀ q ∈ ([] : List α), P q := fun _ h => nomatch h
theorem all_cons {P : Nat → Bool → Prop} {k : Nat} {b : Bool} {l : List (Nat × Bool)} (h : P k b) (t : ∀ q ∈ l, P q.1 q.2) : ∀ q ∈ (k, b) :: l, P q.1 q.2 := fun q hq => by
  rcases List.mem_cons.mp hq with rfl | hq
  · exact h
  · exact t q hq
theorem look_all {P : Nat → Bool → Prop} : ∀ {l : List (Nat × Bool)}, (∀ q ∈ l, P q.1 q.2) → ∀ (k : Nat) (b : Bool), l.lookup k = some b → P k b
  | [], _, _, _, h => by cases h
  | (k0, b0) :: l, t, k, b, h => by
    simp only [List.lookup] at h
    split at h
    · rename_i e
      have := eq_of_beq e
      subst this
      cases h
      exact t _ (List.mem_cons_self ..)
    · exact look_all (fun q hq => t q (List.mem_cons_of_mem _ hq)) k b h
theorem spTE_W {K : PySem.W.Frag} {D : Addr} (ox : OexC K D) (nw : PySem.W.findIn K (.ref D) "why" = some none) : ∀ (vs : List V) (H : Hp) (Q : VK) (E : XK), spX D okvW ["why"] id vs H Q E → spTE K vs H Q E := fun _ _ _ _ ⟨a, us, e, ⟨y, e2⟩, ha, q⟩ => by
  subst e e2
  exact ⟨a, D, y, rfl, ox, nw, ha, fun d nd ne => q d nd ne⟩
end J
/-! x == [], x != [] of a list that is written later -/
namespace J
open PySem L2 PySem.Spec PyProof.Rows
def nilF (neg : Bool) (i : Nat) : J.Env → R D := fun env => match env[i]? with
  | some (some (.lst _ xs)) => .ok (.bl (neg != xs.isEmpty)) env
  | _ => .no
end J
/-! W: how a run ends, said with what is still to be done (symbolic steps by simp). -/
namespace J
open PySem L2 PySem.Spec PyProof.Rows
abbrev XQ := Nat → List Str → List D → J.Env → Prop
def noX : XQ := fun _ _ _ _ => False
def Wr {α : Type} (r : R α) (Q : α → J.Env → Prop) (X : XQ) : Prop := match r with
  | .ok a e => Q a e
  | .ex c ns vs e => X c ns vs e
  | .no => False
def Wo (o : Out) (Q : Out → Prop) : Prop := match o with
  | .nx e => Q (.nx e)
  | .rt r e => Q (.rt r e)
  | .bk e => Q (.bk e)
  | .ct e => Q (.ct e)
  | .ex c ns vs e => Q (.ex c ns vs e)
  | .no => False
def Wg (o : Option J.Env) (P : J.Env → Prop) : Prop := match o with
  | some e => P e
  | none => False
/-- a value of a word that does not write -/
def Wd (o : Option D) (P : D → Prop) : Prop := match o with
  | some d => P d
  | none => False
section
variable {α β : Type} {f f2 f3 : J.Env → R D} {g : D → J.Env → Option J.Env} {env e outs : J.Env} {Q : Out → Prop} {X : XQ} {P : J.Env → Prop} {QD : D → J.Env → Prop} {QL : List D → J.Env → Prop} {QB : Bool → J.Env → Prop} {QA : α → J.Env → Prop} {a : α} {d x r : D} {ds xs ys : List D} {c n i : Nat} {ns : List Str} {af ag : J.Env → R (List D)} {cb cb2 : J.Env → R Bool} {s s2 : J.Env → Out} {fb fb2 : J.Env → Option D} {o : Out}
theorem Wr.ok {r : R α} (h : Wr r QA noX) : ∃ a e, r = .ok a e ∧ QA a e := by
  cases r with
  | ok a e => exact ⟨a, e, rfl, h⟩
  | ex c ns vs e => exact False.elim h
  | no => exact False.elim h
theorem Wr.of {r : R α} (h : r = .ok a e) (h2 : QA a e) : Wr r QA X := by subst h; exact h2
theorem Wr.mono {r : R α} {Q2 : α → J.Env → Prop} {X2 : XQ} (h : Wr r QA X) (hq : ∀ a e, QA a e → Q2 a e) (hx : ∀ c ns vs e, X c ns vs e → X2 c ns vs e) : Wr r Q2 X2 := by
  cases r with
  | ok a e => exact hq a e h
  | ex c ns vs e => exact hx c ns vs e h
  | no => exact h
theorem Wo.mono {Q2 : Out → Prop} (h : Wo o Q) (hq : ∀ o, Q o → Q2 o) : Wo o Q2 := by
  cases o <;> first | exact hq _ h | exact h
theorem Wg.mono {o : Option J.Env} {P2 : J.Env → Prop} (h : Wg o P) (hq : ∀ e, P e → P2 e) : Wg o P2 := by
  cases o with
  | none => exact h
  | some e => exact hq e h
theorem W_ok : Wr (.ok a e) QA X ↔ QA a e := Iff.rfl
theorem W_ex {vs : List D} : Wr (.ex c ns vs e : R α) QA X ↔ X c ns vs e := Iff.rfl
theorem W_some : Wg (some e) P ↔ P e := Iff.rfl
theorem W_someD {PD : D → Prop} : Wd (some d) PD ↔ PD d := Iff.rfl
/-! what is still to be done -/
def exQ (Q : Out → Prop) : XQ := fun c ns vs e => Q (.ex c ns vs e)
def nxQ (Q : Out → Prop) : J.Env → Prop := fun e => Q (.nx e)
def seqQ (g : J.Env → Out) (Q : Out → Prop) : Out → Prop := fun o => match o with
  | .nx e => Wo (g e) Q
  | o => Q o
def retQ (Q : Out → Prop) : D → J.Env → Prop := fun d e => Q (.rt d e)
def dropQ (Q : Out → Prop) : D → J.Env → Prop := fun _ e => Q (.nx e)
def ifQ (f g : J.Env → Out) (Q : Out → Prop) : Bool → J.Env → Prop := fun b e => match b with
  | true => Wo (f e) Q
  | false => Wo (g e) Q
def ifeQ (f g : J.Env → R D) (Q : D → J.Env → Prop) (X : XQ) : Bool → J.Env → Prop := fun b e => match b with
  | true => Wr (f e) Q X
  | false => Wr (g e) Q X
def asgQ (g : D → J.Env → Option J.Env) (Q : Out → Prop) : D → J.Env → Prop := fun d e => Wg (g d e) (nxQ Q)
def op1Q (g : D → Option D) (Q : D → J.Env → Prop) : D → J.Env → Prop := fun d e => Wd (g d) fun x => Q x e
def op2Q (g : D → D → Option D) (f2 : J.Env → R D) (Q : D → J.Env → Prop) (X : XQ) : D → J.Env → Prop := fun d e => Wr (f2 e) (fun d2 e2 => Wd (g d d2) fun x => Q x e2) X
def op2R (g : D → D → Option D) (d : D) (Q : D → J.Env → Prop) : D → J.Env → Prop := fun d2 e2 => Wd (g d d2) fun x => Q x e2
def atQ (Q : D → J.Env → Prop) (e : J.Env) : D → Prop := fun x => Q x e
def avQ (g : J.Env → R (List D)) (Q : List D → J.Env → Prop) (X : XQ) : D → J.Env → Prop := fun d e => Wr (g e) (fun ds e2 => Q (d :: ds) e2) X
def avR (d : D) (Q : List D → J.Env → Prop) : List D → J.Env → Prop := fun ds e2 => Q (d :: ds) e2
def appQ (g : J.Env → R (List D)) (Q : List D → J.Env → Prop) (X : XQ) : List D → J.Env → Prop := fun ds e => Wr (g e) (fun es e2 => Q (ds ++ es) e2) X
def appR (ds : List D) (Q : List D → J.Env → Prop) : List D → J.Env → Prop := fun es e2 => Q (ds ++ es) e2
def calQ (run : List D → R D) (lk : List (Nat × Nat)) (Q : D → J.Env → Prop) (X : XQ) : List D → J.Env → Prop := fun ds e => Wr (run ds) (fun r outs => Q r (relink lk outs e)) (fun c ns vs outs => X c ns vs (relink lk outs e))
def bkQ (lk : List (Nat × Nat)) (e : J.Env) (Q : D → J.Env → Prop) : D → J.Env → Prop := fun r outs => Q r (relink lk outs e)
def bkX (lk : List (Nat × Nat)) (e : J.Env) (X : XQ) : XQ := fun c ns vs outs => X c ns vs (relink lk outs e)
def metQ (c : Nat) (m : Str) (run : List D → R D) (g : J.Env → R (List D)) (lk : List (Nat × Nat)) (Q : D → J.Env → Prop) (X : XQ) : D → J.Env → Prop := fun d e => recv c m d = true ∧ Wr (g e) (avR d (calQ run (lkV lk) Q X)) X
def makQ (c : Nat) (run : List D → R D) (lk : List (Nat × Nat)) (Q : D → J.Env → Prop) (X : XQ) : List D → J.Env → Prop := fun ds e => Wr (run (.ins true c [] [] :: ds)) (fun r outs => match r, outs with
  | .non, some d :: outs => Q d (relink lk outs e)
  | _, _ => False) (fun c ns vs outs => match outs with | _ :: outs => X c ns vs (relink lk outs e) | [] => False)
def makR (lk : List (Nat × Nat)) (e : J.Env) (Q : D → J.Env → Prop) : D → J.Env → Prop := fun r outs => match r, outs with
  | .non, some d :: outs => Q d (relink lk outs e)
  | _, _ => False
def makX (lk : List (Nat × Nat)) (e : J.Env) (X : XQ) : XQ := fun c ns vs outs => match outs with | _ :: outs => X c ns vs (relink lk outs e) | [] => False
def lstQ (Q : D → J.Env → Prop) : List D → J.Env → Prop := fun ds e => ds.length ≤ 1000000 ∧ Q (.lst true ds) e
def tupQ (Q : D → J.Env → Prop) : List D → J.Env → Prop := fun ds e => ds.length ≤ 1000000 ∧ Q (.tup ds) e
def frzQ (Q : D → J.Env → Prop) : D → J.Env → Prop := fun d e => Q d.fz e
def asbQ (Q : Bool → J.Env → Prop) : D → J.Env → Prop := fun d e => match d with
  | .bl b => Q b e
  | _ => False
def ofbQ (Q : D → J.Env → Prop) : Bool → J.Env → Prop := fun b e => Q (.bl b) e
def notQ (Q : Bool → J.Env → Prop) : Bool → J.Env → Prop := fun b e => Q (!b) e
def andQ (g : J.Env → R Bool) (Q : Bool → J.Env → Prop) (X : XQ) : Bool → J.Env → Prop := fun b e => match b with
  | true => Wr (g e) Q X
  | false => Q false e
def orQ (g : J.Env → R Bool) (Q : Bool → J.Env → Prop) (X : XQ) : Bool → J.Env → Prop := fun b e => match b with
  | false => Wr (g e) Q X
  | true => Q true e
def truQ (Q : Bool → J.Env → Prop) : D → J.Env → Prop := fun d e => match truD d with
  | some b => Q b e
  | none => False
def chQ (p p' : Int → Int → Bool) (f2 f3 : J.Env → R D) (Q : D → J.Env → Prop) (X : XQ) : D → J.Env → Prop := fun d e => Wr (f2 e) (fun y e2 => match d, y with
  | .int i, .int j => if p i j = true then Wr (f3 e2) (fun z e3 => match z with | .int k => Q (.bl (p' j k)) e3 | _ => False) X else Q (.bl false) e2
  | _, _ => False) X
def chR (p p' : Int → Int → Bool) (d : D) (f3 : J.Env → R D) (Q : D → J.Env → Prop) (X : XQ) : D → J.Env → Prop := fun y e2 => match d, y with
  | .int i, .int j => if p i j = true then Wr (f3 e2) (fun z e3 => match z with | .int k => Q (.bl (p' j k)) e3 | _ => False) X else Q (.bl false) e2
  | _, _ => False
def chS (p' : Int → Int → Bool) (j : Int) (Q : D → J.Env → Prop) : D → J.Env → Prop := fun z e3 => match z with | .int k => Q (.bl (p' j k)) e3 | _ => False
def forQ (g : D → J.Env → Option J.Env) (b : J.Env → Out) (Q : Out → Prop) : List D → J.Env → Prop := fun ds e => Wo (forL g b ds e) Q
def cmpQ (g : D → J.Env → Option J.Env) (c : J.Env → R Bool) (f : J.Env → R D) (vs : List Nat) (Q : D → J.Env → Prop) (X : XQ) : List D → J.Env → Prop := fun ds e => ds.length ≤ 1000000 ∧ Wr (compL g c f vs [] ds (wipeE e vs)) Q X
/-- what a comprehension of more fors has made -/
def Wk (o : Option (List D × J.Env)) (Q : List D → J.Env → Prop) : Prop := match o with
  | some (acc, e) => Q acc e
  | none => False
def mkQ (Q : D → J.Env → Prop) : List D → J.Env → Prop := fun acc e => Q (.lst true acc) e
def cmnQ (g : D → J.Env → Option J.Env) (c : J.Env → R Bool) (kw : KW) (vs : List Nat) (Q : D → J.Env → Prop) : List D → J.Env → Prop := fun ds e => Wk (loopW g c kw vs ds [] (wipeE e vs)) (mkQ Q)
def knQ (g : D → J.Env → Option J.Env) (c : J.Env → R Bool) (kw : KW) (vs : List Nat) (acc : List D) (Q : List D → J.Env → Prop) : List D → J.Env → Prop := fun ds e => Wk (loopW g c kw vs ds acc (wipeE e vs)) Q
def klQ (acc : List D) (Q : List D → J.Env → Prop) : D → J.Env → Prop := fun x e => acc.length < 1000000 ∧ Q (acc ++ [x]) e
def fldQ (c i : Nat) (f : Str) (Q : Out → Prop) : D → J.Env → Prop := fun d e => match e[i]? with
  | some (some (.ins true c' ns ds)) => (c' = c ∧ ns.length < 900 ∧ d.noOwn = true) ∧ Q (.nx (e.set i (some (.ins true c (putN f ns) (putDs f d ns ds)))))
  | _ => False
def augQ (i : Nat) (op : Int → Int → Int) (a : Int) (Q : Out → Prop) : D → J.Env → Prop := fun d e => match d with
  | .int b => Q (.nx (e.set i (some (.int (op a b)))))
  | _ => False
def apdQ (i : Nat) (Q : Out → Prop) : D → J.Env → Prop := fun d e => match e[i]? with
  | some (some (.lst true xs)) => xs.length < 1000000 ∧ Q (.nx (e.set i (some (.lst true (xs ++ [d])))))
  | _ => False
def extQ (i : Nat) (Q : Out → Prop) : D → J.Env → Prop := fun d e => match d, e[i]? with
  | .lst _ zs, some (some (.lst true xs)) => (D.noOwnL zs && decide (xs.length + zs.length ≤ 1000000)) = true ∧ Q (.nx (e.set i (some (.lst true (xs ++ zs)))))
  | _, _ => False
def parQ (i j : Nat) (Q : Out → Prop) : List D → J.Env → Prop := fun ds e => match ds with
  | [a, b] => (i < e.length ∧ j < e.length) ∧ Q (.nx ((e.set i (some a)).set j (some b)))
  | _ => False
def conQ (k : List D → J.Env → Option J.Env) (ds : List D) (P : J.Env → Prop) : J.Env → Prop := fun e => Wg (k ds e) P
def liQ (Q : List D → J.Env → Prop) : D → J.Env → Prop := fun d e => match d with
  | .lst _ xs => Q (D.fzL xs) e
  | _ => False
def tiQ (Q : List D → J.Env → Prop) : D → J.Env → Prop := fun d e => match d with
  | .tup xs => Q (D.fzL xs) e
  | _ => False
def enQ (k : Int) (Q : List D → J.Env → Prop) : List D → J.Env → Prop := fun ds e => match ds with
  | [.lst _ xs] => Q (enumD k (D.fzL xs)) e
  | _ => False
def r1Q (Q : List D → J.Env → Prop) : List D → J.Env → Prop := fun ds e => match ds with
  | [.int j] => (-(2 ^ 62) ≤ j ∧ j < 2 ^ 62) ∧ Q (rngD 0 j.toNat) e
  | _ => False
def r2Q (Q : List D → J.Env → Prop) : List D → J.Env → Prop := fun ds e => match ds with
  | [.int i, .int j] => (-(2 ^ 62) ≤ i ∧ i < 2 ^ 62 ∧ -(2 ^ 62) ≤ j ∧ j < 2 ^ 62) ∧ Q (rngD i (j - i).toNat) e
  | _ => False
def ziQ (Q : List D → J.Env → Prop) : List D → J.Env → Prop := fun ds e => match ds with
  | [.lst _ xs, .lst _ ys] => Q (zipD (D.fzL xs) (D.fzL ys)) e
  | _ => False
def asiQ (Q : D → J.Env → Prop) : D → J.Env → Prop := fun d e => match d with
  | .int i => Q (.int i) e
  | _ => False
def sl1Q (lo hi : J.Env → R D) (Q : D → J.Env → Prop) (X : XQ) : D → J.Env → Prop := fun d e => Wr (lo e) (fun l e2 => Wr (hi e2) (fun u e3 => Wd (slD d l u) fun x => Q x e3) X) X
def sl2Q (d : D) (hi : J.Env → R D) (Q : D → J.Env → Prop) (X : XQ) : D → J.Env → Prop := fun l e2 => Wr (hi e2) (fun u e3 => Wd (slD d l u) fun x => Q x e3) X
def sl3Q (d l : D) (Q : D → J.Env → Prop) : D → J.Env → Prop := fun u e3 => Wd (slD d l u) fun x => Q x e3
def lrQ (Q : D → J.Env → Prop) : D → J.Env → Prop := fun d e => match d with
  | .int n => (n ≤ 10000 ∧ 0 ≤ n) ∧ Q (.lst true (rgD 0 n)) e
  | _ => False
def defQ (n : Nat) (kp : List Nat) (Q : D → J.Env → Prop) (X : XQ) : Out → Prop := fun o => match o with
  | .nx e => Q .non (outsOf n kp e)
  | .rt r e => Q r (outsOf n kp e)
  | .ex c ns vs e => X c ns vs (outsOf n kp e)
  | _ => False
def loopQ (P : J.Env → Prop) (Q : Out → Prop) : Out → Prop := fun o => match o with
  | .nx e => P e
  | .ct e => P e
  | .bk e => Q (.nx e)
  | o => Q o
def bodQ (b : J.Env → Out) (P : J.Env → Prop) (Q : Out → Prop) : J.Env → Prop := fun e => Wo (b e) (loopQ P Q)
def popQ (i : Nat) (env : J.Env) (Q : D → J.Env → Prop) : Option (Option D) → Prop := fun o => match o with
  | some (some (.lst true xs)) => (match xs[xs.length - 1]? with
    | some x => Q x (env.set i (some (.lst true (xs.eraseIdx (xs.length - 1)))))
    | none => False)
  | _ => False
def rdQ (i : Nat) (env : J.Env) (Q : D → J.Env → Prop) : Option (Option D) → Prop := fun o => match o with
  | some (some d) => Q d.fz (env.set i (some d.fz))
  | _ => False
def rmQ (i : Nat) (env : J.Env) (Q : D → J.Env → Prop) : Option (Option D) → Prop := fun o => match o with
  | some (some d) => Q d (env.set i none)
  | _ => False
def rrQ (i : Nat) (env : J.Env) (g : J.Env → R (List D)) (Q : List D → J.Env → Prop) (X : XQ) : Option (Option D) → Prop := fun o => match o with
  | some (some d) => Wr (g (env.set i none)) (avR d Q) X
  | _ => False
def noQ (Q : D → J.Env → Prop) (env : J.Env) : D → Prop := fun d => d.noOwn = true ∧ Q d env
/-! the steps -/
theorem wz_seq : Wo (seqO s s2 env) Q ↔ Wo (s env) (seqQ s2 Q) := by unfold seqO Wo seqQ; cases s env <;> exact Iff.rfl
theorem wz_seqn : seqQ s Q (.nx e) ↔ Wo (s e) Q := Iff.rfl
theorem wz_seqr : seqQ s Q (.rt r e) ↔ Q (.rt r e) := Iff.rfl
theorem wz_seqb : seqQ s Q (.bk e) ↔ Q (.bk e) := Iff.rfl
theorem wz_seqc : seqQ s Q (.ct e) ↔ Q (.ct e) := Iff.rfl
theorem wz_seqx {vs : List D} : seqQ s Q (.ex c ns vs e) ↔ Q (.ex c ns vs e) := Iff.rfl
theorem wz_exQ {vs : List D} : exQ Q c ns vs e ↔ Q (.ex c ns vs e) := Iff.rfl
theorem wz_nxQ : nxQ Q e ↔ Q (.nx e) := Iff.rfl
theorem wz_nil : Wo (nilO env) Q ↔ Q (.nx env) := Iff.rfl
theorem wz_bk : Wo (bkO env) Q ↔ Q (.bk env) := Iff.rfl
theorem wz_ct : Wo (ctO env) Q ↔ Q (.ct env) := Iff.rfl
theorem wz_retN : Wo (retN env) Q ↔ Q (.rt .non env) := Iff.rfl
theorem wz_ret : Wo (retO f env) Q ↔ Wr (f env) (retQ Q) (exQ Q) := by unfold retO Wo Wr; cases f env <;> exact Iff.rfl
def nlP (neg : Bool) (env : J.Env) (Q : D → J.Env → Prop) : Option (Option D) → Prop := fun o => match o with
  | some (some (.lst _ xs)) => Q (.bl (neg != xs.isEmpty)) env
  | _ => False
theorem wz_nilF {neg : Bool} : Wr (nilF neg i env) QD X ↔ nlP neg env QD env[i]? := by
  unfold nilF nlP
  cases env[i]? with
  | none => exact Iff.rfl
  | some y => cases y with
    | none => exact Iff.rfl
    | some y => cases y <;> exact Iff.rfl
theorem wz_nlP {neg ow : Bool} : nlP neg env QD (some (some (.lst ow xs))) ↔ QD (.bl (neg != xs.isEmpty)) env := Iff.rfl
theorem wz_retQ : retQ Q d e ↔ Q (.rt d e) := Iff.rfl
theorem wz_drop : Wo (dropO f env) Q ↔ Wr (f env) (dropQ Q) (exQ Q) := by unfold dropO Wo Wr; cases f env <;> exact Iff.rfl
theorem wz_dropQ : dropQ Q d e ↔ Q (.nx e) := Iff.rfl
theorem wz_if : Wo (ifO cb s s2 env) Q ↔ Wr (cb env) (ifQ s s2 Q) (exQ Q) := by
  unfold ifO Wo Wr
  cases cb env with
  | ok b e => cases b <;> exact Iff.rfl
  | ex => exact Iff.rfl
  | no => exact Iff.rfl
theorem wz_ift : ifQ s s2 Q true e ↔ Wo (s e) Q := Iff.rfl
theorem wz_iff : ifQ s s2 Q false e ↔ Wo (s2 e) Q := Iff.rfl
theorem wz_ife : Wr (ifE cb f f2 env) QD X ↔ Wr (cb env) (ifeQ f f2 QD X) X := by
  unfold ifE Wr
  cases cb env with
  | ok b e => cases b <;> exact Iff.rfl
  | ex => exact Iff.rfl
  | no => exact Iff.rfl
theorem wz_ifet : ifeQ f f2 QD X true e ↔ Wr (f e) QD X := Iff.rfl
theorem wz_ifef : ifeQ f f2 QD X false e ↔ Wr (f2 e) QD X := Iff.rfl
theorem wz_asg : Wo (asgO f g env) Q ↔ Wr (f env) (asgQ g Q) (exQ Q) := by
  unfold asgO Wo Wr asgQ Wg nxQ
  cases f env with
  | ok d e => dsimp only; cases g d e <;> exact Iff.rfl
  | ex => exact Iff.rfl
  | no => exact Iff.rfl
theorem wz_asgQ : asgQ g Q d e ↔ Wg (g d e) (nxQ Q) := Iff.rfl
theorem wz_set (h : i < env.length) : Wg (setG i d env) P ↔ P (env.set i (some d)) := by unfold setG Wg; rw [if_pos h]
theorem wz_tup {g : List D → J.Env → Option J.Env} (h : ds.length = n) : Wg (tupG n g (.tup ds) env) P ↔ Wg (g ds env) P := by unfold tupG; simp only [h, if_true]
theorem wz_lsg {g : List D → J.Env → Option J.Env} (h : ds.length = n) : Wg (lstG n g (.lst false ds) env) P ↔ Wg (g ds env) P := by unfold lstG; simp only [h, if_true]
theorem wz_con {k : List D → J.Env → Option J.Env} : Wg (consG g k (d :: ds) env) P ↔ Wg (g d env) (conQ k ds P) := by
  unfold consG conQ Wg
  dsimp only
  cases g d env <;> exact Iff.rfl
theorem wz_conQ {k : List D → J.Env → Option J.Env} : conQ k ds P e ↔ Wg (k ds e) P := Iff.rfl
theorem wz_nilG : Wg (nilG [] env) P ↔ P env := Iff.rfl
theorem wz_rdF : Wr (rdF i env) QD X ↔ rdQ i env QD env[i]? := by
  unfold rdF rdQ Wr
  cases env[i]? with
  | none => exact Iff.rfl
  | some z => cases z <;> exact Iff.rfl
theorem wz_rdQ : rdQ i env QD (some (some d)) ↔ QD d.fz (env.set i (some d.fz)) := Iff.rfl
theorem wz_rdM : Wr (rdM i env) QD X ↔ rmQ i env QD env[i]? := by
  unfold rdM rmQ Wr
  cases env[i]? with
  | none => exact Iff.rfl
  | some z => cases z <;> exact Iff.rfl
theorem wz_rmQ : rmQ i env QD (some (some d)) ↔ QD d (env.set i none) := Iff.rfl
theorem wz_okC : Wr (okC d env) QD X ↔ QD d env := Iff.rfl
theorem wz_toT : Wr (toT fb env) QD X ↔ Wd (fb env) (noQ QD env) := by
  unfold toT Wr Wd noQ
  cases fb env with
  | none => exact Iff.rfl
  | some d =>
    dsimp only
    by_cases h : d.noOwn = true
    · rw [if_pos h]; exact ⟨fun z => ⟨h, z⟩, fun z => z.2⟩
    · rw [if_neg h]; exact ⟨fun z => False.elim z, fun z => absurd z.1 h⟩
theorem wz_noQ : noQ QD env d ↔ (d.noOwn = true ∧ QD d env) := Iff.rfl
theorem wz_rdB : rdB i env = (env[i]?).join := id rfl
def bo2 (g : D → D → Option D) : Option D → Option D → Option D := fun a b => match a, b with
  | some d, some e => g d e
  | _, _ => none
def bo1 (g : D → Option D) : Option D → Option D := fun a => match a with
  | some d => g d
  | none => none
theorem wz_bop2 {g : D → D → Option D} : bop2 g fb fb2 env = bo2 g (fb env) (fb2 env) := id rfl
theorem wz_bop1 {g : D → Option D} : bop1 g fb env = bo1 g (fb env) := id rfl
theorem wz_bo2 {g : D → D → Option D} : bo2 g (some d) (some x) = g d x := id rfl
theorem wz_bo1 {g : D → Option D} : bo1 g (some d) = g d := id rfl
theorem wz_l1 {g : D → Option D} : Wr (lift1 g f env) QD X ↔ Wr (f env) (op1Q g QD) X := by
  unfold lift1 R.bind Wr op1Q Wd
  cases f env with
  | ok d e => dsimp only; cases g d <;> exact Iff.rfl
  | ex => exact Iff.rfl
  | no => exact Iff.rfl
theorem wz_op1 {g : D → Option D} : op1Q g QD d e ↔ Wd (g d) (atQ QD e) := Iff.rfl
theorem wz_at : atQ QD e d ↔ QD d e := Iff.rfl
theorem wz_l2 {g : D → D → Option D} : Wr (lift2 g f f2 env) QD X ↔ Wr (f env) (op2Q g f2 QD X) X := by
  unfold lift2 R.bind Wr op2Q Wd Wr
  cases f env with
  | ok d e =>
    dsimp only
    cases f2 e with
    | ok d2 e2 => dsimp only; cases g d d2 <;> exact Iff.rfl
    | ex => exact Iff.rfl
    | no => exact Iff.rfl
  | ex => exact Iff.rfl
  | no => exact Iff.rfl
theorem wz_op2 {g : D → D → Option D} : op2Q g f2 QD X d e ↔ Wr (f2 e) (op2R g d QD) X := Iff.rfl
theorem wz_op2R {g : D → D → Option D} : op2R g d QD x e ↔ Wd (g d x) (atQ QD e) := Iff.rfl
theorem wz_a0 : Wr (args0 env) QL X ↔ QL [] env := Iff.rfl
theorem wz_av : Wr (argV f af env) QL X ↔ Wr (f env) (avQ af QL X) X := by
  unfold argV R.bind Wr avQ Wr
  cases f env with
  | ok d e => dsimp only; cases af e <;> exact Iff.rfl
  | ex => exact Iff.rfl
  | no => exact Iff.rfl
theorem wz_avQ : avQ af QL X d e ↔ Wr (af e) (avR d QL) X := Iff.rfl
theorem wz_avR : avR d QL ds e ↔ QL (d :: ds) e := Iff.rfl
theorem wz_ar : Wr (argR i af env) QL X ↔ rrQ i env af QL X env[i]? := by
  unfold argR R.bind Wr rrQ Wr avR
  cases env[i]? with
  | none => exact Iff.rfl
  | some z => cases z with
    | none => exact Iff.rfl
    | some d => dsimp only; cases af (env.set i none) <;> exact Iff.rfl
theorem wz_rrQ : rrQ i env af QL X (some (some d)) ↔ Wr (af (env.set i none)) (avR d QL) X := Iff.rfl
theorem wz_app : Wr (argApp af ag env) QL X ↔ Wr (af env) (appQ ag QL X) X := by
  unfold argApp R.bind Wr appQ Wr
  cases af env with
  | ok d e => dsimp only; cases ag e <;> exact Iff.rfl
  | ex => exact Iff.rfl
  | no => exact Iff.rfl
theorem wz_appQ : appQ ag QL X ds e ↔ Wr (ag e) (appR ds QL) X := Iff.rfl
theorem wz_appR : appR ds QL xs e ↔ QL (ds ++ xs) e := Iff.rfl
theorem wz_cal {run : List D → R D} {lk : List (Nat × Nat)} : Wr (callF run lk af env) QD X ↔ Wr (af env) (calQ run lk QD X) X := by
  unfold callF R.bind Wr calQ Wr
  cases af env with
  | ok ds e => dsimp only; cases run ds <;> exact Iff.rfl
  | ex => exact Iff.rfl
  | no => exact Iff.rfl
theorem wz_calQ {run : List D → R D} {lk : List (Nat × Nat)} : calQ run lk QD X ds e ↔ Wr (run ds) (bkQ lk e QD) (bkX lk e X) := Iff.rfl
theorem wz_bkQ {lk : List (Nat × Nat)} : bkQ lk e QD r outs ↔ QD r (relink lk outs e) := Iff.rfl
theorem wz_bkX {lk : List (Nat × Nat)} {vs : List D} : bkX lk e X c ns vs outs ↔ X c ns vs (relink lk outs e) := Iff.rfl
theorem wz_rl0 : relink [] outs e = e := id rfl
def rlK (lk : List (Nat × Nat)) (outs e : J.Env) (k i : Nat) : Option (Option D) → J.Env := fun o => match o with
  | some (some d) => relink lk (outs.set k none) (e.set i (some d))
  | _ => relink lk outs e
theorem wz_rl {lk : List (Nat × Nat)} {k : Nat} : relink ((k, i) :: lk) outs e = rlK lk outs e k i outs[k]? := by
  unfold relink rlK
  cases outs[k]? with
  | none => rfl
  | some z => cases z <;> rfl
theorem wz_rlK {lk : List (Nat × Nat)} {k : Nat} : rlK lk outs e k i (some (some d)) = relink lk (outs.set k none) (e.set i (some d)) := id rfl
theorem wz_lkV0 : lkV [] = [] := id rfl
theorem wz_lkV {lk : List (Nat × Nat)} {k : Nat} : lkV ((k, i) :: lk) = (k + 1, i) :: lkV lk := id rfl
theorem wz_met {m : Str} {run : List D → R D} {lk : List (Nat × Nat)} : Wr (methF c m run f af lk env) QD X ↔ Wr (f env) (metQ c m run af lk QD X) X := by
  unfold methF
  generalize hz : f env = z
  cases z with
  | ok d e =>
    have e1 : Wr (R.ok d e) (metQ c m run af lk QD X) X ↔ (recv c m d = true ∧ Wr (af e) (avR d (calQ run (lkV lk) QD X)) X) := Iff.rfl
    rw [e1]
    simp only [R.bind]
    by_cases h : recv c m d = true
    · simp only [h, if_true, true_and]
      rw [wz_cal]
      cases af e <;> exact Iff.rfl
    · simp only [h, if_false]
      exact ⟨fun z => False.elim z, fun z => absurd z.1 (by simp)⟩
  | ex => exact Iff.rfl
  | no => exact Iff.rfl
theorem wz_metQ {m : Str} {run : List D → R D} {lk : List (Nat × Nat)} : metQ c m run af lk QD X d e ↔ (recv c m d = true ∧ Wr (af e) (avR d (calQ run (lkV lk) QD X)) X) := Iff.rfl
theorem wz_mak {run : List D → R D} {lk : List (Nat × Nat)} : Wr (makeF c run lk af env) QD X ↔ Wr (af env) (makQ c run lk QD X) X := by
  unfold makeF R.bind Wr makQ Wr
  cases af env with
  | ok ds e =>
    dsimp only
    cases run (D.ins true c [] [] :: ds) with
    | ok r outs =>
      cases outs with
      | nil => cases r <;> exact Iff.rfl
      | cons x xs => cases x <;> cases r <;> exact Iff.rfl
    | ex c ns vs outs => cases outs <;> exact Iff.rfl
    | no => exact Iff.rfl
  | ex => exact Iff.rfl
  | no => exact Iff.rfl
theorem wz_makQ {run : List D → R D} {lk : List (Nat × Nat)} : makQ c run lk QD X ds e ↔ Wr (run (.ins true c [] [] :: ds)) (makR lk e QD) (makX lk e X) := Iff.rfl
theorem wz_makR {lk : List (Nat × Nat)} : makR lk e QD .non (some d :: outs) ↔ QD d (relink lk outs e) := Iff.rfl
theorem wz_makX {lk : List (Nat × Nat)} {vs : List D} {z : Option D} : makX lk e X c ns vs (z :: outs) ↔ X c ns vs (relink lk outs e) := Iff.rfl
theorem wz_lst : Wr (lstF af env) QD X ↔ Wr (af env) (lstQ QD) X := by
  unfold lstF
  generalize af env = z
  cases z with
  | ok ds e =>
    have e1 : Wr (R.ok ds e) (lstQ QD) X ↔ (ds.length ≤ 1000000 ∧ QD (.lst true ds) e) := Iff.rfl
    rw [e1]
    dsimp only
    by_cases h : ds.length ≤ 1000000
    · rw [if_pos h]; exact ⟨fun z => ⟨h, z⟩, fun z => z.2⟩
    · rw [if_neg h]; exact ⟨fun z => False.elim z, fun z => absurd z.1 h⟩
  | ex => exact Iff.rfl
  | no => exact Iff.rfl
theorem wz_lstQ (h : ds.length ≤ 1000000) : lstQ QD ds e ↔ QD (.lst true ds) e := ⟨fun z => z.2, fun z => ⟨h, z⟩⟩
theorem wz_tpl : Wr (tupF af env) QD X ↔ Wr (af env) (tupQ QD) X := by
  unfold tupF
  generalize af env = z
  cases z with
  | ok ds e =>
    have e1 : Wr (R.ok ds e) (tupQ QD) X ↔ (ds.length ≤ 1000000 ∧ QD (.tup ds) e) := Iff.rfl
    rw [e1]
    dsimp only
    by_cases h : ds.length ≤ 1000000
    · rw [if_pos h]; exact ⟨fun z => ⟨h, z⟩, fun z => z.2⟩
    · rw [if_neg h]; exact ⟨fun z => False.elim z, fun z => absurd z.1 h⟩
  | ex => exact Iff.rfl
  | no => exact Iff.rfl
theorem wz_tplQ (h : ds.length ≤ 1000000) : tupQ QD ds e ↔ QD (.tup ds) e := ⟨fun z => z.2, fun z => ⟨h, z⟩⟩
theorem wz_frz : Wr (frzF f env) QD X ↔ Wr (f env) (frzQ QD) X := by unfold frzF Wr; cases f env <;> exact Iff.rfl
theorem wz_frzQ : frzQ QD d e ↔ QD d.fz e := Iff.rfl
theorem wz_asb : Wr (asB f env) QB X ↔ Wr (f env) (asbQ QB) X := by
  unfold asB Wr
  cases f env with
  | ok d e => cases d <;> exact Iff.rfl
  | ex => exact Iff.rfl
  | no => exact Iff.rfl
theorem wz_asbQ {b : Bool} : asbQ QB (.bl b) e ↔ QB b e := Iff.rfl
theorem wz_ofb : Wr (ofB cb env) QD X ↔ Wr (cb env) (ofbQ QD) X := by unfold ofB Wr; cases cb env <;> exact Iff.rfl
theorem wz_ofbQ {b : Bool} : ofbQ QD b e ↔ QD (.bl b) e := Iff.rfl
theorem wz_not : Wr (notB cb env) QB X ↔ Wr (cb env) (notQ QB) X := by unfold notB Wr; cases cb env <;> exact Iff.rfl
theorem wz_notQ {b : Bool} : notQ QB b e ↔ QB (!b) e := Iff.rfl
theorem wz_and : Wr (andB cb cb2 env) QB X ↔ Wr (cb env) (andQ cb2 QB X) X := by
  unfold andB Wr
  cases cb env with
  | ok b e => cases b <;> exact Iff.rfl
  | ex => exact Iff.rfl
  | no => exact Iff.rfl
theorem wz_andt : andQ cb QB X true e ↔ Wr (cb e) QB X := Iff.rfl
theorem wz_andf : andQ cb QB X false e ↔ QB false e := Iff.rfl
theorem wz_or : Wr (orB cb cb2 env) QB X ↔ Wr (cb env) (orQ cb2 QB X) X := by
  unfold orB Wr
  cases cb env with
  | ok b e => cases b <;> exact Iff.rfl
  | ex => exact Iff.rfl
  | no => exact Iff.rfl
theorem wz_ort : orQ cb QB X true e ↔ QB true e := Iff.rfl
theorem wz_orf : orQ cb QB X false e ↔ Wr (cb e) QB X := Iff.rfl
theorem wz_yes : Wr (yesB env) QB X ↔ QB true env := Iff.rfl
theorem wz_tru : Wr (truB f env) QB X ↔ Wr (f env) (truQ QB) X := by
  unfold truB Wr truQ
  cases f env with
  | ok d e => dsimp only; cases truD d <;> exact Iff.rfl
  | ex => exact Iff.rfl
  | no => exact Iff.rfl
def trR (Q : Bool → J.Env → Prop) (e : J.Env) : Option Bool → Prop := fun o => match o with
  | some b => Q b e
  | none => False
def tbP (Q : Bool → J.Env → Prop) (env : J.Env) : Option D → Prop := fun o => match o with
  | some d => trR Q env (truD d)
  | none => False
theorem wz_truQ : truQ QB d e ↔ trR QB e (truD d) := Iff.rfl
theorem wz_trR {b : Bool} : trR QB e (some b) ↔ QB b e := Iff.rfl
theorem wz_trub : Wr (truBB fb env) QB X ↔ tbP QB env (fb env) := by
  unfold truBB Wr tbP trR
  cases fb env with
  | none => exact Iff.rfl
  | some d => dsimp only; cases truD d <;> exact Iff.rfl
theorem wz_tbP : tbP QB env (some d) ↔ trR QB env (truD d) := Iff.rfl
theorem wz_ch {p p' : Int → Int → Bool} : Wr (chainF p p' f f2 f3 env) QD X ↔ Wr (f env) (chQ p p' f2 f3 QD X) X := by
  unfold chainF R.bind Wr chQ
  cases f env with
  | ok d e =>
    dsimp only
    unfold Wr
    cases f2 e with
    | ok y e2 =>
      cases d <;> try exact Iff.rfl
      cases y <;> try exact Iff.rfl
      rename_i i j
      dsimp only
      by_cases h : p i j = true
      · rw [if_pos h, if_pos h]
        cases f3 e2 with
        | ok z e3 => cases z <;> exact Iff.rfl
        | ex => exact Iff.rfl
        | no => exact Iff.rfl
      · rw [if_neg h, if_neg h]
    | ex => exact Iff.rfl
    | no => exact Iff.rfl
  | ex => exact Iff.rfl
  | no => exact Iff.rfl
theorem wz_chQ {p p' : Int → Int → Bool} : chQ p p' f2 f3 QD X d e ↔ Wr (f2 e) (chR p p' d f3 QD X) X := Iff.rfl
theorem wz_chR {p p' : Int → Int → Bool} {i j : Int} : chR p p' (.int i) f3 QD X (.int j) e ↔ if p i j = true then Wr (f3 e) (chS p' j QD) X else QD (.bl false) e := Iff.rfl
theorem wz_chS {p' : Int → Int → Bool} {k j : Int} : chS p' j QD (.int k) e ↔ QD (.bl (p' j k)) e := Iff.rfl
theorem wz_for {it : J.Env → R (List D)} : Wo (forO it g s env) Q ↔ Wr (it env) (forQ g s Q) (exQ Q) := by unfold forO Wo Wr; cases it env <;> exact Iff.rfl
theorem wz_forQ : forQ g s Q ds e ↔ Wo (forL g s ds e) Q := Iff.rfl
theorem wz_cmp {it : J.Env → R (List D)} {vs : List Nat} : Wr (compO it g cb f vs env) QD X ↔ Wr (it env) (cmpQ g cb f vs QD X) X := by
  unfold compO
  generalize it env = z
  cases z with
  | ok ds e =>
    have e1 : Wr (R.ok ds e) (cmpQ g cb f vs QD X) X ↔ (ds.length ≤ 1000000 ∧ Wr (compL g cb f vs [] ds (wipeE e vs)) QD X) := Iff.rfl
    rw [e1]
    dsimp only
    by_cases h : ds.length ≤ 1000000
    · rw [if_pos h]; exact ⟨fun z => ⟨h, z⟩, fun z => z.2⟩
    · rw [if_neg h]; exact ⟨fun z => False.elim z, fun z => absurd z.1 h⟩
  | ex => exact Iff.rfl
  | no => exact Iff.rfl
theorem wz_cmpQ {vs : List Nat} (h : ds.length ≤ 1000000) : cmpQ g cb f vs QD X ds e ↔ Wr (compL g cb f vs [] ds (wipeE e vs)) QD X := ⟨fun z => z.2, fun z => ⟨h, z⟩⟩
theorem wz_wipe0 : wipeE e [] = e := id rfl
theorem wz_wipe {v : Nat} {vs : List Nat} : wipeE e (v :: vs) = (wipeE e vs).set v none := id rfl
theorem wz_cmn {it : J.Env → R (List D)} {kw : KW} {vs : List Nat} : Wr (compNO it g cb kw vs env) QD X ↔ Wr (it env) (cmnQ g cb kw vs QD) X := by
  unfold compNO Wr cmnQ Wk mkQ
  cases it env with
  | ok ds e =>
    dsimp only
    cases loopW g cb kw vs ds [] (wipeE e vs) with
    | none => exact Iff.rfl
    | some q => exact Iff.rfl
  | ex => exact Iff.rfl
  | no => exact Iff.rfl
theorem wz_cmnQ {kw : KW} {vs : List Nat} : cmnQ g cb kw vs QD ds e ↔ Wk (loopW g cb kw vs ds [] (wipeE e vs)) (mkQ QD) := Iff.rfl
theorem wz_mkQ : mkQ QD xs e ↔ QD (.lst true xs) e := Iff.rfl
theorem wz_kn {it : J.Env → R (List D)} {kw : KW} {vs : List Nat} : Wk (kNextW it g cb kw vs xs env) QL ↔ Wr (it env) (knQ g cb kw vs xs QL) noX := by
  unfold kNextW Wr Wk knQ noX
  cases it env <;> exact Iff.rfl
theorem wz_knQ {kw : KW} {vs : List Nat} : knQ g cb kw vs xs QL ds e ↔ Wk (loopW g cb kw vs ds xs (wipeE e vs)) QL := Iff.rfl
theorem wz_kl : Wk (kLastW f xs env) QL ↔ Wr (f env) (klQ xs QL) noX := by
  unfold kLastW
  generalize f env = z
  cases z with
  | ok x e =>
    have e1 : Wr (R.ok x e) (klQ xs QL) noX ↔ (xs.length < 1000000 ∧ QL (xs ++ [x]) e) := Iff.rfl
    rw [e1]
    dsimp only
    by_cases h : xs.length < 1000000
    · rw [if_pos h]; exact ⟨fun z => ⟨h, z⟩, fun z => z.2⟩
    · rw [if_neg h]; exact ⟨fun z => False.elim z, fun z => absurd z.1 h⟩
  | ex => exact Iff.rfl
  | no => exact Iff.rfl
theorem wz_klQ (h : xs.length < 1000000) : klQ xs QL x e ↔ QL (xs ++ [x]) e := ⟨fun z => z.2, fun z => ⟨h, z⟩⟩
theorem wz_fld {nm : Str} : Wo (fldO c i nm f env) Q ↔ Wr (f env) (fldQ c i nm Q) (exQ Q) := by
  unfold fldO
  generalize f env = z
  cases z with
  | ok d e =>
    have e1 : Wr (R.ok d e) (fldQ c i nm Q) (exQ Q) ↔ fldQ c i nm Q d e := Iff.rfl
    rw [e1]
    unfold fldQ
    dsimp only
    generalize e[i]? = y
    cases y with
    | none => exact Iff.rfl
    | some y => cases y with
      | none => exact Iff.rfl
      | some y => cases y with
        | ins o c' ns ds => cases o with
          | false => exact Iff.rfl
          | true =>
            dsimp only
            by_cases h : c' = c ∧ ns.length < 900 ∧ d.noOwn = true
            · rw [if_pos h]; exact ⟨fun z => ⟨h, z⟩, fun z => z.2⟩
            · rw [if_neg h]; exact ⟨fun z => False.elim z, fun z => absurd z.1 h⟩
        | _ => exact Iff.rfl
  | ex => exact Iff.rfl
  | no => exact Iff.rfl
def fdR (c i : Nat) (f : Str) (Q : Out → Prop) (d : D) (e : J.Env) : Option (Option D) → Prop := fun o => match o with
  | some (some (.ins true c' ns ds)) => (c' = c ∧ ns.length < 900 ∧ d.noOwn = true) ∧ Q (.nx (e.set i (some (.ins true c (putN f ns) (putDs f d ns ds)))))
  | _ => False
theorem wz_fldQ {nm : Str} : fldQ c i nm Q d e ↔ fdR c i nm Q d e e[i]? := Iff.rfl
theorem wz_fdR {nm : Str} {cs : List Str} {c2 : Nat} : fdR c i nm Q d e (some (some (.ins true c2 cs ds))) ↔ ((c2 = c ∧ cs.length < 900 ∧ d.noOwn = true) ∧ Q (.nx (e.set i (some (.ins true c (putN nm cs) (putDs nm d cs ds)))))) := Iff.rfl
def auP (i : Nat) (op : Int → Int → Int) (f : J.Env → R D) (env : J.Env) (Q : Out → Prop) : Option (Option D) → Prop := fun o => match o with
  | some (some (.int a)) => Wr (f env) (augQ i op a Q) (exQ Q)
  | _ => False
theorem wz_aug {op : Int → Int → Int} : Wo (augO i op f env) Q ↔ auP i op f env Q env[i]? := by
  unfold augO auP
  cases env[i]? with
  | none => exact Iff.rfl
  | some z => cases z with
    | none => exact Iff.rfl
    | some z =>
      cases z <;> try exact Iff.rfl
      dsimp only
      cases f env with
      | ok d e => cases d <;> exact Iff.rfl
      | ex => exact Iff.rfl
      | no => exact Iff.rfl
theorem wz_auP {op : Int → Int → Int} {a : Int} : auP i op f env Q (some (some (.int a))) ↔ Wr (f env) (augQ i op a Q) (exQ Q) := Iff.rfl
theorem wz_augQ {op : Int → Int → Int} {a b : Int} : augQ i op a Q (.int b) e ↔ Q (.nx (e.set i (some (.int (op a b))))) := Iff.rfl
def apP (i : Nat) (f : J.Env → R D) (env : J.Env) (Q : Out → Prop) : Option (Option D) → Prop := fun o => match o with
  | some (some (.lst true _)) => Wr (f env) (apdQ i Q) (exQ Q)
  | _ => False
def apR (i : Nat) (Q : Out → Prop) (d : D) (e : J.Env) : Option (Option D) → Prop := fun o => match o with
  | some (some (.lst true xs)) => xs.length < 1000000 ∧ Q (.nx (e.set i (some (.lst true (xs ++ [d])))))
  | _ => False
theorem wz_apd : Wo (appO i f env) Q ↔ apP i f env Q env[i]? := by
  unfold appO apP
  cases env[i]? with
  | none => exact Iff.rfl
  | some z => cases z with
    | none => exact Iff.rfl
    | some z =>
      cases z <;> try exact Iff.rfl
      rename_i o ys
      cases o with
      | false => exact Iff.rfl
      | true =>
        dsimp only
        generalize f env = z
        cases z with
        | ok d e =>
          have e1 : Wr (R.ok d e) (apdQ i Q) (exQ Q) ↔ apdQ i Q d e := Iff.rfl
          rw [e1]
          unfold apdQ
          dsimp only
          generalize e[i]? = y
          cases y with
          | none => exact Iff.rfl
          | some y => cases y with
            | none => exact Iff.rfl
            | some y => cases y with
              | lst o zs => cases o with
                | false => exact Iff.rfl
                | true =>
                  dsimp only
                  by_cases h : zs.length < 1000000
                  · rw [if_pos h]; exact ⟨fun z => ⟨h, z⟩, fun z => z.2⟩
                  · rw [if_neg h]; exact ⟨fun z => False.elim z, fun z => absurd z.1 h⟩
              | _ => exact Iff.rfl
        | ex => exact Iff.rfl
        | no => exact Iff.rfl
theorem wz_apP : apP i f env Q (some (some (.lst true xs))) ↔ Wr (f env) (apdQ i Q) (exQ Q) := Iff.rfl
theorem wz_apdQ : apdQ i Q d e ↔ apR i Q d e e[i]? := Iff.rfl
theorem wz_apR (h : xs.length < 1000000) : apR i Q d e (some (some (.lst true xs))) ↔ Q (.nx (e.set i (some (.lst true (xs ++ [d]))))) := ⟨fun z => z.2, fun z => ⟨h, z⟩⟩
def exP (i : Nat) (f : J.Env → R D) (env : J.Env) (Q : Out → Prop) : Option (Option D) → Prop := fun o => match o with
  | some (some (.lst true _)) => Wr (f env) (extQ i Q) (exQ Q)
  | _ => False
def exR (i : Nat) (Q : Out → Prop) (zs : List D) (e : J.Env) : Option (Option D) → Prop := fun o => match o with
  | some (some (.lst true xs)) => (D.noOwnL zs && decide (xs.length + zs.length ≤ 1000000)) = true ∧ Q (.nx (e.set i (some (.lst true (xs ++ zs)))))
  | _ => False
theorem wz_ext : Wo (extO i f env) Q ↔ exP i f env Q env[i]? := by
  unfold extO exP
  cases env[i]? with
  | none => exact Iff.rfl
  | some z => cases z with
    | none => exact Iff.rfl
    | some z =>
      cases z <;> try exact Iff.rfl
      rename_i o ys
      cases o with
      | false => exact Iff.rfl
      | true =>
        dsimp only
        generalize f env = z
        cases z with
        | ok d e =>
          have e1 : Wr (R.ok d e) (extQ i Q) (exQ Q) ↔ extQ i Q d e := Iff.rfl
          rw [e1]
          unfold extQ
          cases d <;> try exact Iff.rfl
          rename_i o2 zs
          dsimp only
          generalize e[i]? = y
          cases y with
          | none => exact Iff.rfl
          | some y => cases y with
            | none => exact Iff.rfl
            | some y => cases y with
              | lst o ws => cases o with
                | false => exact Iff.rfl
                | true =>
                  dsimp only
                  by_cases h : (D.noOwnL zs && decide (ws.length + zs.length ≤ 1000000)) = true
                  · rw [if_pos h]; exact ⟨fun z => ⟨h, z⟩, fun z => z.2⟩
                  · rw [if_neg h]; exact ⟨fun z => False.elim z, fun z => absurd z.1 h⟩
              | _ => exact Iff.rfl
        | ex => exact Iff.rfl
        | no => exact Iff.rfl
theorem wz_exP : exP i f env Q (some (some (.lst true xs))) ↔ Wr (f env) (extQ i Q) (exQ Q) := Iff.rfl
theorem wz_extQ {ob : Bool} : extQ i Q (.lst ob ys) e ↔ exR i Q ys e e[i]? := by
  unfold extQ exR
  cases e[i]? with
  | none => exact Iff.rfl
  | some z => cases z with
    | none => exact Iff.rfl
    | some z =>
      cases z <;> try exact Iff.rfl
      rename_i o xs
      cases o <;> exact Iff.rfl
theorem wz_exR (h : xs.length + ys.length ≤ 1000000) : exR i Q ys e (some (some (.lst true xs))) ↔ (D.noOwnL ys = true ∧ Q (.nx (e.set i (some (.lst true (xs ++ ys)))))) := by
  unfold exR
  simp only [h, decide_true, Bool.and_true]
theorem wz_par {j : Nat} : Wo (parO i j af env) Q ↔ Wr (af env) (parQ i j Q) (exQ Q) := by
  unfold parO
  generalize af env = z
  cases z with
  | ok ds e =>
    have e1 : Wr (R.ok ds e) (parQ i j Q) (exQ Q) ↔ parQ i j Q ds e := Iff.rfl
    rw [e1]
    unfold parQ
    match ds with
    | [] => exact Iff.rfl
    | [_] => exact Iff.rfl
    | [a, b] =>
      dsimp only
      by_cases h : i < e.length ∧ j < e.length
      · rw [if_pos h]; exact ⟨fun z => ⟨h, z⟩, fun z => z.2⟩
      · rw [if_neg h]; exact ⟨fun z => False.elim z, fun z => absurd z.1 h⟩
    | _ :: _ :: _ :: _ => exact Iff.rfl
  | ex => exact Iff.rfl
  | no => exact Iff.rfl
theorem wz_parQ {j : Nat} (h : i < e.length) (h2 : j < e.length) : parQ i j Q [d, x] e ↔ Q (.nx ((e.set i (some d)).set j (some x))) := by
  unfold parQ
  simp only [h, h2, and_self, true_and]
def p1R (i : Nat) (d : D) (env : J.Env) (P : J.Env → Prop) (xs : List D) : Option Nat → Prop := fun o => match o with
  | some j => P (env.set i (some (.lst true (xs.set j d))))
  | none => False
def p1P (i : Nat) (d : D) (env : J.Env) (P : J.Env → Prop) : Option D → Option (Option D) → Prop := fun a b => match a, b with
  | some (.int k), some (some (.lst true xs)) => p1R i d env P xs (ixN xs.length k)
  | _, _ => False
theorem wz_put1 : Wg (put1G i fb d env) P ↔ p1P i d env P (fb env) env[i]? := by
  unfold put1G p1P p1R Wg
  cases fb env with
  | none => exact Iff.rfl
  | some y =>
    cases y <;> try exact Iff.rfl
    cases env[i]? with
    | none => exact Iff.rfl
    | some z => cases z with
      | none => exact Iff.rfl
      | some z =>
        cases z <;> try exact Iff.rfl
        rename_i o xs
        cases o with
        | false => exact Iff.rfl
        | true =>
          rename_i k
          dsimp only
          cases ixN xs.length k <;> exact Iff.rfl
theorem wz_p1P {k : Int} : p1P i d env P (some (.int k)) (some (some (.lst true xs))) ↔ p1R i d env P xs (ixN xs.length k) := Iff.rfl
theorem wz_p1R {j : Nat} : p1R i d env P xs (some j) ↔ P (env.set i (some (.lst true (xs.set j d)))) := Iff.rfl
def p2S (i : Nat) (d : D) (env : J.Env) (P : J.Env → Prop) (rows : List D) (ja : Nat) (xs : List D) : Option Nat → Prop := fun o => match o with
  | some j => P (env.set i (some (.lst true (rows.set ja (.lst true (xs.set j d))))))
  | none => False
def p2R (i : Nat) (b : Int) (d : D) (env : J.Env) (P : J.Env → Prop) (rows : List D) (ja : Nat) : Option D → Prop := fun o => match o with
  | some (.lst true xs) => p2S i d env P rows ja xs (ixN xs.length b)
  | _ => False
def p2Q (i : Nat) (b : Int) (d : D) (env : J.Env) (P : J.Env → Prop) (rows : List D) : Option Nat → Prop := fun o => match o with
  | some ja => p2R i b d env P rows ja rows[ja]?
  | none => False
def p2P (i : Nat) (d : D) (env : J.Env) (P : J.Env → Prop) : Option D → Option D → Option (Option D) → Prop := fun a b c => match a, b, c with
  | some (.int a), some (.int b), some (some (.lst true rows)) => p2Q i b d env P rows (ixN rows.length a)
  | _, _, _ => False
theorem wz_put2 : Wg (put2G i fb fb2 d env) P ↔ p2P i d env P (fb env) (fb2 env) env[i]? := by
  unfold put2G p2P p2Q p2R p2S Wg
  cases fb env with
  | none => exact Iff.rfl
  | some y =>
    cases y <;> try exact Iff.rfl
    cases fb2 env with
    | none => exact Iff.rfl
    | some y =>
      cases y <;> try exact Iff.rfl
      cases env[i]? with
      | none => exact Iff.rfl
      | some z => cases z with
        | none => exact Iff.rfl
        | some z =>
          cases z <;> try exact Iff.rfl
          rename_i k k2 o xs
          cases o with
          | false => exact Iff.rfl
          | true =>
            dsimp only
            cases ixN xs.length k with
            | none => exact Iff.rfl
            | some ja =>
              dsimp only
              cases xs[ja]? with
              | none => exact Iff.rfl
              | some y =>
                cases y <;> try exact Iff.rfl
                rename_i o ys
                cases o with
                | false => exact Iff.rfl
                | true => dsimp only; cases ixN ys.length k2 <;> exact Iff.rfl
theorem wz_p2P {k k2 : Int} : p2P i d env P (some (.int k)) (some (.int k2)) (some (some (.lst true xs))) ↔ p2Q i k2 d env P xs (ixN xs.length k) := Iff.rfl
theorem wz_p2Q {k : Int} {j : Nat} : p2Q i k d env P xs (some j) ↔ p2R i k d env P xs j xs[j]? := Iff.rfl
theorem wz_p2R {k : Int} {j : Nat} : p2R i k d env P xs j (some (.lst true ys)) ↔ p2S i d env P xs j ys (ixN ys.length k) := Iff.rfl
theorem wz_p2S {j k : Nat} : p2S i d env P xs j ys (some k) ↔ P (env.set i (some (.lst true (xs.set j (.lst true (ys.set k d)))))) := Iff.rfl
def psP (i : Nat) (env : J.Env) (P : J.Env → Prop) (ys : List D) : Option D → Option D → Option (Option D) → Prop := fun a b c => match a, b, c with
  | some (.int a), some (.int c), some (some (.lst true xs)) => (D.noOwnL ys && (D.noOwnL xs && (decide (0 ≤ a) && (decide (a ≤ c) && (decide (c ≤ xs.length) && decide (xs.length + ys.length ≤ 1000000)))))) = true ∧ P (env.set i (some (.lst true (xs.take a.toNat ++ ys ++ xs.drop c.toNat))))
  | _, _, _ => False
theorem wz_putS {o : Bool} : Wg (putSG i fb fb2 (.lst o ys) env) P ↔ psP i env P ys (fb env) (fb2 env) env[i]? := by
  unfold putSG psP Wg
  cases fb env with
  | none => exact Iff.rfl
  | some y =>
    cases y <;> try exact Iff.rfl
    cases fb2 env with
    | none => exact Iff.rfl
    | some y =>
      cases y <;> try exact Iff.rfl
      cases env[i]? with
      | none => exact Iff.rfl
      | some z => cases z with
        | none => exact Iff.rfl
        | some z =>
          cases z <;> try exact Iff.rfl
          rename_i a c o2 xs
          cases o2 with
          | false => exact Iff.rfl
          | true =>
            dsimp only
            by_cases h : (D.noOwnL ys && (D.noOwnL xs && (decide (0 ≤ a) && (decide (a ≤ c) && (decide (c ≤ xs.length) && decide (xs.length + ys.length ≤ 1000000)))))) = true
            · rw [if_pos h]; exact ⟨fun z => ⟨h, z⟩, fun z => z.2⟩
            · rw [if_neg h]; exact ⟨fun z => False.elim z, fun z => absurd z.1 h⟩
theorem wz_psP {a b : Int} (a0 : 0 ≤ a) (ab : a ≤ b) (bl : b ≤ xs.length) (hl : xs.length + ys.length ≤ 1000000) : psP i env P ys (some (.int a)) (some (.int b)) (some (some (.lst true xs))) ↔ ((D.noOwnL ys = true ∧ D.noOwnL xs = true) ∧ P (env.set i (some (.lst true (xs.take a.toNat ++ ys ++ xs.drop b.toNat))))) := by
  unfold psP
  simp only [a0, ab, bl, hl, decide_true, Bool.and_true, Bool.and_eq_true]
theorem wz_li : Wr (lstI f env) QL X ↔ Wr (f env) (liQ QL) X := by
  unfold lstI Wr liQ
  cases f env with
  | ok d e => cases d <;> exact Iff.rfl
  | ex => exact Iff.rfl
  | no => exact Iff.rfl
theorem wz_liQ {o : Bool} : liQ QL (.lst o xs) e ↔ QL (D.fzL xs) e := Iff.rfl
theorem wz_ti : Wr (tupI f env) QL X ↔ Wr (f env) (tiQ QL) X := by
  unfold tupI Wr tiQ
  cases f env with
  | ok d e => cases d <;> exact Iff.rfl
  | ex => exact Iff.rfl
  | no => exact Iff.rfl
theorem wz_tiQ : tiQ QL (.tup xs) e ↔ QL (D.fzL xs) e := Iff.rfl
theorem wz_en {k : Int} : Wr (enumI k af env) QL X ↔ Wr (af env) (enQ k QL) X := by
  unfold enumI Wr enQ
  cases af env with
  | ok ds e => match ds with
    | [] => exact Iff.rfl
    | [d] => cases d <;> exact Iff.rfl
    | d :: _ :: _ => cases d <;> exact Iff.rfl
  | ex => exact Iff.rfl
  | no => exact Iff.rfl
theorem wz_enQ {k : Int} {o : Bool} : enQ k QL [.lst o xs] e ↔ QL (enumD k (D.fzL xs)) e := Iff.rfl
theorem wz_r1 : Wr (rng1I af env) QL X ↔ Wr (af env) (r1Q QL) X := by
  unfold rng1I
  generalize af env = z
  cases z with
  | ok ds e =>
    have e1 : Wr (R.ok ds e) (r1Q QL) X ↔ r1Q QL ds e := Iff.rfl
    rw [e1]
    unfold r1Q
    match ds with
    | [] => exact Iff.rfl
    | [d] =>
      cases d <;> try exact Iff.rfl
      rename_i j
      dsimp only
      by_cases h : -(2 ^ 62) ≤ j ∧ j < 2 ^ 62
      · rw [if_pos h]; exact ⟨fun z => ⟨h, z⟩, fun z => z.2⟩
      · rw [if_neg h]; exact ⟨fun z => False.elim z, fun z => absurd z.1 h⟩
    | d :: _ :: _ => cases d <;> exact Iff.rfl
  | ex => exact Iff.rfl
  | no => exact Iff.rfl
theorem wz_r1Q {j : Int} (h : -1000000000 ≤ j) (h2 : j ≤ 1000000000) : r1Q QL [.int j] e ↔ QL (rngD 0 j.toNat) e := by
  have : -(2 ^ 62) ≤ j ∧ j < 2 ^ 62 := by omega
  exact ⟨fun z => z.2, fun z => ⟨this, z⟩⟩
theorem wz_r2 : Wr (rng2I af env) QL X ↔ Wr (af env) (r2Q QL) X := by
  unfold rng2I
  generalize af env = z
  cases z with
  | ok ds e =>
    have e1 : Wr (R.ok ds e) (r2Q QL) X ↔ r2Q QL ds e := Iff.rfl
    rw [e1]
    unfold r2Q
    match ds with
    | [] => exact Iff.rfl
    | [d] => cases d <;> exact Iff.rfl
    | [d, d2] =>
      cases d <;> try exact Iff.rfl
      cases d2 <;> try exact Iff.rfl
      rename_i i j
      dsimp only
      by_cases h : -(2 ^ 62) ≤ i ∧ i < 2 ^ 62 ∧ -(2 ^ 62) ≤ j ∧ j < 2 ^ 62
      · rw [if_pos h]; exact ⟨fun z => ⟨h, z⟩, fun z => z.2⟩
      · rw [if_neg h]; exact ⟨fun z => False.elim z, fun z => absurd z.1 h⟩
    | d :: d2 :: _ :: _ => cases d <;> cases d2 <;> exact Iff.rfl
  | ex => exact Iff.rfl
  | no => exact Iff.rfl
theorem wz_r2Q {i j : Int} (h0 : -1000000000 ≤ i) (h1 : i ≤ 1000000000) (h : -1000000000 ≤ j) (h2 : j ≤ 1000000000) : r2Q QL [.int i, .int j] e ↔ QL (rngD i (j - i).toNat) e := by
  have : -(2 ^ 62) ≤ i ∧ i < 2 ^ 62 ∧ -(2 ^ 62) ≤ j ∧ j < 2 ^ 62 := by omega
  exact ⟨fun z => z.2, fun z => ⟨this, z⟩⟩
theorem wz_zi : Wr (zipI af env) QL X ↔ Wr (af env) (ziQ QL) X := by
  unfold zipI Wr ziQ
  cases af env with
  | ok ds e => match ds with
    | [] => exact Iff.rfl
    | [d] => cases d <;> exact Iff.rfl
    | [d, d2] => cases d <;> cases d2 <;> exact Iff.rfl
    | d :: d2 :: _ :: _ => cases d <;> cases d2 <;> exact Iff.rfl
  | ex => exact Iff.rfl
  | no => exact Iff.rfl
theorem wz_ziQ {o o2 : Bool} : ziQ QL [.lst o xs, .lst o2 ys] e ↔ QL (zipD (D.fzL xs) (D.fzL ys)) e := Iff.rfl
theorem wz_asi : Wr (asI f env) QD X ↔ Wr (f env) (asiQ QD) X := by
  unfold asI Wr asiQ
  cases f env with
  | ok d e => cases d <;> exact Iff.rfl
  | ex => exact Iff.rfl
  | no => exact Iff.rfl
theorem wz_asiQ {k : Int} : asiQ QD (.int k) e ↔ QD (.int k) e := Iff.rfl
theorem wz_sl {lo hi : J.Env → R D} : Wr (slF f lo hi env) QD X ↔ Wr (f env) (sl1Q lo hi QD X) X := by
  unfold slF R.bind Wr sl1Q Wr Wd
  cases f env with
  | ok d e =>
    dsimp only
    cases lo e with
    | ok l e2 =>
      dsimp only
      cases hi e2 with
      | ok u e3 => dsimp only; cases slD d l u <;> exact Iff.rfl
      | ex => exact Iff.rfl
      | no => exact Iff.rfl
    | ex => exact Iff.rfl
    | no => exact Iff.rfl
  | ex => exact Iff.rfl
  | no => exact Iff.rfl
theorem wz_sl1 {lo hi : J.Env → R D} : sl1Q lo hi QD X d e ↔ Wr (lo e) (sl2Q d hi QD X) X := Iff.rfl
theorem wz_sl2 {hi : J.Env → R D} {l : D} : sl2Q d hi QD X l e ↔ Wr (hi e) (sl3Q d l QD) X := Iff.rfl
theorem wz_sl3 {l u : D} : sl3Q d l QD u e ↔ Wd (slD d l u) (atQ QD e) := Iff.rfl
theorem wz_lr1 : Wr (lrgF1 f env) QD X ↔ Wr (f env) (lrQ QD) X := by
  unfold lrgF1
  generalize f env = z
  cases z with
  | ok d e =>
    have e1 : Wr (R.ok d e) (lrQ QD) X ↔ lrQ QD d e := Iff.rfl
    rw [e1]
    unfold lrQ
    cases d <;> try exact Iff.rfl
    rename_i n
    dsimp only
    by_cases h : n ≤ 10000 ∧ 0 ≤ n
    · rw [if_pos h]; exact ⟨fun z => ⟨h, z⟩, fun z => z.2⟩
    · rw [if_neg h]; exact ⟨fun z => False.elim z, fun z => absurd z.1 h⟩
  | ex => exact Iff.rfl
  | no => exact Iff.rfl
theorem wz_lrQ {n : Int} (h : 0 ≤ n) (h2 : n ≤ 10000) : lrQ QD (.int n) e ↔ QD (.lst true (rgD 0 n)) e := ⟨fun z => z.2, fun z => ⟨⟨h2, h⟩, z⟩⟩
theorem wz_pop : Wr (popF i env) QD X ↔ popQ i env QD env[i]? := by
  unfold popF Wr popQ
  cases env[i]? with
  | none => exact Iff.rfl
  | some z => cases z with
    | none => exact Iff.rfl
    | some d =>
      cases d <;> try exact Iff.rfl
      rename_i o xs
      cases o with
      | false => exact Iff.rfl
      | true => dsimp only; cases xs[xs.length - 1]? <;> exact Iff.rfl
def poR (i : Nat) (env : J.Env) (Q : D → J.Env → Prop) (xs : List D) : Option D → Prop := fun o => match o with
  | some x => Q x (env.set i (some (.lst true (xs.eraseIdx (xs.length - 1)))))
  | none => False
theorem wz_popQ : popQ i env QD (some (some (.lst true xs))) ↔ poR i env QD xs xs[xs.length - 1]? := Iff.rfl
theorem wz_poR : poR i env QD xs (some d) ↔ QD d (env.set i (some (.lst true (xs.eraseIdx (xs.length - 1))))) := Iff.rfl
theorem wz_def {kp : List Nat} {l : Nat} : Wr (defF n kp l s ds) QD X ↔ Wo (s (ds.map some ++ List.replicate l none)) (defQ n kp QD X) := by
  unfold defF Wr Wo defQ
  cases s (ds.map some ++ List.replicate l none) <;> exact Iff.rfl
theorem wz_defn {kp : List Nat} : defQ n kp QD X (.nx e) ↔ QD .non (outsOf n kp e) := Iff.rfl
theorem wz_defr {kp : List Nat} : defQ n kp QD X (.rt r e) ↔ QD r (outsOf n kp e) := Iff.rfl
theorem wz_defx {kp : List Nat} {vs : List D} {c2 : Nat} : defQ n kp QD X (.ex c2 ns vs e) ↔ X c2 ns vs (outsOf n kp e) := Iff.rfl
theorem wz_lpn : loopQ P Q (.nx e) ↔ P e := Iff.rfl
theorem wz_lpc : loopQ P Q (.ct e) ↔ P e := Iff.rfl
theorem wz_lpb : loopQ P Q (.bk e) ↔ Q (.nx e) := Iff.rfl
theorem wz_lpr : loopQ P Q (.rt r e) ↔ Q (.rt r e) := Iff.rfl
theorem wz_lpx {vs : List D} : loopQ P Q (.ex c ns vs e) ↔ Q (.ex c ns vs e) := Iff.rfl
theorem wz_bod : bodQ s P Q e ↔ Wo (s e) (loopQ P Q) := Iff.rfl
/-! exceptions -/
def raS (c : Nat) (ns : List Str) (e : J.Env) (Q : Out → Prop) : Option (List D) → Prop := fun o => match o with
  | some xs => Q (.ex c ns xs e)
  | none => False
def raQ (c : Nat) (ns : List Str) (g : List D → Option (List D)) (Q : Out → Prop) : List D → J.Env → Prop := fun ds e => D.noOwnL ds = true ∧ raS c ns e Q (g ds)
theorem wz_raise {g : List D → Option (List D)} : Wo (raiseO c ns g af env) Q ↔ Wr (af env) (raQ c ns g Q) (exQ Q) := by
  unfold raiseO
  generalize af env = z
  cases z with
  | ok ds e =>
    have e1 : Wr (R.ok ds e) (raQ c ns g Q) (exQ Q) ↔ (D.noOwnL ds = true ∧ raS c ns e Q (g ds)) := Iff.rfl
    rw [e1]
    dsimp only
    by_cases h : D.noOwnL ds = true
    · rw [if_pos h]
      cases g ds with
      | none => exact ⟨fun z => False.elim z, fun z => z.2⟩
      | some xs => exact ⟨fun z => ⟨h, z⟩, fun z => z.2⟩
    · rw [if_neg h]; exact ⟨fun z => False.elim z, fun z => absurd z.1 h⟩
  | ex => exact Iff.rfl
  | no => exact Iff.rfl
theorem wz_raQ {g : List D → Option (List D)} : raQ c ns g Q ds e ↔ (D.noOwnL ds = true ∧ raS c ns e Q (g ds)) := Iff.rfl
theorem wz_raS : raS c ns e Q (some xs) ↔ Q (.ex c ns xs e) := Iff.rfl
theorem wz_gF1 {txt : Str} : gF1 txt [d] = some [d, .str txt] := id rfl
theorem wz_gB1 {y : Str} : gB1 [.str y] = some [.non, .str y] := id rfl
theorem wz_gB2 {y : Str} : gB2 [.str y, d] = some [d, .str y] := id rfl
theorem wz_gW {y : Str} : gW [.str y] = some [.str y] := id rfl
def toQ (m : List (Nat × Bool)) (hd : J.Env → Out) (Q : Out → Prop) : Out → Prop := fun o => match o with
  | .ex c ns vs e => (match m.lookup c with
    | some true => Wo (hd e) (fun o => match o with | .ex _ _ _ _ => False | o => Q o)
    | some false => Q (.ex c ns vs e)
    | none => False)
  | o => Q o
def toR (Q : Out → Prop) : Out → Prop := fun o => match o with | .ex _ _ _ _ => False | o => Q o
theorem wz_tryO {m : List (Nat × Bool)} {hd : J.Env → Out} : Wo (tryOnlyO m s hd env) Q ↔ Wo (s env) (toQ m hd Q) := by
  unfold tryOnlyO
  cases s env with
  | ex c ns vs e =>
    have e1 : Wo (.ex c ns vs e) (toQ m hd Q) ↔ toQ m hd Q (.ex c ns vs e) := Iff.rfl
    rw [e1]
    unfold toQ
    dsimp only
    cases m.lookup c with
    | none => exact Iff.rfl
    | some b => cases b with
      | true => dsimp only; cases hd e <;> exact Iff.rfl
      | false => exact Iff.rfl
  | _ => exact Iff.rfl
theorem wz_tyT {m : List (Nat × Bool)} {hd : J.Env → Out} {vs : List D} (h : m.lookup c = some true) : toQ m hd Q (.ex c ns vs e) ↔ Wo (hd e) (toR Q) := by
  unfold toQ toR
  simp only [h]
theorem wz_tyF {m : List (Nat × Bool)} {hd : J.Env → Out} {vs : List D} (h : m.lookup c = some false) : toQ m hd Q (.ex c ns vs e) ↔ Q (.ex c ns vs e) := by
  unfold toQ
  simp only [h]
theorem wz_tyn {m : List (Nat × Bool)} {hd : J.Env → Out} : toQ m hd Q (.nx e) ↔ Q (.nx e) := Iff.rfl
theorem wz_tyr {m : List (Nat × Bool)} {hd : J.Env → Out} : toQ m hd Q (.rt r e) ↔ Q (.rt r e) := Iff.rfl
theorem wz_tyRn : toR Q (.nx e) ↔ Q (.nx e) := Iff.rfl
theorem wz_tyRr : toR Q (.rt r e) ↔ Q (.rt r e) := Iff.rfl
def outQ (i : Nat) (Q : Out → Prop) : Out → Prop := fun o => match o with
  | .nx e => noXE (e.set i none) = true ∧ Q (.nx (e.set i none))
  | .bk e => noXE (e.set i none) = true ∧ Q (.bk (e.set i none))
  | .ct e => noXE (e.set i none) = true ∧ Q (.ct (e.set i none))
  | .rt r e => (r.noX && noXE (e.set i none)) = true ∧ Q (.rt r (e.set i none))
  | _ => False
theorem wz_out {i : Nat} {o : Out} : Wo (outX i o) Q ↔ Wo o (outQ i Q) := by
  unfold outX
  cases o with
  | nx e =>
    have e1 : Wo (.nx e) (outQ i Q) ↔ (noXE (e.set i none) = true ∧ Q (.nx (e.set i none))) := Iff.rfl
    rw [e1]
    dsimp only
    by_cases h : noXE (e.set i none) = true
    · rw [if_pos h]; exact ⟨fun z => ⟨h, z⟩, fun z => z.2⟩
    · rw [if_neg h]; exact ⟨fun z => False.elim z, fun z => absurd z.1 h⟩
  | bk e =>
    have e1 : Wo (.bk e) (outQ i Q) ↔ (noXE (e.set i none) = true ∧ Q (.bk (e.set i none))) := Iff.rfl
    rw [e1]
    dsimp only
    by_cases h : noXE (e.set i none) = true
    · rw [if_pos h]; exact ⟨fun z => ⟨h, z⟩, fun z => z.2⟩
    · rw [if_neg h]; exact ⟨fun z => False.elim z, fun z => absurd z.1 h⟩
  | ct e =>
    have e1 : Wo (.ct e) (outQ i Q) ↔ (noXE (e.set i none) = true ∧ Q (.ct (e.set i none))) := Iff.rfl
    rw [e1]
    dsimp only
    by_cases h : noXE (e.set i none) = true
    · rw [if_pos h]; exact ⟨fun z => ⟨h, z⟩, fun z => z.2⟩
    · rw [if_neg h]; exact ⟨fun z => False.elim z, fun z => absurd z.1 h⟩
  | rt r e =>
    have e1 : Wo (.rt r e) (outQ i Q) ↔ ((r.noX && noXE (e.set i none)) = true ∧ Q (.rt r (e.set i none))) := Iff.rfl
    rw [e1]
    dsimp only
    by_cases h : (r.noX && noXE (e.set i none)) = true
    · rw [if_pos h]; exact ⟨fun z => ⟨h, z⟩, fun z => z.2⟩
    · rw [if_neg h]; exact ⟨fun z => False.elim z, fun z => absurd z.1 h⟩
  | _ => exact Iff.rfl
def taR (i : Nat) (hd : List Str → List D → J.Env → Out) (Q : Out → Prop) (ns : List Str) (vs : List D) (e : J.Env) : Prop := i < e.length ∧ (D.noXL vs && noXE (e.set i none)) = true ∧ Wo (hd ns vs (e.set i (some .exc))) (outQ i Q)
def taQ (m : List (Nat × Bool)) (i : Nat) (hd : Nat → List Str → List D → J.Env → Out) (Q : Out → Prop) : Out → Prop := fun o => match o with
  | .ex c ns vs e => (match m.lookup c with
    | some true => taR i (hd c) Q ns vs e
    | some false => Q (.ex c ns vs e)
    | none => False)
  | o => Q o
theorem wz_tryA {m : List (Nat × Bool)} {hd : Nat → List Str → List D → J.Env → Out} : Wo (tryAsO m i s hd env) Q ↔ Wo (s env) (taQ m i hd Q) := by
  unfold tryAsO
  cases s env with
  | ex c ns vs e =>
    have e1 : Wo (.ex c ns vs e) (taQ m i hd Q) ↔ taQ m i hd Q (.ex c ns vs e) := Iff.rfl
    rw [e1]
    unfold taQ taR
    dsimp only
    cases m.lookup c with
    | none => exact Iff.rfl
    | some b => cases b with
      | true =>
        dsimp only
        by_cases h1 : i < e.length
        · rw [if_pos h1]
          by_cases h2 : (D.noXL vs && noXE (e.set i none)) = true
          · rw [if_pos h2, wz_out]; exact ⟨fun z => ⟨h1, h2, z⟩, fun z => z.2.2⟩
          · rw [if_neg h2]; exact ⟨fun z => False.elim z, fun z => absurd z.2.1 h2⟩
        · rw [if_neg h1]; exact ⟨fun z => False.elim z, fun z => absurd z.1 h1⟩
      | false => exact Iff.rfl
  | _ => exact Iff.rfl
theorem wz_taT {m : List (Nat × Bool)} {hd : Nat → List Str → List D → J.Env → Out} {vs : List D} (h : m.lookup c = some true) : taQ m i hd Q (.ex c ns vs e) ↔ taR i (hd c) Q ns vs e := by
  unfold taQ
  simp only [h]
theorem wz_taF {m : List (Nat × Bool)} {hd : Nat → List Str → List D → J.Env → Out} {vs : List D} (h : m.lookup c = some false) : taQ m i hd Q (.ex c ns vs e) ↔ Q (.ex c ns vs e) := by
  unfold taQ
  simp only [h]
theorem wz_tan {m : List (Nat × Bool)} {hd : Nat → List Str → List D → J.Env → Out} : taQ m i hd Q (.nx e) ↔ Q (.nx e) := Iff.rfl
theorem wz_tar {m : List (Nat × Bool)} {hd : Nat → List Str → List D → J.Env → Out} : taQ m i hd Q (.rt r e) ↔ Q (.rt r e) := Iff.rfl
theorem wz_taR {hd : List Str → List D → J.Env → Out} {vs : List D} (h : i < e.length) : taR i hd Q ns vs e ↔ ((D.noXL vs && noXE (e.set i none)) = true ∧ Wo (hd ns vs (e.set i (some .exc))) (outQ i Q)) := ⟨fun z => z.2, fun z => ⟨h, z⟩⟩
theorem wz_oun : outQ i Q (.nx e) ↔ (noXE (e.set i none) = true ∧ Q (.nx (e.set i none))) := Iff.rfl
theorem wz_our : outQ i Q (.rt r e) ↔ ((r.noX && noXE (e.set i none)) = true ∧ Q (.rt r (e.set i none))) := Iff.rfl
def xfQ (env : J.Env) (ns : List Str) (ds : List D) (f : Str) (Q : D → J.Env → Prop) : Option (Option D) → Prop := fun o => match o with
  | some (some .exc) => Wd (lookD ns ds f) fun d => Q d env
  | _ => False
theorem wz_xf {f : Str} : Wr (xfF i f ns ds env) QD X ↔ xfQ env ns ds f QD env[i]? := by
  unfold xfF xfQ Wr Wd
  cases env[i]? with
  | none => exact Iff.rfl
  | some z => cases z with
    | none => exact Iff.rfl
    | some d =>
      cases d <;> try exact Iff.rfl
      dsimp only
      cases lookD ns ds f <;> exact Iff.rfl
theorem wz_xfQ {f : Str} : xfQ env ns ds f QD (some (some .exc)) ↔ Wd (lookD ns ds f) (atQ QD env) := Iff.rfl
theorem wz_noXn : noXE (none :: e) = noXE e := id rfl
theorem wz_noXs : noXE (some d :: e) = (d.noX && noXE e) := id rfl
theorem wz_noX0 : noXE [] = true := id rfl
/-! loops, by an invariant -/
def whQ (s : J.Env → Out) (P : J.Env → Prop) (Q : Out → Prop) : Bool → J.Env → Prop := fun b e => match b with
  | true => Wo (s e) (loopQ P Q)
  | false => Q (.nx e)
theorem wz_wht : whQ s P Q true e ↔ Wo (s e) (loopQ P Q) := Iff.rfl
theorem wz_whf : whQ s P Q false e ↔ Q (.nx e) := Iff.rfl
theorem W_while (I : Nat → J.Env → Prop) (hs : ∀ k e, I k e → Wr (cb e) (whQ s (fun e2 => ∃ j, j < k ∧ I j e2) Q) (exQ Q)) : ∀ (k : Nat) (e : J.Env) (m : Nat), I k e → k < m → Wo (whileL cb s m e) Q := by
  intro k e m
  induction m generalizing k e with
  | zero => exact fun _ h => absurd h (by omega)
  | succ m ih =>
    intro hI hm
    have h1 := hs k e hI
    unfold Wo
    simp only [whileL]
    unfold Wr at h1
    cases hc : cb e with
    | ok b e1 =>
      rw [hc] at h1
      cases b with
      | false => exact h1
      | true =>
        have h2 : Wo (s e1) (loopQ (fun e2 => ∃ j, j < k ∧ I j e2) Q) := h1
        unfold Wo at h2
        dsimp only
        cases hb : s e1 with
        | nx e2 => rw [hb] at h2; obtain ⟨j, hj, hI2⟩ := h2; exact ih j e2 hI2 (by omega)
        | ct e2 => rw [hb] at h2; obtain ⟨j, hj, hI2⟩ := h2; exact ih j e2 hI2 (by omega)
        | bk e2 => rw [hb] at h2; exact h2
        | rt r e2 => rw [hb] at h2; exact h2
        | ex c ns vs e2 => rw [hb] at h2; exact h2
        | no => rw [hb] at h2; exact h2
    | ex c ns vs e1 => rw [hc] at h1; exact h1
    | no => rw [hc] at h1; exact h1
/-- a comprehension's body -/
def cbQ (c : J.Env → R Bool) (f : J.Env → R D) (vs : List Nat) (N : J.Env → Prop) (S : D → J.Env → Prop) : J.Env → Prop := fun e => Wr (c e) (fun b e2 => match b with
  | true => Wr (f e2) (fun x e3 => S x (wipeE e3 vs)) noX
  | false => N (wipeE e2 vs)) noX
def cbR (f : J.Env → R D) (vs : List Nat) (N : J.Env → Prop) (S : D → J.Env → Prop) : Bool → J.Env → Prop := fun b e2 => match b with
  | true => Wr (f e2) (fun x e3 => S x (wipeE e3 vs)) noX
  | false => N (wipeE e2 vs)
def cbS (vs : List Nat) (S : D → J.Env → Prop) : D → J.Env → Prop := fun x e3 => S x (wipeE e3 vs)
theorem wz_cb {vs : List Nat} {S : D → J.Env → Prop} : cbQ cb f vs P S e ↔ Wr (cb e) (cbR f vs P S) noX := Iff.rfl
theorem wz_cbt {vs : List Nat} {S : D → J.Env → Prop} : cbR f vs P S true e ↔ Wr (f e) (cbS vs S) noX := Iff.rfl
theorem wz_cbf {vs : List Nat} {S : D → J.Env → Prop} : cbR f vs P S false e ↔ P (wipeE e vs) := Iff.rfl
theorem wz_cbS {vs : List Nat} {S : D → J.Env → Prop} : cbS vs S d e ↔ S d (wipeE e vs) := Iff.rfl
theorem W_comp0 {vs : List Nat} (I : Nat → List D → J.Env → Prop) : ∀ (ds acc : List D) (k : Nat) (e : J.Env), I k acc e → (∀ i d acc e, ds[i]? = some d → I (k + i) acc e → Wg (g d e) (cbQ cb f vs (I (k + i + 1) acc) (fun x => I (k + i + 1) (acc ++ [x])))) → (∀ acc e, I (k + ds.length) acc e → QD (.lst true acc) e) → Wr (compL g cb f vs acc ds e) QD X
  | [], acc, k, e, h0, _, hq => hq acc e h0
  | d :: ds, acc, k, e, h0, hs, hq => by
    have h1 := hs 0 d acc e rfl h0
    have ih := fun acc2 e2 (h : I (k + 1) acc2 e2) => W_comp0 I ds acc2 (k + 1) e2 h (fun i d acc e hi hI => by
      have := hs (i + 1) d acc e (by simpa using hi) (by rw [show k + (i + 1) = k + 1 + i by omega]; exact hI)
      rw [show k + (i + 1) + 1 = k + 1 + i + 1 by omega] at this
      exact this) (fun acc e h => hq acc e (by rw [List.length_cons, show k + (ds.length + 1) = k + 1 + ds.length by omega]; exact h))
    unfold Wg cbQ Wr at h1
    simp only [compL]
    cases hg : g d e with
    | none => rw [hg] at h1; exact False.elim h1
    | some e1 =>
      rw [hg] at h1
      dsimp only at h1 ⊢
      cases hb : cb e1 with
      | ok b e2 =>
        rw [hb] at h1
        cases b with
        | true =>
          dsimp only at h1 ⊢
          cases hf : f e2 with
          | ok x e3 => rw [hf] at h1; exact ih _ _ h1
          | ex => rw [hf] at h1; exact False.elim h1
          | no => rw [hf] at h1; exact False.elim h1
        | false => exact ih _ _ h1
      | ex => rw [hb] at h1; exact False.elim h1
      | no => rw [hb] at h1; exact False.elim h1
theorem W_comp {vs : List Nat} (I : Nat → List D → J.Env → Prop) (h0 : I 0 [] e) (hs : ∀ i d acc e, ds[i]? = some d → I i acc e → Wg (g d e) (cbQ cb f vs (I (i + 1) acc) (fun x => I (i + 1) (acc ++ [x])))) (hq : ∀ acc e, I ds.length acc e → QD (.lst true acc) e) : Wr (compL g cb f vs [] ds e) QD X :=
  W_comp0 I ds [] 0 e h0 (fun i d acc e hi hI => by rw [Nat.zero_add] at hI ⊢; exact hs i d acc e hi hI) (fun acc e h => hq acc e (by rw [Nat.zero_add] at h; exact h))
/-- the body of a comprehension of more fors -/
def ckQ (c : J.Env → R Bool) (kw : KW) (acc : List D) (vs : List Nat) (N : J.Env → Prop) (S : List D → J.Env → Prop) : J.Env → Prop := fun e => Wr (c e) (fun b e2 => match b with
  | true => Wk (kw acc e2) (fun acc2 e3 => S acc2 (wipeE e3 vs))
  | false => N (wipeE e2 vs)) noX
def ckR (kw : KW) (acc : List D) (vs : List Nat) (N : J.Env → Prop) (S : List D → J.Env → Prop) : Bool → J.Env → Prop := fun b e2 => match b with
  | true => Wk (kw acc e2) (fun acc2 e3 => S acc2 (wipeE e3 vs))
  | false => N (wipeE e2 vs)
def ckS (vs : List Nat) (S : List D → J.Env → Prop) : List D → J.Env → Prop := fun acc2 e3 => S acc2 (wipeE e3 vs)
theorem wz_ck {kw : KW} {vs : List Nat} {S : List D → J.Env → Prop} : ckQ cb kw xs vs P S e ↔ Wr (cb e) (ckR kw xs vs P S) noX := Iff.rfl
theorem wz_ckt {kw : KW} {vs : List Nat} {S : List D → J.Env → Prop} : ckR kw xs vs P S true e ↔ Wk (kw xs e) (ckS vs S) := Iff.rfl
theorem wz_ckf {kw : KW} {vs : List Nat} {S : List D → J.Env → Prop} : ckR kw xs vs P S false e ↔ P (wipeE e vs) := Iff.rfl
theorem wz_ckS {vs : List Nat} {S : List D → J.Env → Prop} : ckS vs S xs e ↔ S xs (wipeE e vs) := Iff.rfl
end
end J
/-! operators on what is known; lists as maps over a range -/
namespace J
open PySem L2 PySem.Spec PyProof.Rows
section
variable {a b i j k lo : Int} {n m : Nat} {f g : Nat → D} {o o2 : Bool} {xs ys : List D} {d e x : D} {p : Int → Int → Bool} {P : D → Prop}
theorem wa_add : addD (.int a) (.int b) = some (.int (a + b)) := id rfl
theorem wa_addL (h : xs.length + ys.length ≤ 1000000) (hx : D.noOwnL xs = true) (hy : D.noOwnL ys = true) : addD (.lst o xs) (.lst o2 ys) = some (.lst true (xs ++ ys)) := by
  simp only [addD, hx, hy, h, decide_true, Bool.and_self, if_true]
theorem wa_addT (h : xs.length + ys.length ≤ 1000000) (hx : D.noOwnL xs = true) (hy : D.noOwnL ys = true) : addD (.tup xs) (.tup ys) = some (.tup (xs ++ ys)) := by
  simp only [addD, hx, hy, h, decide_true, Bool.and_self, if_true]
theorem wa_addB : addB (.int a) (.int b) = some (.int (a + b)) := id rfl
theorem wa_sub : subD (.int a) (.int b) = some (.int (a - b)) := id rfl
theorem wa_neg : negD (.int a) = some (.int (-a)) := id rfl
theorem wa_int : intD (.int a) = some (.int a) := id rfl
theorem wa_intT : intD (.bl true) = some (.int 1) := id rfl
theorem wa_intF : intD (.bl false) = some (.int 0) := id rfl
theorem wa_mul1 (h : -10000000000000000 < a) (h2 : a < 10000000000000000) : mulD (.int a) (.int b) = some (.int (a * b)) := by
  have h3 : -(2 ^ 64) < a := by omega
  have h4 : a < 2 ^ 64 := by omega
  simp only [mulD, mulOk, h3, h4, decide_true, Bool.and_self, Bool.true_or, if_true]
theorem wa_mul2 (h : -10000000000000000 < b) (h2 : b < 10000000000000000) : mulD (.int a) (.int b) = some (.int (a * b)) := by
  have h3 : -(2 ^ 64) < b := by omega
  have h4 : b < 2 ^ 64 := by omega
  simp only [mulD, mulOk, h3, h4, decide_true, Bool.and_self, Bool.true_or, Bool.or_true, if_true]
theorem wa_div (h : 0 < b) (h2 : b < 10000000000000000) : divD (.int a) (.int b) = some (.int (a / b)) := by
  have h3 : b.natAbs.log2 < 9000 := by
    by_cases hz : b.natAbs = 0
    · rw [hz]; decide
    · rw [Nat.log2_lt hz]
      have : b.natAbs < 2 ^ 64 := by omega
      exact Nat.lt_trans this (Nat.pow_lt_pow_right (by decide) (by decide))
  simp only [divD, h, h3, if_true]
theorem wa_mod (h : 0 < b) : modD (.int a) (.int b) = some (.int (a % b)) := by
  simp only [modD, h, if_true]
theorem wa_pow18 : powD (.int 10) (.int 18) = some (.int 1000000000000000000) := by simp [powD]
theorem wa_pow15 : powD (.int 10) (.int 15) = some (.int 1000000000000000) := by simp [powD]
theorem wa_pow12 : powD (.int 10) (.int 12) = some (.int 1000000000000) := by simp [powD]
theorem wa_pow11 : powD (.int 10) (.int 11) = some (.int 100000000000) := by simp [powD]
theorem wa_pow6 : powD (.int 10) (.int 6) = some (.int 1000000) := by simp [powD]
theorem wa_max : maxD (.int a) (.int b) = some (.int (max a b)) := by
  simp only [maxD]; congr 2; omega
theorem wa_min : minD (.int a) (.int b) = some (.int (min a b)) := by
  simp only [minD]; congr 2; omega
theorem wa_cmp : cmpD p (.int a) (.int b) = some (.bl (p a b)) := id rfl
theorem wa_lt1 (h : a < b) : ltI a b = true := by simp only [ltI, h, decide_true]
theorem wa_lt0 (h : b ≤ a) : ltI a b = false := by simp only [ltI]; exact decide_eq_false (by omega)
theorem wa_le1 (h : a ≤ b) : leI a b = true := by simp only [leI, h, decide_true]
theorem wa_le0 (h : b < a) : leI a b = false := by simp only [leI]; exact decide_eq_false (by omega)
theorem wa_gt1 (h : b < a) : gtI a b = true := by simp only [gtI, h, decide_true]
theorem wa_gt0 (h : a ≤ b) : gtI a b = false := by simp only [gtI]; exact decide_eq_false (by omega)
theorem wa_ge1 (h : b ≤ a) : geI a b = true := by simp only [geI, h, decide_true]
theorem wa_ge0 (h : a < b) : geI a b = false := by simp only [geI]; exact decide_eq_false (by omega)
def eqI (i j : Int) : Bool := i == j
theorem wa_eq1 (h : a = b) : eqI a b = true := by simp [eqI, h]
theorem wa_eq0 (h : a ≠ b) : eqI a b = false := by simp [eqI, h]
theorem eqD_int' (i j : Int) : eqD (.int i) (.int j) = some (.bl (eqI i j)) := by
  simp [eqD, shp, D.okP, D.toP, SeqAt.shaped, PyData.canLay0, PyData.depth, PyData.eqv, eqI]
theorem neD_int' (i j : Int) : neD (.int i) (.int j) = some (.bl (!eqI i j)) := by
  simp [neD, shp, D.okP, D.toP, SeqAt.shaped, PyData.canLay0, PyData.depth, PyData.eqv, eqI]
theorem wa_isiII : isiD "int" (.int a) = some (.bl true) := id rfl
theorem wa_isiIB : isiD "bool" (.int a) = some (.bl false) := id rfl
theorem wa_isiIS : isiD "str" (.int a) = some (.bl false) := id rfl
theorem wa_isiIL : isiD "list" (.int a) = some (.bl false) := id rfl
theorem wa_isiIT : isiD "tuple" (.int a) = some (.bl false) := id rfl
theorem wa_isiLI : isiD "int" (.lst o xs) = some (.bl false) := id rfl
theorem wa_isiLB : isiD "bool" (.lst o xs) = some (.bl false) := id rfl
theorem wa_isiLL : isiD "list" (.lst o xs) = some (.bl true) := id rfl
theorem wa_isiLT : isiD "tuple" (.lst o xs) = some (.bl false) := id rfl
theorem wa_isiTI : isiD "int" (.tup xs) = some (.bl false) := id rfl
theorem wa_isiTB : isiD "bool" (.tup xs) = some (.bl false) := id rfl
theorem wa_isiTL : isiD "list" (.tup xs) = some (.bl false) := id rfl
theorem wa_isiTT : isiD "tuple" (.tup xs) = some (.bl true) := id rfl
theorem wa_isiBI {s : Bool} : isiD "int" (.bl s) = some (.bl true) := id rfl
theorem wa_isiBB {s : Bool} : isiD "bool" (.bl s) = some (.bl true) := id rfl
theorem wa_isiBL {s : Bool} : isiD "list" (.bl s) = some (.bl false) := id rfl
theorem wa_isiBT {s : Bool} : isiD "tuple" (.bl s) = some (.bl false) := id rfl
theorem wa_isiSI {s : Str} : isiD "int" (.str s) = some (.bl false) := id rfl
theorem wa_isiSB {s : Str} : isiD "bool" (.str s) = some (.bl false) := id rfl
theorem wa_isiSL {s : Str} : isiD "list" (.str s) = some (.bl false) := id rfl
theorem wa_isiST {s : Str} : isiD "tuple" (.str s) = some (.bl false) := id rfl
theorem wa_isiNI : isiD "int" .non = some (.bl false) := id rfl
theorem wa_isiNB : isiD "bool" .non = some (.bl false) := id rfl
theorem wa_isiNL : isiD "list" .non = some (.bl false) := id rfl
theorem wa_isiNT : isiD "tuple" .non = some (.bl false) := id rfl
theorem wa_truB {b : Bool} : truD (.bl b) = some b := id rfl
theorem wa_truI : truD (.int a) = some (!eqI a 0) := id rfl
theorem wa_truLc : truD (.lst o (x :: xs)) = some true := id rfl
theorem wa_truLn : truD (.lst o []) = some false := id rfl
theorem wa_truTc : truD (.tup (x :: xs)) = some true := id rfl
theorem wa_lenL : lenD (.lst o xs) = some (.int xs.length) := id rfl
theorem wa_lenT : lenD (.tup xs) = some (.int xs.length) := id rfl
theorem wa_lenS : lenD (.scr xs) = some (.int xs.length) := id rfl
theorem wa_lstL (h : D.noOwnL xs = true) : listD (.lst o xs) = some (.lst true xs) := by simp only [listD, h, if_true]
theorem wa_lstT (h : D.noOwnL xs = true) : listD (.tup xs) = some (.lst true xs) := by simp only [listD, h, if_true]
theorem wa_lstS : listD (.scr xs) = some (.lst true xs) := id rfl
theorem wa_tplL (h : D.noOwnL xs = true) : tupleD (.lst o xs) = some (.tup xs) := by simp only [tupleD, h, if_true]
theorem wa_tplT (h : D.noOwnL xs = true) : tupleD (.tup xs) = some (.tup xs) := by simp only [tupleD, h, if_true]
theorem wa_revL (h : D.noOwnL xs = true) : revD (.lst o xs) = some (.lst true xs.reverse) := by simp only [revD, h, if_true]
theorem wa_non : isNonD .non .non = some (.bl true) := id rfl
theorem wa_nonI : isNonD (.int a) .non = some (.bl false) := id rfl
theorem wa_nonL : isNonD (.lst o xs) .non = some (.bl false) := id rfl
theorem wa_nonT : isNonD (.tup xs) .non = some (.bl false) := id rfl
theorem wa_nnon : isNotNonD .non .non = some (.bl false) := id rfl
theorem wa_nnonI : isNotNonD (.int a) .non = some (.bl true) := id rfl
theorem wa_nnonL : isNotNonD (.lst o xs) .non = some (.bl true) := id rfl
theorem wa_nnonT : isNotNonD (.tup xs) .non = some (.bl true) := id rfl
/-- from a run said for every end to its equation -/
theorem exists_of_Wr {α : Type} {I : α → Prop} (rf : α → D) (of : α → J.Env) {r : R D} (h : ∀ Q : D → J.Env → Prop, (∀ a, I a → Q (rf a) (of a)) → Wr r Q noX) : ∃ a, I a ∧ r = .ok (rf a) (of a) := by
  obtain ⟨d, e, h1, a, h2, rfl, rfl⟩ := (h (fun d e => ∃ a, I a ∧ d = rf a ∧ e = of a) fun a ha => ⟨a, ha, rfl, rfl⟩).ok
  exact ⟨a, h2, h1⟩
theorem eq_of_Wr {α : Type} {r : R α} {d : α} {e : J.Env} (h : ∀ Q : α → J.Env → Prop, Q d e → Wr r Q noX) : r = .ok d e := by
  obtain ⟨a, e2, h1, rfl, rfl⟩ := (h (fun d' e' => d' = d ∧ e' = e) ⟨rfl, rfl⟩).ok
  exact h1
section
variable {g : D → J.Env → Option J.Env} {s : J.Env → Out} {c : J.Env → R Bool} {f : J.Env → R D} {vs : List Nat} {env e : J.Env} {Q : Out → Prop} {X : XQ} {QD : D → J.Env → Prop} {d x : D} {acc ds : List D}
def fuN (g : D → J.Env → Option J.Env) (s : J.Env → Out) (ds : List D) (Q : Out → Prop) : J.Env → Prop := fun e => Wo (forL g s ds e) Q
theorem wz_fuN : fuN g s ds Q e ↔ Wo (forL g s ds e) Q := Iff.rfl
theorem wz_forN : Wo (forL g s [] e) Q ↔ Q (.nx e) := Iff.rfl
theorem wz_forC : Wo (forL g s (d :: ds) e) Q ↔ Wg (g d e) (bodQ s (fuN g s ds Q) Q) := by
  unfold Wg
  simp only [forL]
  cases g d e with
  | none => exact Iff.rfl
  | some e1 =>
    dsimp only
    unfold bodQ
    cases s e1 <;> exact Iff.rfl
def cuN (g : D → J.Env → Option J.Env) (c : J.Env → R Bool) (f : J.Env → R D) (vs : List Nat) (acc ds : List D) (QD : D → J.Env → Prop) (X : XQ) : J.Env → Prop := fun e => Wr (compL g c f vs acc ds e) QD X
def cuS (g : D → J.Env → Option J.Env) (c : J.Env → R Bool) (f : J.Env → R D) (vs : List Nat) (acc ds : List D) (QD : D → J.Env → Prop) (X : XQ) : D → J.Env → Prop := fun x e => Wr (compL g c f vs (acc ++ [x]) ds e) QD X
theorem wz_cuN : cuN g c f vs acc ds QD X e ↔ Wr (compL g c f vs acc ds e) QD X := Iff.rfl
theorem wz_cuS : cuS g c f vs acc ds QD X x e ↔ Wr (compL g c f vs (acc ++ [x]) ds e) QD X := Iff.rfl
theorem wz_cmpN : Wr (compL g c f vs acc [] e) QD X ↔ QD (.lst true acc) e := Iff.rfl
theorem wz_cmpC : Wr (compL g c f vs acc (d :: ds) e) QD X ↔ Wg (g d e) (cbQ c f vs (cuN g c f vs acc ds QD X) (cuS g c f vs acc ds QD X)) := by
  unfold Wg
  simp only [compL]
  cases g d e with
  | none => exact Iff.rfl
  | some e1 =>
    dsimp only
    unfold cbQ
    cases c e1 with
    | ok b e2 =>
      cases b with
      | true => dsimp only; unfold Wr; dsimp only; cases f e2 <;> exact Iff.rfl
      | false => exact Iff.rfl
    | ex => exact Iff.rfl
    | no => exact Iff.rfl
end
/-! indices -/
def ixK : Option D → Option D := fun o => match o with
  | some x => if x.noOwn then some x else none
  | none => none
theorem wa_ixL : ixF (.lst o xs) (.int i) = ixK (L2.atI xs i) := id rfl
theorem wa_ixT : ixF (.tup xs) (.int i) = ixK (L2.atI xs i) := id rfl
theorem wa_ixS : ixF (.scr xs) (.int i) = ixK (L2.atI xs i) := id rfl
theorem wa_ixK : Wd (ixK (some x)) P ↔ (x.noOwn = true ∧ P x) := by
  unfold Wd ixK
  dsimp only
  by_cases h : x.noOwn = true
  · rw [if_pos h]; exact ⟨fun z => ⟨h, z⟩, fun z => z.2⟩
  · rw [if_neg h]; exact ⟨fun z => False.elim z, fun z => absurd z.1 h⟩
theorem wa_ixdL : ixD (.lst o xs) (.int i) = L2.atI xs i := id rfl
theorem wa_ixdT : ixD (.tup xs) (.int i) = L2.atI xs i := id rfl
theorem wa_ixdS : ixD (.scr xs) (.int i) = L2.atI xs i := id rfl
theorem wa_at0 {α : Type} {x : α} {l : List α} : L2.atI (x :: l) 0 = some x := by
  unfold L2.atI ixN
  rw [if_pos (by decide), if_pos (by simp only [List.length_cons]; omega)]
  rfl
theorem wa_at1 {α : Type} {x y : α} {l : List α} : L2.atI (x :: y :: l) 1 = some y := by
  unfold L2.atI ixN
  rw [if_pos (by decide), if_pos (by simp only [List.length_cons]; omega)]
  rfl
theorem wa_at2 {α : Type} {x y z : α} {l : List α} : L2.atI (x :: y :: z :: l) 2 = some z := by
  unfold L2.atI ixN
  rw [if_pos (by decide), if_pos (by simp only [List.length_cons]; omega)]
  rfl
theorem wa_at3 {α : Type} {x y z u : α} {l : List α} : L2.atI (x :: y :: z :: u :: l) 3 = some u := by
  unfold L2.atI ixN
  rw [if_pos (by decide), if_pos (by simp only [List.length_cons]; omega)]
  rfl
theorem wa_atm1 {α : Type} {x : α} {l : List α} : L2.atI (l ++ [x]) (-1) = some x := by
  have hn : ixN (l ++ [x]).length (-1) = some l.length := by
    unfold ixN
    rw [if_neg (by decide), if_pos (by simp; omega)]
    simp
    omega
  unfold L2.atI
  rw [hn]
  simp
theorem wa_atm2 {α : Type} {x y : α} {l : List α} : L2.atI (l ++ [x, y]) (-2) = some x := by
  have hn : ixN (l ++ [x, y]).length (-2) = some l.length := by
    unfold ixN
    rw [if_neg (by decide), if_pos (by simp; omega)]
    simp
    omega
  unfold L2.atI
  rw [hn]
  simp
theorem wa_atR {α : Type} {f : Nat → α} (h0 : 0 ≤ i) (h1 : i < n) : L2.atI ((List.range n).map f) i = some (f i.toNat) := by
  unfold L2.atI ixN
  rw [if_pos h0, if_pos (by simp; omega)]
  have : i.toNat < n := by omega
  simp [this]
theorem wa_ixNp {n : Nat} (h0 : 0 ≤ i) (h1 : i < n) : ixN n i = some i.toNat := by
  unfold ixN
  rw [if_pos h0, if_pos h1]
/-! lists over a range -/
theorem wl_fzL : D.fzL ((List.range n).map f) = (List.range n).map fun i => (f i).fz := by
  induction List.range n with
  | nil => rfl
  | cons a l ih => simp only [List.map_cons, D.fzL, ih]
theorem wl_noL : D.noOwnL ((List.range n).map f) = (List.range n).all fun i => (f i).noOwn := by
  induction List.range n with
  | nil => rfl
  | cons a l ih => simp only [List.map_cons, D.noOwnL, ih, List.all_cons]
theorem wl_allT : ((List.range n).all fun _ => true) = true := by simp
theorem wl_fzA : D.fzL (xs ++ ys) = D.fzL xs ++ D.fzL ys := by
  induction xs with
  | nil => rfl
  | cons a l ih => simp only [List.cons_append, D.fzL, ih]
theorem wl_noA : D.noOwnL (xs ++ ys) = (D.noOwnL xs && D.noOwnL ys) := by
  induction xs with
  | nil => simp [D.noOwnL]
  | cons a l ih => simp only [List.cons_append, D.noOwnL, ih, Bool.and_assoc]
theorem wl_len {α : Type} {f : Nat → α} : ((List.range n).map f).length = n := by simp
theorem wl_rng : rngD lo n = (List.range n).map fun i => .int (lo + (i : Nat)) := id rfl
theorem wl_rg : rgD a b = (List.range (b - a).toNat).map fun i => .int (a + (i : Nat)) := id rfl
theorem wl_enum : enumD k ((List.range n).map f) = (List.range n).map fun i => .tup [.int (k + (i : Nat)), f i] := by
  unfold enumD
  rw [List.length_map, List.length_range]
  apply List.map_congr_left
  intro i hi
  rw [List.mem_range] at hi
  simp [hi]
theorem wl_zip : zipD ((List.range n).map f) ((List.range n).map g) = (List.range n).map fun i => .tup [f i, g i] := by
  unfold zipD
  simp [List.zipWith_map_left, List.zipWith_map_right]
theorem wl_pop1 {α : Type} {l : List α} {x : α} : (l ++ [x])[(l ++ [x]).length - 1]? = some x := by simp
theorem wl_pop2 {α : Type} {l : List α} {x y : α} : (l ++ [x, y])[(l ++ [x, y]).length - 1]? = some y := by simp
theorem wl_er1 {α : Type} {l : List α} {x : α} : (l ++ [x]).eraseIdx ((l ++ [x]).length - 1) = l := by
  rw [List.eraseIdx_append_of_length_le (by simp)]
  simp
theorem wl_er2 {α : Type} {l : List α} {x y : α} : (l ++ [x, y]).eraseIdx ((l ++ [x, y]).length - 1) = l ++ [x] := by
  rw [List.eraseIdx_append_of_length_le (by simp)]
  simp
theorem wl_lenA {α : Type} {l m : List α} : (l ++ m).length = l.length + m.length := by simp
theorem wl_lenM {α β : Type} {l : List α} {f : α → β} : (l.map f).length = l.length := by simp
theorem wa_slNK (h : D.noOwnL xs = true) : slD (.lst o xs) .non (.int k) = some (.lst true (cutD xs none (some k))) := by simp only [slD, prt, h, if_true]
theorem wa_slKN (h : D.noOwnL xs = true) : slD (.lst o xs) (.int k) .non = some (.lst true (cutD xs (some k) none)) := by simp only [slD, prt, h, if_true]
theorem wa_slKK (h : D.noOwnL xs = true) : slD (.lst o xs) (.int k) (.int j) = some (.lst true (cutD xs (some k) (some j))) := by simp only [slD, prt, h, if_true]
theorem wa_slSKK : slD (.scr xs) (.int k) (.int j) = some (.lst true (cutD xs (some k) (some j))) := by simp only [slD, prt]
theorem wa_slSNK : slD (.scr xs) .non (.int k) = some (.lst true (cutD xs none (some k))) := by simp only [slD, prt]
theorem wa_slSKN : slD (.scr xs) (.int k) .non = some (.lst true (cutD xs (some k) none)) := by simp only [slD, prt]
theorem wa_slTKN (h : D.noOwnL xs = true) : slD (.tup xs) (.int k) .non = some (.tup (cutD xs (some k) none)) := by simp only [slD, prt, h, if_true]
theorem wl_cutm1 {l : List D} {x : D} : cutD (l ++ [x]) none (some (-1)) = l := by
  have h1 : HT.sIx (l ++ [x]).length (l ++ [x]).length (some (-1)) = l.length := by
    simp [HT.sIx]
    omega
  have h0 : HT.sIx (l ++ [x]).length 0 none = 0 := rfl
  unfold cutD
  rw [h1, h0]
  simp
theorem wl_noR : D.noOwnL xs.reverse = D.noOwnL xs := by
  induction xs with
  | nil => rfl
  | cons a l ih => rw [List.reverse_cons, wl_noA, ih]; simp only [D.noOwnL, Bool.and_true]; exact Bool.and_comm _ _
theorem wl_fzR : D.fzL xs.reverse = (D.fzL xs).reverse := by
  induction xs with
  | nil => rfl
  | cons a l ih => rw [List.reverse_cons, wl_fzA, ih]; simp only [D.fzL, List.reverse_cons]
theorem wl_lenR {α : Type} {l : List α} : l.reverse.length = l.length := by simp
theorem wz_popQ1 {i : Nat} {env : J.Env} {QD : D → J.Env → Prop} : popQ i env QD (some (some (.lst true (xs ++ [x])))) ↔ QD x (env.set i (some (.lst true xs))) := by
  rw [wz_popQ, wl_pop1, wz_poR, wl_er1]
theorem wz_popQ2 {i : Nat} {env : J.Env} {QD : D → J.Env → Prop} : popQ i env QD (some (some (.lst true (xs ++ [d, x])))) ↔ QD x (env.set i (some (.lst true (xs ++ [d])))) := by
  rw [wz_popQ, wl_pop2, wz_poR, wl_er2]
theorem cut_ints {l : List Int} {a b : Option Int} : ∃ l' : List Int, cutD (l.map D.int) a b = l'.map D.int ∧ l'.length ≤ l.length ∧ ∀ z ∈ l', z ∈ l := by
  unfold cutD
  refine ⟨(l.drop (HT.sIx (l.map D.int).length 0 a)).take (HT.sIx (l.map D.int).length (l.map D.int).length b - HT.sIx (l.map D.int).length 0 a), by rw [List.map_take, List.map_drop], by simp; omega, fun z hz => List.mem_of_mem_drop (List.mem_of_mem_take hz)⟩
theorem wl_enumN {k : Int} : enumD k [] = [] := id rfl
theorem wl_enumC {k : Int} {x : D} {xs : List D} : enumD k (x :: xs) = .tup [.int k, x] :: enumD (k + 1) xs := by
  unfold enumD
  rw [List.length_cons, List.range_succ_eq_map, List.map_cons, List.map_map]
  congr 1
  · simp
  · apply List.map_congr_left
    intro i _
    simp only [Function.comp, List.getD_cons_succ]
    congr 3
    omega
theorem wl_zipN {ys : List D} : zipD [] ys = [] := id rfl
theorem wl_zipC {x y : D} {xs ys : List D} : zipD (x :: xs) (y :: ys) = .tup [x, y] :: zipD xs ys := id rfl
theorem W_forP0 {α : Type} {f : α → D} {g : D → J.Env → Option J.Env} {s : J.Env → Out} {Q : Out → Prop} (I : List α → J.Env → Prop) (l0 : List α) : ∀ (l done : List α) (e : J.Env), l0 = done ++ l → I done e → (∀ done a rest e, l0 = done ++ a :: rest → I done e → Wg (g (f a) e) (bodQ s (I (done ++ [a])) Q)) → (∀ e, I l0 e → Q (.nx e)) → Wo (forL g s (l.map f) e) Q
  | [], done, e, hd, h0, _, hq => hq e (by rw [hd, List.append_nil]; exact h0)
  | a :: l, done, e, hd, h0, hs, hq => by
    have h1 := hs done a l e hd h0
    have ih := fun e2 (h : I (done ++ [a]) e2) => W_forP0 I l0 l (done ++ [a]) e2 (by rw [hd, List.append_assoc]; rfl) h hs hq
    rw [List.map_cons, wz_forC]
    refine h1.mono fun e1 h2 => ?_
    refine Wo.mono h2 fun o h3 => ?_
    cases o with
    | nx e => exact ih e h3
    | ct e => exact ih e h3
    | bk e => exact h3
    | rt r e => exact h3
    | ex c ns vs e => exact h3
    | no => exact h3
/-- a loop over a list: what holds of what is behind -/
theorem W_forP {α : Type} {f : α → D} {g : D → J.Env → Option J.Env} {s : J.Env → Out} {Q : Out → Prop} (I : List α → J.Env → Prop) {l : List α} {e : J.Env} (h0 : I [] e) (hs : ∀ done a rest e, l = done ++ a :: rest → I done e → Wg (g (f a) e) (bodQ s (I (done ++ [a])) Q)) (hq : ∀ e, I l e → Q (.nx e)) : Wo (forL g s (l.map f) e) Q :=
  W_forP0 I l l [] e rfl h0 hs hq
/-- from a run said for every end to the exception it ends with -/
theorem ex_of_Wr {α : Type} {r : R α} {c : Nat} {ns : List Str} {ds : List D} {e : J.Env} (h : ∀ X : XQ, X c ns ds e → Wr r (fun _ _ => False) X) : r = .ex c ns ds e := by
  have h1 := h (fun c' ns' ds' e' => c' = c ∧ ns' = ns ∧ ds' = ds ∧ e' = e) ⟨rfl, rfl, rfl, rfl⟩
  cases r with
  | ok a e => exact False.elim h1
  | no => exact False.elim h1
  | ex c' ns' ds' e' =>
    obtain ⟨rfl, rfl, rfl, rfl⟩ := h1
    rfl
theorem take_split {α : Type} {l : List α} {i : Nat} {a : α} (h : l[i]? = some a) : l = l.take i ++ a :: l.drop (i + 1) ∧ l.take (i + 1) = l.take i ++ [a] := by
  obtain ⟨hi, rfl⟩ := List.getElem?_eq_some_iff.mp h
  refine ⟨?_, (List.take_append_getElem hi).symm⟩
  have := List.take_append_drop i l
  rw [List.drop_eq_getElem_cons hi] at this
  exact this.symm
theorem W_compP {α : Type} {f : α → D} {g : D → J.Env → Option J.Env} {cb : J.Env → R Bool} {fx : J.Env → R D} {vs : List Nat} {QD : D → J.Env → Prop} {X : XQ} {e : J.Env} {l : List α} (I : List α → List D → J.Env → Prop) (h0 : I [] [] e) (hs : ∀ done a rest acc e, l = done ++ a :: rest → I done acc e → Wg (g (f a) e) (cbQ cb fx vs (I (done ++ [a]) acc) (fun x => I (done ++ [a]) (acc ++ [x])))) (hq : ∀ acc e, I l acc e → QD (.lst true acc) e) : Wr (compL g cb fx vs [] (l.map f) e) QD X := by
  refine W_comp (fun i acc e => I (l.take i) acc e) (by simpa using h0) ?_ ?_
  · intro i d acc e hd hI
    rw [List.getElem?_map, Option.map_eq_some_iff] at hd
    obtain ⟨a, ha, rfl⟩ := hd
    obtain ⟨h1, h2⟩ := take_split ha
    have := hs _ a _ acc e h1 hI
    rw [h2]
    exact this
  · intro acc e h
    rw [List.length_map, List.take_length] at h
    exact hq acc e h
end
/-! xs.pop(k) -/
section
variable {i : Nat} {f : J.Env → R D} {env e : J.Env} {QD : D → J.Env → Prop} {X : XQ} {xs : List D} {n : Int} {j : Nat} {x : D}
def pkS (i : Nat) (xs : List D) (e : J.Env) (QD : D → J.Env → Prop) (j : Nat) : Option D → Prop := fun o => match o with
  | some x => QD x (e.set i (some (.lst true (xs.eraseIdx j))))
  | none => False
def pkR (i : Nat) (xs : List D) (e : J.Env) (QD : D → J.Env → Prop) : Option Nat → Prop := fun o => match o with
  | some j => pkS i xs e QD j xs[j]?
  | none => False
def pkQ (i : Nat) (n : Int) (e : J.Env) (QD : D → J.Env → Prop) : Option (Option D) → Prop := fun o => match o with
  | some (some (.lst true xs)) => (-(2 ^ 63) ≤ n ∧ n < 2 ^ 63) ∧ pkR i xs e QD (ixN xs.length n)
  | _ => False
def pkP (i : Nat) (QD : D → J.Env → Prop) : D → J.Env → Prop := fun k e => match k with
  | .int n => pkQ i n e QD e[i]?
  | _ => False
def pkO (i : Nat) (f : J.Env → R D) (env : J.Env) (QD : D → J.Env → Prop) (X : XQ) : Option (Option D) → Prop := fun o => match o with
  | some (some (.lst true _)) => Wr (f env) (pkP i QD) X
  | _ => False
theorem wz_pk : Wr (popKF i f env) QD X ↔ pkO i f env QD X env[i]? := by
  unfold popKF pkO
  cases env[i]? with
  | none => exact Iff.rfl
  | some y => cases y with
    | none => exact Iff.rfl
    | some y =>
      cases y <;> try exact Iff.rfl
      rename_i o ys
      cases o with
      | false => exact Iff.rfl
      | true =>
        dsimp only
        generalize f env = z
        cases z with
        | ok k e =>
          have e1 : Wr (R.ok k e) (pkP i QD) X ↔ pkP i QD k e := Iff.rfl
          rw [e1]
          simp only [R.bind]
          unfold pkP
          cases k <;> try exact Iff.rfl
          rename_i n
          dsimp only
          unfold pkQ
          cases e[i]? with
          | none => exact Iff.rfl
          | some y => cases y with
            | none => exact Iff.rfl
            | some y =>
              cases y <;> try exact Iff.rfl
              rename_i o xs
              cases o with
              | false => exact Iff.rfl
              | true =>
                dsimp only
                by_cases h : -(2 ^ 63) ≤ n ∧ n < 2 ^ 63
                · rw [if_pos h]
                  unfold pkR
                  cases ixN xs.length n with
                  | none => exact ⟨fun z => False.elim z, fun z => z.2⟩
                  | some j =>
                    dsimp only
                    unfold pkS
                    cases xs[j]? with
                    | none => exact ⟨fun z => False.elim z, fun z => z.2⟩
                    | some x => exact ⟨fun z => ⟨h, z⟩, fun z => z.2⟩
                · rw [if_neg h]; exact ⟨fun z => False.elim z, fun z => absurd z.1 h⟩
        | ex => exact Iff.rfl
        | no => exact Iff.rfl
theorem wz_pkO {ys : List D} : pkO i f env QD X (some (some (.lst true ys))) ↔ Wr (f env) (pkP i QD) X := Iff.rfl
theorem wz_pkP : pkP i QD (.int n) e ↔ pkQ i n e QD e[i]? := Iff.rfl
theorem wz_pkQ (h0 : -9223372036854775808 ≤ n) (h1 : n < 9223372036854775808) : pkQ i n e QD (some (some (.lst true xs))) ↔ pkR i xs e QD (ixN xs.length n) := ⟨fun z => z.2, fun z => ⟨⟨by omega, by omega⟩, z⟩⟩
theorem wz_pkR : pkR i xs e QD (some j) ↔ pkS i xs e QD j xs[j]? := Iff.rfl
theorem wz_pkS : pkS i xs e QD j (some x) ↔ QD x (e.set i (some (.lst true (xs.eraseIdx j)))) := Iff.rfl
theorem wl_neC {x : D} {xs : List D} : (true != (x :: xs).isEmpty) = true := id rfl
theorem wl_neN : (true != ([] : List D).isEmpty) = false := id rfl
theorem wl_eqC {x : D} {xs : List D} : (false != (x :: xs).isEmpty) = false := id rfl
theorem wl_eqN : (false != ([] : List D).isEmpty) = true := id rfl
end
end J
/-! sorted(set(xs)), len(set(xs)): lists of pairs of ints, fewer than 64 -/
namespace J
open PySem L2 PySem.Spec PyProof.Rows
/-! ### as rules of the layer -/
/-! ### pure words -/
def insP (p : Int × Int) : List (Int × Int) → List (Int × Int)
  | [] => [p]
  | q :: l => if p = q then q :: l else if SrtO.lexB p q = true then p :: q :: l else q :: insP p l
def srtP : List (Int × Int) → List (Int × Int)
  | [] => []
  | p :: l => insP p (srtP l)
def SS (l : List (Int × Int)) : Prop := l.Pairwise fun p q => SrtO.lexB p q = true
theorem lexB_tri {p q : Int × Int} (h : ¬ p = q) (h2 : ¬ SrtO.lexB p q = true) : SrtO.lexB q p = true := by
  rw [SrtO.lexB_iff] at h2 ⊢
  have h3 : ¬ (p.1 = q.1 ∧ p.2 = q.2) := fun e => h (Prod.ext e.1 e.2)
  omega
theorem lexB_trans {p q r : Int × Int} (h : SrtO.lexB p q = true) (h2 : SrtO.lexB q r = true) : SrtO.lexB p r = true := by
  rw [SrtO.lexB_iff] at *
  omega
theorem lexB_irr {p : Int × Int} : ¬ SrtO.lexB p p = true := by
  rw [SrtO.lexB_iff]
  omega
theorem insP_mem {p x : Int × Int} : ∀ {l : List (Int × Int)}, x ∈ insP p l ↔ x = p ∨ x ∈ l
  | [] => by simp [insP]
  | q :: l => by
    unfold insP
    split
    · rename_i h; subst h; simp
    · split
      · simp
      · simp only [List.mem_cons, insP_mem (l := l)]
        constructor
        · rintro (h | h | h) <;> simp [h]
        · rintro (h | h | h) <;> simp [h]
theorem srtP_mem {x : Int × Int} : ∀ {l : List (Int × Int)}, x ∈ srtP l ↔ x ∈ l
  | [] => by simp [srtP]
  | p :: l => by rw [srtP, insP_mem, srtP_mem, List.mem_cons]
theorem insP_ss {p : Int × Int} : ∀ {l : List (Int × Int)}, SS l → SS (insP p l)
  | [], _ => List.pairwise_singleton _ _
  | q :: l, h => by
    unfold insP
    have h1 := List.pairwise_cons.mp h
    split
    · exact h
    · rename_i hpq
      split
      · rename_i hl
        refine List.pairwise_cons.mpr ⟨fun x hx => ?_, h⟩
        rcases List.mem_cons.mp hx with rfl | hx
        · exact hl
        · exact lexB_trans hl (h1.1 x hx)
      · rename_i hl
        refine List.pairwise_cons.mpr ⟨fun x hx => ?_, insP_ss h1.2⟩
        rcases insP_mem.mp hx with rfl | hx
        · exact lexB_tri hpq hl
        · exact h1.1 x hx
theorem srtP_ss : ∀ {l : List (Int × Int)}, SS (srtP l)
  | [] => List.Pairwise.nil
  | p :: l => insP_ss srtP_ss
theorem ss_nodup {l : List (Int × Int)} (h : SS l) : l.Nodup := List.Pairwise.imp (fun {a b} h (e : a = b) => by subst e; exact lexB_irr h) h
/-! len(set(ints)) -/
theorem fm_nodup (val : Nat → Int) : ∀ i, (firstMet val i).Nodup
  | 0 => List.nodup_nil
  | i + 1 => by
    rw [firstMet_succ]
    unfold step_dedup
    split
    · exact fm_nodup val i
    · rename_i h
      refine List.nodup_append.mpr ⟨fm_nodup val i, List.pairwise_singleton _ _, fun x hx y hy e => ?_⟩
      rw [List.mem_singleton] at hy
      subst hy
      subst e
      exact h (List.any_eq_true.mpr ⟨_, hx, by simp⟩)
theorem fm_mem (ns : List Int) (k : Int) : k ∈ firstMet (fun i => ns.getD i 0) ns.length ↔ k ∈ ns := by
  have h := firstMet_any (fun i => ns.getD i 0) ns.length k
  have e : (List.range ns.length).map (fun i => ns.getD i 0) = ns := by
    apply List.ext_getElem?
    intro i
    by_cases hi : i < ns.length
    · simp [hi]
    · rw [List.getElem?_eq_none (by simp; omega), List.getElem?_eq_none (by omega)]
  rw [e] at h
  constructor
  · intro hk
    have : (firstMet (fun i => ns.getD i 0) ns.length).any (· == k) = true := List.any_eq_true.mpr ⟨k, hk, by simp⟩
    rw [h] at this
    obtain ⟨x, hx, e⟩ := List.any_eq_true.mp this
    rwa [← beq_iff_eq.mp e]
  · intro hk
    have : ns.any (· == k) = true := List.any_eq_true.mpr ⟨k, hk, by simp⟩
    rw [← h] at this
    obtain ⟨x, hx, e⟩ := List.any_eq_true.mp this
    rwa [← beq_iff_eq.mp e]
def dedI (ns : List Int) : Nat := (srtP (ns.map fun n => (n, 0))).length
theorem fm_len (ns : List Int) : (firstMet (fun i => ns.getD i 0) ns.length).length = dedI ns := by
  unfold dedI
  have h : (srtP (ns.map fun n => (n, 0))).Perm ((firstMet (fun i => ns.getD i 0) ns.length).map fun n => (n, (0 : Int))) := by
    refine (List.perm_ext_iff_of_nodup (ss_nodup srtP_ss) ?_).mpr fun x => ?_
    · exact List.pairwise_map.mpr ((fm_nodup _ _).imp fun ne e => ne (by simpa using e))
    · rw [srtP_mem]
      constructor
      · intro hx
        obtain ⟨n, hn, rfl⟩ := List.mem_map.mp hx
        exact List.mem_map.mpr ⟨n, (fm_mem ns n).mpr hn, rfl⟩
      · intro hx
        obtain ⟨n, hn, rfl⟩ := List.mem_map.mp hx
        exact List.mem_map.mpr ⟨n, (fm_mem ns n).mp hn, rfl⟩
  rw [h.length_eq, List.length_map]
def rLenSetI (K : PySem.W.Frag) : List V → Hp → VK → Prop := fun vs H Q => ∃ (l : Addr) (ns : List Int), vs = [V.ref l] ∧ SqL K H l (ns.map V.int) ∧ ns.length < 1000 ∧ Q (.int (dedI ns)) H
section
variable {X : Cx}
theorem pe_lenSetN {b : Expr} {tb : TE} {p p2 q pos : Pos} (calm : X.calm = true) (gl : Gl X "len") (ml : X.mg "len" = none) (gs : Gl X "set") (ms : X.mg "set" = none) (hb : PE X b tb)
    (plain : starEach [b] X.env = (false, eval b X.env) :: starEach [] X.env := by rfl) : PE X (.Call (.Name "len" p) [.Call (.Name "set" p2) [b] [] q] [] pos) (tCB (rLenSetI X.K) (tCons tb tNil)) := by
  constructor
  intro pins s σ H Q J h
  refine Call_ (ld_blt J gl ml PySem.boot_len (PyProof.Rows.callWith_builtin1 (PyProof.Rows.args_cons ?_ rfl) rfl rfl))
  refine Call_ (ld_blt J gs ms PyProof.Rows.boot_set (PyProof.Rows.callWith_type1 (PyProof.Rows.args_cons (thn (hb.run pins s σ H _ J h) fun u s1 ⟨x, H1, J1, ru, q1⟩ => PyProof.Rows.args_nil ?_) plain) plain rfl))
  obtain ⟨l, ns, e, hq, few, q1⟩ := q1
  injection e with e _
  subst e
  cases ru
  obtain ⟨its, rv, pl, -⟩ := J1.list hq
  have len : its.toArray.size = ns.length := by rw [List.size_toArray, ← rv.length, List.length_map]
  refine call_set_list (J1.ok.hd calm) pl.isList (ns := ns) (by simpa using rv.ints) (by unfold scanBound; omega) fun h2 tk st keep => ?_
  rw [len, fm_len] at st
  refine PyProof.Rows.args_nil ?_
  obtain ⟨o, es, ep, t, ho, hxs, hdt, -, -, -, fits, cnt⟩ := st
  have J2 : Inv X pins σ H1 { s1 with heap := h2, toks := tk } := J1.kept fun b o e => keep b o (Heap.lt_size e) e
  have small : dedI ns < 2 ^ 62 := by
    rw [← fm_len]
    have := firstMet_length_le (fun i => ns.getD i 0) ns.length
    omega
  exact call_len_set ho hxs hdt fits (by rw [cnt]; omega) ⟨.int (dedI ns), H1, J2.tok _, ⟨_, by rw [cnt]⟩, q1⟩
end
def lenSetI (d : D) : Option D := match d with
  | .lst _ ds => (match intsD ds with
    | some ns => if ns.length < 1000 then some (.int (dedI ns)) else none
    | none => none)
  | _ => none
section
variable {K : PySem.W.Frag} {C : CT} {H : Hp}
theorem ints_V {M : Addr → Prop} : ∀ {vs : List V} {ds : List D} {F : List Addr} {ns : List Int}, RepL K C M H vs ds F → intsD ds = some ns → vs = ns.map V.int
  | _, _, _, ns, .nil, h => by cases h; rfl
  | _, _, _, ns, .cons (d := d) a t, h => by
    cases d <;> simp only [intsD, reduceCtorEq] at h
    obtain ⟨ns2, h2, rfl⟩ := Option.map_eq_some_iff.mp h
    cases a
    rw [ints_V t h2]
    rfl
theorem p_lenSetI : Op1 K C (fun v H Q => rLenSetI K [v] H Q) lenSetI := by
  intro M0 σ env F H v d x Q rl eg q
  obtain ⟨F4, r4, s4⟩ := rl.drop
  obtain ⟨F1, F2, eF, hv, -⟩ := rl.pop
  cases d <;> simp only [lenSetI, reduceCtorEq] at eg
  case lst o ds =>
    obtain ⟨a, vs, G, rfl, ha, t, -⟩ := hv.lstR
    cases hp : intsD ds with
    | none => rw [hp] at eg; cases eg
    | some ns =>
      rw [hp] at eg
      dsimp only at eg
      split at eg
      · rename_i hlen
        obtain rfl := Option.some.inj eg
        obtain rfl := ints_V t hp
        exact ⟨a, ns, rfl, .of ha, hlen, q _ _ F4 (r4.data (.int _)) (.subl s4)⟩
      · cases eg
def notInLD (d e : D) : Option D := match e with
  | .lst _ ds => if shp d && shp e then some (.bl (!(D.toPL ds).any fun z => PyData.eqv z d.toP)) else none
  | _ => none
theorem p_notInL : Op2 K C (rNotInD K) notInLD := by
  intro M0 σ env F H v w d e x Q r eg q
  obtain ⟨F1, F2, F3, eF, hv, hw, _⟩ := r.two
  unfold notInLD at eg
  split at eg
  · split at eg
    · rename_i hs
      simp only [shp, Bool.and_eq_true] at hs
      obtain rfl := Option.some.inj eg
      exact ⟨_, _, rep_dp hv hs.1.1, rep_dp hw hs.2.1, hs.1.2, hs.2.2, Rel.sc2 r (.bl _) q⟩
    · cases eg
  · cases eg
end
theorem room65 {k : Nat} {A : Around} (r : Room k A) : A.units + 65 < cLine := by have := r.un; omega
end J
/-! dicts as values: displays -/
namespace J
open PySem L2 PySem.Spec PyProof.Rows
def keyD : D → Option Key
  | .int i => some (.inl i)
  | .str s => some (.inr s)
  | _ => none
/-- {} -/
def dnewF : J.Env → R D := fun env => .ok (.dK true [] []) env
/-- {k: v} -/
def dispF (f g : J.Env → R D) : J.Env → R D := fun env => match f env with
  | .ok d e => (match keyD d with
    | some k => (match g e with
      | .ok x e2 => if x.noOwn then .ok (.dK true [k] [x]) e2 else .no
      | _ => .no)
    | none => .no)
  | _ => .no
section
variable {K : PySem.W.Frag} {C : CT} {W : Wish} {M0 : Addr → Prop} {H : Hp} {σ : L2.St} {env : J.Env} {F : List Addr} {p : Addr}
theorem i_dnew {Q : VK} (h : tOf K C W dnewF σ H Q) : tDNewK σ H Q := by
  obtain ⟨M0, env, F, r, h⟩ := h
  intro p np
  obtain ⟨r2, s2⟩ := Rel.new (o := .dK []) (x := .dK true [] []) r np fun M' _ => .dKo (ks := []) (vs := []) upd_same rfl .nil
  exact h _ _ _ r2 s2
end
section
variable {X : Cx} {C : CT} {W : WX} {pos : Pos} {k v : Expr} {f g : J.Env → R D}
theorem z_dnew : PE X (.Dict [] [] pos) (T_ X C W dnewF) := pe_dnewK.imp fun _ _ _ h => i_dnew h
end
end J
/-! a dict is equal to nothing of another kind -/
namespace PySem.SeqAt
open AutoSeq1 (wpAny_loadPart')
open MeetsSeq PySem.W
theorem dict_eq_declines_none (l : Addr) (es : Array DictEntry) (ep : Nat) (dd : Option Addr) (sl : Array (Option Value)) :
    Meets (Builtin.«dict.__eq__» ⟨[.ref l, .none], []⟩) (fun _ R s => s.heap.get? l = some { cls := .type "dict", dict := dd, data := .dict es ep, slots := sl } ∧ R (.ok (.ret .notImplemented)) s) :=
  .of_wp fun prog w A R s h => by obtain ⟨hp, g, d, tk, os⟩ := s; obtain ⟨hl, h⟩ := h; have f1 := F.sub_NoneType_dict; wp_walk using wpAny_loadPart' hl; exact ⟨_, rfl, h⟩
theorem none_eq_declines_dict (l : Addr) (es : Array DictEntry) (ep : Nat) (dd : Option Addr) (sl : Array (Option Value)) :
    Meets (Builtin.«NoneType.__eq__» ⟨[.none, .ref l], []⟩) (fun _ R s => s.heap.get? l = some { cls := .type "dict", dict := dd, data := .dict es ep, slots := sl } ∧ R (.ok (.ret .notImplemented)) s) :=
  .of_wp fun prog w A R s h => by obtain ⟨hp, g, d, tk, os⟩ := s; obtain ⟨hl, h⟩ := h; wp_walk using wpAny_loadPart' hl, wpAny_load hl; exact ⟨_, rfl, h⟩
theorem dict_eq_declines_bool (l : Addr) (es : Array DictEntry) (ep : Nat) (dd : Option Addr) (sl : Array (Option Value)) (b : Bool) :
    Meets (Builtin.«dict.__eq__» ⟨[.ref l, (.bool b)], []⟩) (fun _ R s => s.heap.get? l = some { cls := .type "dict", dict := dd, data := .dict es ep, slots := sl } ∧ R (.ok (.ret .notImplemented)) s) :=
  .of_wp fun prog w A R s h => by obtain ⟨hp, g, d, tk, os⟩ := s; obtain ⟨hl, h⟩ := h; have f1 := F.sub_bool_dict; wp_walk using wpAny_loadPart' hl; exact ⟨_, rfl, h⟩
theorem bool_eq_declines_dict (l : Addr) (es : Array DictEntry) (ep : Nat) (dd : Option Addr) (sl : Array (Option Value)) (b : Bool) :
    Meets (Builtin.«int.__eq__» ⟨[(.bool b), .ref l], []⟩) (fun _ R s => s.heap.get? l = some { cls := .type "dict", dict := dd, data := .dict es ep, slots := sl } ∧ R (.ok (.ret .notImplemented)) s) :=
  .of_wp fun prog w A R s h => by obtain ⟨hp, g, d, tk, os⟩ := s; obtain ⟨hl, h⟩ := h; wp_walk using wpAny_loadPart' hl, wpAny_load hl; exact ⟨_, rfl, h⟩
theorem dict_eq_declines_int (l : Addr) (es : Array DictEntry) (ep : Nat) (dd : Option Addr) (sl : Array (Option Value)) (b : Int) (u : Tok) :
    Meets (Builtin.«dict.__eq__» ⟨[.ref l, (.int b u)], []⟩) (fun _ R s => s.heap.get? l = some { cls := .type "dict", dict := dd, data := .dict es ep, slots := sl } ∧ R (.ok (.ret .notImplemented)) s) :=
  .of_wp fun prog w A R s h => by obtain ⟨hp, g, d, tk, os⟩ := s; obtain ⟨hl, h⟩ := h; have f1 := F.sub_int_dict; wp_walk using wpAny_loadPart' hl; exact ⟨_, rfl, h⟩
theorem int_eq_declines_dict (l : Addr) (es : Array DictEntry) (ep : Nat) (dd : Option Addr) (sl : Array (Option Value)) (b : Int) (u : Tok) :
    Meets (Builtin.«int.__eq__» ⟨[(.int b u), .ref l], []⟩) (fun _ R s => s.heap.get? l = some { cls := .type "dict", dict := dd, data := .dict es ep, slots := sl } ∧ R (.ok (.ret .notImplemented)) s) :=
  .of_wp fun prog w A R s h => by obtain ⟨hp, g, d, tk, os⟩ := s; obtain ⟨hl, h⟩ := h; wp_walk using wpAny_loadPart' hl, wpAny_load hl; exact ⟨_, rfl, h⟩
theorem dict_eq_declines_str (l : Addr) (es : Array DictEntry) (ep : Nat) (dd : Option Addr) (sl : Array (Option Value)) (b : Str) (u : Tok) :
    Meets (Builtin.«dict.__eq__» ⟨[.ref l, (.str b u)], []⟩) (fun _ R s => s.heap.get? l = some { cls := .type "dict", dict := dd, data := .dict es ep, slots := sl } ∧ R (.ok (.ret .notImplemented)) s) :=
  .of_wp fun prog w A R s h => by obtain ⟨hp, g, d, tk, os⟩ := s; obtain ⟨hl, h⟩ := h; have f1 := F.sub_str_dict; wp_walk using wpAny_loadPart' hl; exact ⟨_, rfl, h⟩
theorem str_eq_declines_dict (l : Addr) (es : Array DictEntry) (ep : Nat) (dd : Option Addr) (sl : Array (Option Value)) (b : Str) (u : Tok) :
    Meets (Builtin.«str.__eq__» ⟨[(.str b u), .ref l], []⟩) (fun _ R s => s.heap.get? l = some { cls := .type "dict", dict := dd, data := .dict es ep, slots := sl } ∧ R (.ok (.ret .notImplemented)) s) :=
  .of_wp fun prog w A R s h => by obtain ⟨hp, g, d, tk, os⟩ := s; obtain ⟨hl, h⟩ := h; wp_walk using wpAny_loadPart' hl, wpAny_load hl; exact ⟨_, rfl, h⟩
theorem dict_eq_declines_list (l b : Addr) (es : Array DictEntry) (ep : Nat) (items : Array Value) (n : Nat) (dd dd2 : Option Addr) (sl sl2 : Array (Option Value)) :
    Meets (Builtin.«dict.__eq__» ⟨[.ref l, .ref b], []⟩) (fun _ R s => s.heap.get? l = some { cls := .type "dict", dict := dd, data := .dict es ep, slots := sl } ∧ s.heap.get? b = some { cls := .type "list", dict := dd2, data := .seq items n, slots := sl2 } ∧ R (.ok (.ret .notImplemented)) s) :=
  .of_wp fun prog w A R s h => by obtain ⟨hp, g, d, tk, os⟩ := s; obtain ⟨hl, hb, h⟩ := h; have f1 := F.sub_list_dict; wp_walk using wpAny_loadPart' hl, wpAny_loadPart' hb; exact ⟨_, rfl, h⟩
theorem list_eq_declines_dict (l b : Addr) (es : Array DictEntry) (ep : Nat) (items : Array Value) (n : Nat) (dd dd2 : Option Addr) (sl sl2 : Array (Option Value)) :
    Meets (Builtin.«list.__eq__» ⟨[.ref b, .ref l], []⟩) (fun _ R s => s.heap.get? l = some { cls := .type "dict", dict := dd, data := .dict es ep, slots := sl } ∧ s.heap.get? b = some { cls := .type "list", dict := dd2, data := .seq items n, slots := sl2 } ∧ R (.ok (.ret .notImplemented)) s) :=
  .of_wp fun prog w A R s h => by obtain ⟨hp, g, d, tk, os⟩ := s; obtain ⟨hl, hb, h⟩ := h; have f1 := F.sub_dict_list; wp_walk using wpAny_loadPart' hl, wpAny_loadPart' hb; exact ⟨_, rfl, h⟩
theorem dict_eq_declines_tuple (l b : Addr) (es : Array DictEntry) (ep : Nat) (items : Array Value) (n : Nat) (dd dd2 : Option Addr) (sl sl2 : Array (Option Value)) :
    Meets (Builtin.«dict.__eq__» ⟨[.ref l, .ref b], []⟩) (fun _ R s => s.heap.get? l = some { cls := .type "dict", dict := dd, data := .dict es ep, slots := sl } ∧ s.heap.get? b = some { cls := .type "tuple", dict := dd2, data := .seq items n, slots := sl2 } ∧ R (.ok (.ret .notImplemented)) s) :=
  .of_wp fun prog w A R s h => by obtain ⟨hp, g, d, tk, os⟩ := s; obtain ⟨hl, hb, h⟩ := h; have f1 := F.sub_tuple_dict; wp_walk using wpAny_loadPart' hl, wpAny_loadPart' hb; exact ⟨_, rfl, h⟩
theorem tuple_eq_declines_dict (l b : Addr) (es : Array DictEntry) (ep : Nat) (items : Array Value) (n : Nat) (dd dd2 : Option Addr) (sl sl2 : Array (Option Value)) :
    Meets (Builtin.«tuple.__eq__» ⟨[.ref b, .ref l], []⟩) (fun _ R s => s.heap.get? l = some { cls := .type "dict", dict := dd, data := .dict es ep, slots := sl } ∧ s.heap.get? b = some { cls := .type "tuple", dict := dd2, data := .seq items n, slots := sl2 } ∧ R (.ok (.ret .notImplemented)) s) :=
  .of_wp fun prog w A R s h => by obtain ⟨hp, g, d, tk, os⟩ := s; obtain ⟨hl, hb, h⟩ := h; have f1 := F.sub_dict_tuple; wp_walk using wpAny_loadPart' hl, wpAny_loadPart' hb; exact ⟨_, rfl, h⟩
section
variable {A : Around} {s : Shared} {l : Addr} {es : Array DictEntry} {ep : Nat}
theorem RcAt.dict_none (hl : s.heap.DictRaw l es ep) (hu : A.units < cLine) : RcAt A s (.ref l) .none false := fun prog w E Q h => by
  obtain ⟨⟨cls, dd, data, sl⟩, ho, ⟨hc, hdd, hsl⟩, hd⟩ := id hl
  simp only at hc hd hdd hsl
  subst hc hd hdd hsl
  exact rc_eq_decline_or (k := false) ⟨_, ho, rfl⟩ rfl (by decide) F.sub_NoneType_dict F.slot_dict_eq F.slot_NoneType_eq_refl
    (fun _ hq => call_meets F.slot_dict_eq ⟨_, ho, rfl⟩ F.entry_dict_eq (F.args_dict_eq_2 _ _) (dict_eq_declines_none l es ep none #[]) ⟨ho, hq⟩)
    (fun _ hq => call_meets F.slot_NoneType_eq_refl rfl F.entry_NoneType_eq (F.args_NoneType_eq_2 _ _) (none_eq_declines_dict l es ep none #[]) ⟨ho, hq⟩)
    (fun _ hq => wpAny_of_eq (rfl : isSame (.ref l) .none = pure false) hq) (.inr hu) h
theorem EqAt.dict_none (hl : s.heap.DictRaw l es ep) (hu : A.units < cLine) : EqAt A s (.ref l) .none false := fun prog w E Q h => by
  unfold eqBool
  refine wpAny_holding ?_
  refine wpAny_ite_split (fun hab => absurd (eq_of_beq hab) nofun) (fun _ => ?_)
  exact wpAny_bind (RcAt.dict_none hl hu prog w E _ (wpAny_truthy_bool h))
theorem RcAt.none_dict (hl : s.heap.DictRaw l es ep) (hu : A.units < cLine) : RcAt A s .none (.ref l) false := fun prog w E Q h => by
  obtain ⟨⟨cls, dd, data, sl⟩, ho, ⟨hc, hdd, hsl⟩, hd⟩ := id hl
  simp only at hc hd hdd hsl
  subst hc hd hdd hsl
  exact rc_eq_decline_or (k := false) rfl ⟨_, ho, rfl⟩ (by decide) F.sub_dict_NoneType F.slot_NoneType_eq F.slot_dict_eq_refl
    (fun _ hq => call_meets F.slot_NoneType_eq rfl F.entry_NoneType_eq (F.args_NoneType_eq_2 _ _) (none_eq_declines_dict l es ep none #[]) ⟨ho, hq⟩)
    (fun _ hq => call_meets F.slot_dict_eq_refl ⟨_, ho, rfl⟩ F.entry_dict_eq (F.args_dict_eq_2 _ _) (dict_eq_declines_none l es ep none #[]) ⟨ho, hq⟩)
    (fun _ hq => wpAny_of_eq (rfl : isSame .none (.ref l) = pure false) hq) (.inr hu) h
theorem EqAt.none_dict (hl : s.heap.DictRaw l es ep) (hu : A.units < cLine) : EqAt A s .none (.ref l) false := fun prog w E Q h => by
  unfold eqBool
  refine wpAny_holding ?_
  refine wpAny_ite_split (fun hab => absurd (eq_of_beq hab) nofun) (fun _ => ?_)
  exact wpAny_bind (RcAt.none_dict hl hu prog w E _ (wpAny_truthy_bool h))
theorem RcAt.dict_bool (b : Bool) (hl : s.heap.DictRaw l es ep) (hu : A.units < cLine) : RcAt A s (.ref l) (.bool b) false := fun prog w E Q h => by
  obtain ⟨⟨cls, dd, data, sl⟩, ho, ⟨hc, hdd, hsl⟩, hd⟩ := id hl
  simp only at hc hd hdd hsl
  subst hc hd hdd hsl
  exact rc_eq_decline_or (k := false) ⟨_, ho, rfl⟩ rfl (by decide) F.sub_bool_dict F.slot_dict_eq F.slot_bool_eq_refl
    (fun _ hq => call_meets F.slot_dict_eq ⟨_, ho, rfl⟩ F.entry_dict_eq (F.args_dict_eq_2 _ _) (dict_eq_declines_bool l es ep none #[] b) ⟨ho, hq⟩)
    (fun _ hq => call_meets F.slot_bool_eq_refl rfl F.entry_int_eq (F.args_int_eq_2 _ _) (bool_eq_declines_dict l es ep none #[] b) ⟨ho, hq⟩)
    (fun _ hq => wpAny_of_eq (rfl : isSame (.ref l) (.bool b) = pure false) hq) (.inr hu) h
theorem EqAt.dict_bool (b : Bool) (hl : s.heap.DictRaw l es ep) (hu : A.units < cLine) : EqAt A s (.ref l) (.bool b) false := fun prog w E Q h => by
  unfold eqBool
  refine wpAny_holding ?_
  refine wpAny_ite_split (fun hab => absurd (eq_of_beq hab) nofun) (fun _ => ?_)
  exact wpAny_bind (RcAt.dict_bool b hl hu prog w E _ (wpAny_truthy_bool h))
theorem RcAt.bool_dict (b : Bool) (hl : s.heap.DictRaw l es ep) (hu : A.units < cLine) : RcAt A s (.bool b) (.ref l) false := fun prog w E Q h => by
  obtain ⟨⟨cls, dd, data, sl⟩, ho, ⟨hc, hdd, hsl⟩, hd⟩ := id hl
  simp only at hc hd hdd hsl
  subst hc hd hdd hsl
  exact rc_eq_decline_or (k := false) rfl ⟨_, ho, rfl⟩ (by decide) F.sub_dict_bool F.slot_bool_eq F.slot_dict_eq_refl
    (fun _ hq => call_meets F.slot_bool_eq rfl F.entry_int_eq (F.args_int_eq_2 _ _) (bool_eq_declines_dict l es ep none #[] b) ⟨ho, hq⟩)
    (fun _ hq => call_meets F.slot_dict_eq_refl ⟨_, ho, rfl⟩ F.entry_dict_eq (F.args_dict_eq_2 _ _) (dict_eq_declines_bool l es ep none #[] b) ⟨ho, hq⟩)
    (fun _ hq => wpAny_of_eq (rfl : isSame (.bool b) (.ref l) = pure false) hq) (.inr hu) h
theorem EqAt.bool_dict (b : Bool) (hl : s.heap.DictRaw l es ep) (hu : A.units < cLine) : EqAt A s (.bool b) (.ref l) false := fun prog w E Q h => by
  unfold eqBool
  refine wpAny_holding ?_
  refine wpAny_ite_split (fun hab => absurd (eq_of_beq hab) nofun) (fun _ => ?_)
  exact wpAny_bind (RcAt.bool_dict b hl hu prog w E _ (wpAny_truthy_bool h))
theorem RcAt.dict_int (b : Int) (u : Tok) (hl : s.heap.DictRaw l es ep) (hu : A.units < cLine) : RcAt A s (.ref l) (.int b u) false := fun prog w E Q h => by
  obtain ⟨⟨cls, dd, data, sl⟩, ho, ⟨hc, hdd, hsl⟩, hd⟩ := id hl
  simp only at hc hd hdd hsl
  subst hc hd hdd hsl
  exact rc_eq_decline_or (k := false) ⟨_, ho, rfl⟩ (typeIs_int s b u) (by decide) F.sub_int_dict F.slot_dict_eq F.slot_int_eq_refl
    (fun _ hq => call_meets F.slot_dict_eq ⟨_, ho, rfl⟩ F.entry_dict_eq (F.args_dict_eq_2 _ _) (dict_eq_declines_int l es ep none #[] b u) ⟨ho, hq⟩)
    (fun _ hq => call_meets F.slot_int_eq_refl (typeIs_int s b u) F.entry_int_eq (F.args_int_eq_2 _ _) (int_eq_declines_dict l es ep none #[] b u) ⟨ho, hq⟩)
    (fun _ hq => wpAny_of_eq (rfl : isSame (.ref l) (.int b u) = pure false) hq) (.inr hu) h
theorem EqAt.dict_int (b : Int) (u : Tok) (hl : s.heap.DictRaw l es ep) (hu : A.units < cLine) : EqAt A s (.ref l) (.int b u) false := fun prog w E Q h => by
  unfold eqBool
  refine wpAny_holding ?_
  refine wpAny_ite_split (fun hab => absurd (eq_of_beq hab) nofun) (fun _ => ?_)
  exact wpAny_bind (RcAt.dict_int b u hl hu prog w E _ (wpAny_truthy_bool h))
theorem RcAt.int_dict (b : Int) (u : Tok) (hl : s.heap.DictRaw l es ep) (hu : A.units < cLine) : RcAt A s (.int b u) (.ref l) false := fun prog w E Q h => by
  obtain ⟨⟨cls, dd, data, sl⟩, ho, ⟨hc, hdd, hsl⟩, hd⟩ := id hl
  simp only at hc hd hdd hsl
  subst hc hd hdd hsl
  exact rc_eq_decline_or (k := false) (typeIs_int s b u) ⟨_, ho, rfl⟩ (by decide) F.sub_dict_int F.slot_int_eq F.slot_dict_eq_refl
    (fun _ hq => call_meets F.slot_int_eq (typeIs_int s b u) F.entry_int_eq (F.args_int_eq_2 _ _) (int_eq_declines_dict l es ep none #[] b u) ⟨ho, hq⟩)
    (fun _ hq => call_meets F.slot_dict_eq_refl ⟨_, ho, rfl⟩ F.entry_dict_eq (F.args_dict_eq_2 _ _) (dict_eq_declines_int l es ep none #[] b u) ⟨ho, hq⟩)
    (fun _ hq => wpAny_of_eq (rfl : isSame (.int b u) (.ref l) = pure false) hq) (.inr hu) h
theorem EqAt.int_dict (b : Int) (u : Tok) (hl : s.heap.DictRaw l es ep) (hu : A.units < cLine) : EqAt A s (.int b u) (.ref l) false := fun prog w E Q h => by
  unfold eqBool
  refine wpAny_holding ?_
  refine wpAny_ite_split (fun hab => absurd (eq_of_beq hab) nofun) (fun _ => ?_)
  exact wpAny_bind (RcAt.int_dict b u hl hu prog w E _ (wpAny_truthy_bool h))
theorem RcAt.dict_str (b : Str) (u : Tok) (hl : s.heap.DictRaw l es ep) (hu : A.units < cLine) : RcAt A s (.ref l) (.str b u) false := fun prog w E Q h => by
  obtain ⟨⟨cls, dd, data, sl⟩, ho, ⟨hc, hdd, hsl⟩, hd⟩ := id hl
  simp only at hc hd hdd hsl
  subst hc hd hdd hsl
  exact rc_eq_decline_or (k := false) ⟨_, ho, rfl⟩ (typeIs_str s b u) (by decide) F.sub_str_dict F.slot_dict_eq F.slot_str_eq_refl
    (fun _ hq => call_meets F.slot_dict_eq ⟨_, ho, rfl⟩ F.entry_dict_eq (F.args_dict_eq_2 _ _) (dict_eq_declines_str l es ep none #[] b u) ⟨ho, hq⟩)
    (fun _ hq => call_meets F.slot_str_eq_refl (typeIs_str s b u) F.entry_str_eq (F.args_str_eq_2 _ _) (str_eq_declines_dict l es ep none #[] b u) ⟨ho, hq⟩)
    (fun _ hq => wpAny_of_eq (rfl : isSame (.ref l) (.str b u) = pure false) hq) (.inr hu) h
theorem EqAt.dict_str (b : Str) (u : Tok) (hl : s.heap.DictRaw l es ep) (hu : A.units < cLine) : EqAt A s (.ref l) (.str b u) false := fun prog w E Q h => by
  unfold eqBool
  refine wpAny_holding ?_
  refine wpAny_ite_split (fun hab => absurd (eq_of_beq hab) nofun) (fun _ => ?_)
  exact wpAny_bind (RcAt.dict_str b u hl hu prog w E _ (wpAny_truthy_bool h))
theorem RcAt.str_dict (b : Str) (u : Tok) (hl : s.heap.DictRaw l es ep) (hu : A.units < cLine) : RcAt A s (.str b u) (.ref l) false := fun prog w E Q h => by
  obtain ⟨⟨cls, dd, data, sl⟩, ho, ⟨hc, hdd, hsl⟩, hd⟩ := id hl
  simp only at hc hd hdd hsl
  subst hc hd hdd hsl
  exact rc_eq_decline_or (k := false) (typeIs_str s b u) ⟨_, ho, rfl⟩ (by decide) F.sub_dict_str F.slot_str_eq F.slot_dict_eq_refl
    (fun _ hq => call_meets F.slot_str_eq (typeIs_str s b u) F.entry_str_eq (F.args_str_eq_2 _ _) (str_eq_declines_dict l es ep none #[] b u) ⟨ho, hq⟩)
    (fun _ hq => call_meets F.slot_dict_eq_refl ⟨_, ho, rfl⟩ F.entry_dict_eq (F.args_dict_eq_2 _ _) (dict_eq_declines_str l es ep none #[] b u) ⟨ho, hq⟩)
    (fun _ hq => wpAny_of_eq (rfl : isSame (.str b u) (.ref l) = pure false) hq) (.inr hu) h
theorem EqAt.str_dict (b : Str) (u : Tok) (hl : s.heap.DictRaw l es ep) (hu : A.units < cLine) : EqAt A s (.str b u) (.ref l) false := fun prog w E Q h => by
  unfold eqBool
  refine wpAny_holding ?_
  refine wpAny_ite_split (fun hab => absurd (eq_of_beq hab) nofun) (fun _ => ?_)
  exact wpAny_bind (RcAt.str_dict b u hl hu prog w E _ (wpAny_truthy_bool h))
theorem ne_of_dict_list {b : Addr} {items : Array Value} (hl : s.heap.DictRaw l es ep) (hb : s.heap.IsList b items) : l ≠ b := fun e => by
  subst e
  obtain ⟨o, ho, ⟨hc, _⟩, _⟩ := hl
  obtain ⟨o2, ho2, hc2, _⟩ := hb
  rw [ho] at ho2
  cases ho2
  rw [hc] at hc2
  exact absurd hc2 (by simp)
theorem RcAt.dict_list {b : Addr} {items : Array Value} (hl : s.heap.DictRaw l es ep) (hb : s.heap.IsList b items) (hu : A.units < cLine) : RcAt A s (.ref l) (.ref b) false := fun prog w E Q h => by
  have hne := ne_of_dict_list hl hb
  obtain ⟨⟨cls, dd, data, sl⟩, ho, ⟨hc, hdd, hsl⟩, hd⟩ := id hl
  obtain ⟨⟨cls2, dd2, data2, sl2⟩, ho2, hc2, n, hd2⟩ := id hb
  simp only at hc hd hdd hsl hc2 hd2
  subst hc hd hdd hsl hc2 hd2
  exact (rc_eq_decline_or (k := false) ⟨_, ho, rfl⟩ ⟨_, ho2, rfl⟩ (by decide) F.sub_list_dict F.slot_dict_eq F.slot_list_eq_refl
    (fun _ hq => call_meets F.slot_dict_eq ⟨_, ho, rfl⟩ F.entry_dict_eq (F.args_dict_eq_2 _ _) (dict_eq_declines_list l b es ep items n none dd2 #[] sl2) ⟨ho, ho2, hq⟩)
    (fun _ hq => call_meets F.slot_list_eq_refl ⟨_, ho2, rfl⟩ F.entry_list_eq (F.args_list_eq_2 _ _) (list_eq_declines_dict l b es ep items n none dd2 #[] sl2) ⟨ho, ho2, hq⟩)
    (fun _ hq => wpAny_isSame_ref_other hne ho ho2 (by simp) hq) (.inr hu) h)
theorem EqAt.dict_list {b : Addr} {items : Array Value} (hl : s.heap.DictRaw l es ep) (hb : s.heap.IsList b items) (hu : A.units < cLine) : EqAt A s (.ref l) (.ref b) false := .of_refs (ne_of_dict_list hl hb) (.dict_list hl hb hu)
theorem RcAt.list_dict {b : Addr} {items : Array Value} (hl : s.heap.DictRaw l es ep) (hb : s.heap.IsList b items) (hu : A.units < cLine) : RcAt A s (.ref b) (.ref l) false := fun prog w E Q h => by
  have hne := ne_of_dict_list hl hb
  obtain ⟨⟨cls, dd, data, sl⟩, ho, ⟨hc, hdd, hsl⟩, hd⟩ := id hl
  obtain ⟨⟨cls2, dd2, data2, sl2⟩, ho2, hc2, n, hd2⟩ := id hb
  simp only at hc hd hdd hsl hc2 hd2
  subst hc hd hdd hsl hc2 hd2
  exact (rc_eq_decline_or (k := false) ⟨_, ho2, rfl⟩ ⟨_, ho, rfl⟩ (by decide) F.sub_dict_list F.slot_list_eq F.slot_dict_eq_refl
    (fun _ hq => call_meets F.slot_list_eq ⟨_, ho2, rfl⟩ F.entry_list_eq (F.args_list_eq_2 _ _) (list_eq_declines_dict l b es ep items n none dd2 #[] sl2) ⟨ho, ho2, hq⟩)
    (fun _ hq => call_meets F.slot_dict_eq_refl ⟨_, ho, rfl⟩ F.entry_dict_eq (F.args_dict_eq_2 _ _) (dict_eq_declines_list l b es ep items n none dd2 #[] sl2) ⟨ho, ho2, hq⟩)
    (fun _ hq => wpAny_isSame_ref_other (Ne.symm hne) ho2 ho (by simp) hq) (.inr hu) h)
theorem EqAt.list_dict {b : Addr} {items : Array Value} (hl : s.heap.DictRaw l es ep) (hb : s.heap.IsList b items) (hu : A.units < cLine) : EqAt A s (.ref b) (.ref l) false := .of_refs (ne_of_dict_list hl hb).symm (.list_dict hl hb hu)
theorem ne_of_dict_tuple {b : Addr} {items : Array Value} (hl : s.heap.DictRaw l es ep) (hb : s.heap.IsTuple b items) : l ≠ b := fun e => by
  subst e
  obtain ⟨o, ho, ⟨hc, _⟩, _⟩ := hl
  obtain ⟨o2, ho2, hc2, _⟩ := hb
  rw [ho] at ho2
  cases ho2
  rw [hc] at hc2
  exact absurd hc2 (by simp)
theorem RcAt.dict_tuple {b : Addr} {items : Array Value} (hl : s.heap.DictRaw l es ep) (hb : s.heap.IsTuple b items) (hu : A.units < cLine) : RcAt A s (.ref l) (.ref b) false := fun prog w E Q h => by
  have hne := ne_of_dict_tuple hl hb
  obtain ⟨⟨cls, dd, data, sl⟩, ho, ⟨hc, hdd, hsl⟩, hd⟩ := id hl
  obtain ⟨⟨cls2, dd2, data2, sl2⟩, ho2, hc2, n, hd2⟩ := id hb
  simp only at hc hd hdd hsl hc2 hd2
  subst hc hd hdd hsl hc2 hd2
  exact (rc_eq_decline_or (k := false) ⟨_, ho, rfl⟩ ⟨_, ho2, rfl⟩ (by decide) F.sub_tuple_dict F.slot_dict_eq F.slot_tuple_eq_refl
    (fun _ hq => call_meets F.slot_dict_eq ⟨_, ho, rfl⟩ F.entry_dict_eq (F.args_dict_eq_2 _ _) (dict_eq_declines_tuple l b es ep items n none dd2 #[] sl2) ⟨ho, ho2, hq⟩)
    (fun _ hq => call_meets F.slot_tuple_eq_refl ⟨_, ho2, rfl⟩ F.entry_tuple_eq (F.args_tuple_eq_2 _ _) (tuple_eq_declines_dict l b es ep items n none dd2 #[] sl2) ⟨ho, ho2, hq⟩)
    (fun _ hq => wpAny_isSame_ref_other hne ho ho2 (by simp) hq) (.inr hu) h)
theorem EqAt.dict_tuple {b : Addr} {items : Array Value} (hl : s.heap.DictRaw l es ep) (hb : s.heap.IsTuple b items) (hu : A.units < cLine) : EqAt A s (.ref l) (.ref b) false := .of_refs (ne_of_dict_tuple hl hb) (.dict_tuple hl hb hu)
theorem RcAt.tuple_dict {b : Addr} {items : Array Value} (hl : s.heap.DictRaw l es ep) (hb : s.heap.IsTuple b items) (hu : A.units < cLine) : RcAt A s (.ref b) (.ref l) false := fun prog w E Q h => by
  have hne := ne_of_dict_tuple hl hb
  obtain ⟨⟨cls, dd, data, sl⟩, ho, ⟨hc, hdd, hsl⟩, hd⟩ := id hl
  obtain ⟨⟨cls2, dd2, data2, sl2⟩, ho2, hc2, n, hd2⟩ := id hb
  simp only at hc hd hdd hsl hc2 hd2
  subst hc hd hdd hsl hc2 hd2
  exact (rc_eq_decline_or (k := false) ⟨_, ho2, rfl⟩ ⟨_, ho, rfl⟩ (by decide) F.sub_dict_tuple F.slot_tuple_eq F.slot_dict_eq_refl
    (fun _ hq => call_meets F.slot_tuple_eq ⟨_, ho2, rfl⟩ F.entry_tuple_eq (F.args_tuple_eq_2 _ _) (tuple_eq_declines_dict l b es ep items n none dd2 #[] sl2) ⟨ho, ho2, hq⟩)
    (fun _ hq => call_meets F.slot_dict_eq_refl ⟨_, ho, rfl⟩ F.entry_dict_eq (F.args_dict_eq_2 _ _) (dict_eq_declines_tuple l b es ep items n none dd2 #[] sl2) ⟨ho, ho2, hq⟩)
    (fun _ hq => wpAny_isSame_ref_other' (Ne.symm hne) ho2 ho (by simp) hq) (.inr hu) h)
theorem EqAt.tuple_dict {b : Addr} {items : Array Value} (hl : s.heap.DictRaw l es ep) (hb : s.heap.IsTuple b items) (hu : A.units < cLine) : EqAt A s (.ref b) (.ref l) false := .of_refs (ne_of_dict_tuple hl hb).symm (.tuple_dict hl hb hu)
end
end PySem.SeqAt
/-! == and in with dicts among the data -/
namespace J
open PySem L2 PySem.Spec PyProof.Rows
inductive KdS (s : Shared) : Value → Nat → Prop
  | non : KdS s .none 0
  | bl (b : Bool) : KdS s (.bool b) 1
  | int (i : Int) (t : Tok) : KdS s (.int i t) 1
  | str (y : Str) (t : Tok) : KdS s (.str y t) 2
  | lst {a : Addr} {items : Array Value} (h : s.heap.IsList a items) : KdS s (.ref a) 3
  | tup {a : Addr} {items : Array Value} (h : s.heap.IsTuple a items) : KdS s (.ref a) 4
  | dk {a : Addr} {es : Array DictEntry} {ep : Nat} (h : s.heap.DictRaw a es ep) : KdS s (.ref a) 5
def misB (i j : Nat) : Bool := (decide (i < 3) && decide (3 ≤ j)) || (decide (3 ≤ i) && decide (j < 3)) || (i == 5 && (j == 3 || j == 4)) || (j == 5 && (i == 3 || i == 4))
theorem eq_mis {A : Around} {s : Shared} {u z : Value} {i j : Nat} (h1 : KdS s u i) (h2 : KdS s z j) (hm : misB i j = true) (hu : A.units < cLine) : SeqAt.EqAt A s u z false := by
  cases h1 with
  | non => cases h2 with
    | non => cases hm
    | bl => cases hm
    | int => cases hm
    | str => cases hm
    | lst h => exact SeqAt.EqAt.none_list h hu
    | tup h => exact SeqAt.EqAt.none_tuple h hu
    | dk h => exact SeqAt.EqAt.none_dict h hu
  | bl b => cases h2 with
    | non => cases hm
    | bl => cases hm
    | int => cases hm
    | str => cases hm
    | lst h => exact SeqAt.EqAt.bool_list b h hu
    | tup h => exact SeqAt.EqAt.bool_tuple b h hu
    | dk h => exact SeqAt.EqAt.bool_dict b h hu
  | int a t => cases h2 with
    | non => cases hm
    | bl => cases hm
    | int => cases hm
    | str => cases hm
    | lst h => exact SeqAt.EqAt.int_list a t h hu
    | tup h => exact SeqAt.EqAt.int_tuple a t h hu
    | dk h => exact SeqAt.EqAt.int_dict a t h hu
  | str a t => cases h2 with
    | non => cases hm
    | bl => cases hm
    | int => cases hm
    | str => cases hm
    | lst h => exact SeqAt.EqAt.str_list a t h hu
    | tup h => exact SeqAt.EqAt.str_tuple a t h hu
    | dk h => exact SeqAt.EqAt.str_dict a t h hu
  | lst h => cases h2 with
    | non => exact SeqAt.EqAt.list_none h hu
    | bl b2 => exact SeqAt.EqAt.list_bool b2 h hu
    | int a2 t2 => exact SeqAt.EqAt.list_int a2 t2 h hu
    | str a2 t2 => exact SeqAt.EqAt.list_str a2 t2 h hu
    | lst => cases hm
    | tup => cases hm
    | dk h2 => exact SeqAt.EqAt.list_dict h2 h hu
  | tup h => cases h2 with
    | non => exact SeqAt.EqAt.tuple_none h hu
    | bl b2 => exact SeqAt.EqAt.tuple_bool b2 h hu
    | int a2 t2 => exact SeqAt.EqAt.tuple_int a2 t2 h hu
    | str a2 t2 => exact SeqAt.EqAt.tuple_str a2 t2 h hu
    | lst => cases hm
    | tup => cases hm
    | dk h2 => exact SeqAt.EqAt.tuple_dict h2 h hu
  | dk h => cases h2 with
    | non => exact SeqAt.EqAt.dict_none h hu
    | bl b2 => exact SeqAt.EqAt.dict_bool b2 h hu
    | int a2 t2 => exact SeqAt.EqAt.dict_int a2 t2 h hu
    | str a2 t2 => exact SeqAt.EqAt.dict_str a2 t2 h hu
    | lst h2 => exact SeqAt.EqAt.dict_list h h2 hu
    | tup h2 => exact SeqAt.EqAt.dict_tuple h h2 hu
    | dk => cases hm
theorem rc_mis {A : Around} {s : Shared} {u z : Value} {i j : Nat} (h1 : KdS s u i) (h2 : KdS s z j) (hm : misB i j = true) (hu : A.units < cLine) : SeqAt.RcAt A s u z false := by
  cases h1 with
  | non => cases h2 with
    | non => cases hm
    | bl => cases hm
    | int => cases hm
    | str => cases hm
    | lst h => exact SeqAt.RcAt.none_list h hu
    | tup h => exact SeqAt.RcAt.none_tuple h hu
    | dk h => exact SeqAt.RcAt.none_dict h hu
  | bl b => cases h2 with
    | non => cases hm
    | bl => cases hm
    | int => cases hm
    | str => cases hm
    | lst h => exact SeqAt.RcAt.bool_list b h hu
    | tup h => exact SeqAt.RcAt.bool_tuple b h hu
    | dk h => exact SeqAt.RcAt.bool_dict b h hu
  | int a t => cases h2 with
    | non => cases hm
    | bl => cases hm
    | int => cases hm
    | str => cases hm
    | lst h => exact SeqAt.RcAt.int_list a t h hu
    | tup h => exact SeqAt.RcAt.int_tuple a t h hu
    | dk h => exact SeqAt.RcAt.int_dict a t h hu
  | str a t => cases h2 with
    | non => cases hm
    | bl => cases hm
    | int => cases hm
    | str => cases hm
    | lst h => exact SeqAt.RcAt.str_list a t h hu
    | tup h => exact SeqAt.RcAt.str_tuple a t h hu
    | dk h => exact SeqAt.RcAt.str_dict a t h hu
  | lst h => cases h2 with
    | non => exact SeqAt.RcAt.list_none h hu
    | bl b2 => exact SeqAt.RcAt.list_bool b2 h hu
    | int a2 t2 => exact SeqAt.RcAt.list_int a2 t2 h hu
    | str a2 t2 => exact SeqAt.RcAt.list_str a2 t2 h hu
    | lst => cases hm
    | tup => cases hm
    | dk h2 => exact SeqAt.RcAt.list_dict h2 h hu
  | tup h => cases h2 with
    | non => exact SeqAt.RcAt.tuple_none h hu
    | bl b2 => exact SeqAt.RcAt.tuple_bool b2 h hu
    | int a2 t2 => exact SeqAt.RcAt.tuple_int a2 t2 h hu
    | str a2 t2 => exact SeqAt.RcAt.tuple_str a2 t2 h hu
    | lst => cases hm
    | tup => cases hm
    | dk h2 => exact SeqAt.RcAt.tuple_dict h2 h hu
  | dk h => cases h2 with
    | non => exact SeqAt.RcAt.dict_none h hu
    | bl b2 => exact SeqAt.RcAt.dict_bool b2 h hu
    | int a2 t2 => exact SeqAt.RcAt.dict_int a2 t2 h hu
    | str a2 t2 => exact SeqAt.RcAt.dict_str a2 t2 h hu
    | lst h2 => exact SeqAt.RcAt.dict_list h h2 hu
    | tup h2 => exact SeqAt.RcAt.dict_tuple h h2 hu
    | dk => cases hm
/-- what kind of thing a value is, in an abstract heap -/
inductive Kd (K : PySem.W.Frag) (H : Hp) : V → Nat → Prop
  | non : Kd K H .non 0
  | bl (b : Bool) : Kd K H (.bl b) 1
  | int (i : Int) : Kd K H (.int i) 1
  | str (y : Str) : Kd K H (.str y) 2
  | lst {a : Addr} {xs : List V} (h : SqL K H a xs) : Kd K H (.ref a) 3
  | tup {a : Addr} {xs : List V} (h : SqT K H a xs) : Kd K H (.ref a) 4
  | dk {a : Addr} {ks : List (Key × V)} (h : H a = some (.dK ks)) : Kd K H (.ref a) 5
def kindD : D → Option Nat
  | .non => some 0 | .bl _ => some 1 | .int _ => some 1 | .str _ => some 2 | .lst _ _ => some 3 | .scr _ => some 3 | .tup _ => some 4 | .dK _ _ _ => some 5 | _ => none
section
variable {X : Cx} {pins : List (Addr × Obj)} {σ : L2.St} {H : Hp} {s : Shared}
theorem Kd.at (I : Inv X pins σ H s) {v : V} {k : Nat} {u : Value} (h : Kd X.K H v k) (r : RelV v u) : KdS s u k := by
  cases h with
  | non => cases r; exact .non
  | bl b => cases r; exact .bl b
  | int i => obtain ⟨t, rfl⟩ := r; exact .int i t
  | str y => obtain ⟨t, rfl⟩ := r; exact .str y t
  | lst h =>
    cases r
    obtain ⟨its, rv, pl, -⟩ := I.list h
    exact .lst pl.isList
  | tup h =>
    cases r
    obtain ⟨its, rv, pl, -⟩ := I.tuple h
    exact .tup pl
  | dk h =>
    cases r
    obtain ⟨_, _, vs, _, d⟩ := dk_of I.hok h
    obtain ⟨es, ep, hr, _⟩ := d.raw
    exact .dk hr
end
section
variable {K : PySem.W.Frag} {C : Nat → Addr} {M : Addr → Prop} {H : Hp}
theorem rep_kd {v : V} {d : D} {F : List Addr} {k : Nat} (h : Rep K C M H v d F) (e : kindD d = some k) : Kd K H v k := by
  cases h <;> simp only [kindD, reduceCtorEq, Option.some.injEq] at e <;> subst e
  · exact .non
  · exact .bl _
  · exact .int _
  · exact .str _
  · rename_i h _ _; exact .lst (.of (hide_le _ _ h))
  · rename_i h; exact .lst (SqL.mono hide_le h)
  · rename_i h _; exact .lst (.of h)
  · rename_i h _; exact .tup (.inl (.inl (hide_le _ _ h)))
  · rename_i h _ _ _; exact .dk (hide_le _ _ h)
  · rename_i h _ _; exact .dk h
end
/-! the words -/
def misD (d e : D) : Bool := match kindD d, kindD e with
  | some i, some j => misB i j
  | _, _ => false
def leafX (d e : D) : Option Bool := if shp d && shp e then some (PyData.eqv d.toP e.toP) else if misD d e then some false else none
def eqXL : List D → List D → Option Bool
  | [], [] => some true
  | [], _ :: _ => some false
  | _ :: _, [] => some false
  | d :: ds, e :: es => match leafX d e, eqXL ds es with
    | some a, some b => some (a && b)
    | _, _ => none
def eqX (d e : D) : Option Bool := match d, e with
  | .tup xs, .tup ys => eqXL xs ys
  | _, _ => if misD d e then some false else none
def orW (g1 g2 : D → D → Option D) : D → D → Option D := fun d e => match g1 d e with
  | some x => some x
  | none => g2 d e
def eqXD (d e : D) : Option D := (eqX d e).map .bl
abbrev eqW : D → D → Option D := orW eqD eqXD
def inX (neg : Bool) (d e : D) : Option D := match seqD e with
  | some xs => if (kindD d).isSome && xs.all fun y => misD y d then some (.bl neg) else none
  | none => none
abbrev notInLW : D → D → Option D := orW notInLD (inX true)
/-! what the heap says -/
def LeafV (K : PySem.W.Frag) (H : Hp) (v w : V) (b : Bool) : Prop := (∃ d e, Dp K H v d ∧ Dp K H w e ∧ SeqAt.shaped d = true ∧ SeqAt.shaped e = true ∧ b = PyData.eqv d e) ∨ ∃ i j, Kd K H v i ∧ Kd K H w j ∧ misB i j = true ∧ b = false
inductive LeavesV (K : PySem.W.Frag) (H : Hp) : List V → List V → Bool → Prop
  | nil : LeavesV K H [] [] true
  | short {v : V} {vs : List V} : LeavesV K H [] (v :: vs) false
  | long {v : V} {vs : List V} : LeavesV K H (v :: vs) [] false
  | cons {v w : V} {vs ws : List V} {a b : Bool} (h : LeafV K H v w a) (t : LeavesV K H vs ws b) : LeavesV K H (v :: vs) (w :: ws) (a && b)
def rEqX (K : PySem.W.Frag) : R2 := fun x y H Q => (∃ i j, Kd K H x i ∧ Kd K H y j ∧ misB i j = true ∧ Q (.bl false) H) ∨ ∃ a b xs ys k, x = .ref a ∧ y = .ref b ∧ SqT K H a xs ∧ SqT K H b ys ∧ LeavesV K H xs ys k ∧ Q (.bl k) H
def rInX (K : PySem.W.Frag) (neg : Bool) : R2 := fun x y H Q => ∃ a xs i, y = .ref a ∧ (SqL K H a xs ∨ SqT K H a xs) ∧ Kd K H x i ∧ (∀ v ∈ xs, ∃ j, Kd K H v j ∧ misB j i = true) ∧ Q (.bl neg) H
section
variable {X : Cx} {pins : List (Addr × Obj)} {σ : L2.St} {H : Hp} {s : Shared}
theorem leaf_at (I : Inv X pins σ H s) {v w : V} {b : Bool} {u z : Value} (h : LeafV X.K H v w b) (r1 : RelV v u) (r2 : RelV w z) {A : Around} (hu : A.units + 64 < cLine) : SeqAt.EqAt A s u z b := by
  rcases h with ⟨d, e, h1, h2, s1, s2, rfl⟩ | ⟨i, j, h1, h2, hm, rfl⟩
  · obtain ⟨as, q1⟩ := Dp.reads I d v u h1 r1
    obtain ⟨bs, q2⟩ := Dp.reads I e w z h2 r2
    exact SeqAt.eqAt_reads d e A s u z as bs q1 q2 (SeqAt.canLay_of_shaped s1) (SeqAt.canLay_of_shaped s2) (SeqAt.room_of_shaped s1 hu)
  · exact eq_mis (h1.at I r1) (h2.at I r2) hm (by omega)
theorem leaves_at (I : Inv X pins σ H s) : ∀ {vs ws : List V} {us zs : List Value} {b : Bool}, LeavesV X.K H vs ws b → Vals vs us → Vals ws zs →
    ∃ e : Nat → Bool, (∀ j (h1 : j < us.length) (h2 : j < zs.length), PySem.W.EqTree X.prog X.w s 64 us[j] zs[j] (e j)) ∧ ((List.range (min us.length zs.length)).all e && us.length == zs.length) = b
  | _, _, _, _, _, .nil, .nil, .nil => ⟨fun _ => true, fun j h1 => absurd h1 (Nat.not_lt_zero j), rfl⟩
  | _, _, _, _, _, .short, .nil, .cons _ _ => ⟨fun _ => true, fun j h1 => absurd h1 (Nat.not_lt_zero j), by simp⟩
  | _, _, _, _, _, .long, .cons _ _, .nil => ⟨fun _ => true, fun j _ h2 => absurd h2 (Nat.not_lt_zero j), by simp⟩
  | _, _, u :: us, z :: zs, _, .cons (a := a) (b := b) h t, .cons r1 t1, .cons r2 t2 => by
    obtain ⟨e, q1, q2⟩ := leaves_at I t t1 t2
    refine ⟨fun j => match j with | 0 => a | j + 1 => e j, fun j h1 h2 => ?_, ?_⟩
    · cases j with
      | zero => exact .leaf fun A hu => leaf_at I h r1 r2 hu
      | succ j => exact q1 j (by simpa using h1) (by simpa using h2)
    · rw [List.length_cons, List.length_cons, Nat.succ_min_succ, List.range_succ_eq_map, List.all_cons, List.all_map]
      rw [← q2]
      have : (us.length + 1 == zs.length + 1) = (us.length == zs.length) := by
        rw [Bool.eq_iff_iff]; simp
      rw [this, Bool.and_assoc]
      rfl
theorem vals_mem {xs : List V} {its : List Value} (r : Vals xs its) : ∀ {y : Value}, y ∈ its → ∃ w ∈ xs, RelV w y := by
  induction r with
  | nil => exact fun h => absurd h List.not_mem_nil
  | cons h t ih =>
    intro y hy
    rcases List.mem_cons.mp hy with rfl | hy
    · exact ⟨_, List.mem_cons_self .., h⟩
    · obtain ⟨w, hw, r⟩ := ih hy
      exact ⟨w, List.mem_cons_of_mem _ hw, r⟩
theorem op_eqX (hu : X.A.units + 65 < cLine) : OpR X (compareOp .Eq) (rEqX X.K) := by
  intro pins s σ H x y v u Q I rx ry h
  rcases h with ⟨i, j, h1, h2, hm, q⟩ | ⟨a, b, xs, ys, k, rfl, rfl, h1, h2, hl, q⟩
  · exact rc_mis (h1.at I rx) (h2.at I ry) hm (by omega) X.prog X.w _ _ ⟨.bl false, H, I, rfl, q⟩
  · cases rx
    cases ry
    obtain ⟨us, r1, p1, -⟩ := I.tuple h1
    obtain ⟨zs, r2, p2, -⟩ := I.tuple h2
    obtain ⟨e, t, hb⟩ := leaves_at I hl r1 r2
    refine PySem.W.eq_tuplesT (n := 64) (e := e) p1 p2 (fun j h1 h2 => by
      have := t j (by simpa using h1) (by simpa using h2)
      simpa using this) (by omega) ⟨.bl k, H, I, ?_, q⟩
    show Value.bool _ = Value.bool k
    simpa using hb
theorem op_notInX (hu : X.A.units + 65 < cLine) : OpR X (compareOp .NotIn) (rInX X.K true) := by
  intro pins s σ H x y v u Q I rx ry h
  obtain ⟨a, xs, i, rfl, hs, hk, hm, q⟩ := h
  cases ry
  have key : ∀ {its : List Value}, Vals xs its → ∀ y, y ∈ its.toArray → SeqAt.EqAt X.A.in1 s y v ((fun _ => false) y) := fun {its} r y hy => by
    obtain ⟨w, hw, rw_⟩ := vals_mem r (by simpa using hy)
    obtain ⟨j, h1, h2⟩ := hm w hw
    exact eq_mis (h1.at I rw_) (hk.at I rx) h2 (by show X.A.units + 1 < cLine; omega)
  rcases hs with hs | hs
  · obtain ⟨its, r, pl, -⟩ := I.list hs
    exact SeqAt.notIn_listAt _ pl.isList (key r) ⟨.bl true, H, I, by show Value.bool _ = Value.bool true; simp, q⟩
  · obtain ⟨its, r, pl, -⟩ := I.tuple hs
    exact SeqAt.notIn_tupleAt _ pl (key r) ⟨.bl true, H, I, by show Value.bool _ = Value.bool true; simp, q⟩
def orR (r1 r2 : R2) : R2 := fun x y H Q => r1 x y H Q ∨ r2 x y H Q
theorem op_or {f : Value → Value → Sem Value} {r1 r2 : R2} (h1 : OpR X f r1) (h2 : OpR X f r2) : OpR X f (orR r1 r2) := fun pins s σ H x y v u Q I rx ry h => h.elim (h1 pins s σ H x y v u Q I rx ry) (h2 pins s σ H x y v u Q I rx ry)
end
section
variable {K : PySem.W.Frag} {C : CT}
theorem p_or {r1 r2 : R2} {g1 g2 : D → D → Option D} (h1 : Op2 K C r1 g1) (h2 : Op2 K C r2 g2) : Op2 K C (orR r1 r2) (orW g1 g2) := by
  intro M0 σ env F H v w d e x Q r eg q
  unfold orW at eg
  split at eg
  · rename_i y hy
    cases eg
    exact .inl (h1 M0 σ env F H v w d e _ Q r hy q)
  · exact .inr (h2 M0 σ env F H v w d e x Q r eg q)
theorem mis_kd {M : Addr → Prop} {H : Hp} {v w : V} {d e : D} {F G : List Addr} (h1 : Rep K C M H v d F) (h2 : Rep K C M H w e G) (hm : misD d e = true) : ∃ i j, Kd K H v i ∧ Kd K H w j ∧ misB i j = true := by
  unfold misD at hm
  split at hm
  · rename_i i j e1 e2
    exact ⟨i, j, rep_kd h1 e1, rep_kd h2 e2, hm⟩
  · cases hm
theorem leaf_v {M : Addr → Prop} {H : Hp} {v w : V} {d e : D} {F G : List Addr} {b : Bool} (h1 : Rep K C M H v d F) (h2 : Rep K C M H w e G) (h : leafX d e = some b) : LeafV K H v w b := by
  unfold leafX at h
  split at h
  · rename_i hs
    simp only [shp, Bool.and_eq_true] at hs
    cases h
    exact .inl ⟨_, _, rep_dp h1 hs.1.1, rep_dp h2 hs.2.1, hs.1.2, hs.2.2, rfl⟩
  · split at h
    · rename_i hm
      cases h
      obtain ⟨i, j, k1, k2, k3⟩ := mis_kd h1 h2 hm
      exact .inr ⟨i, j, k1, k2, k3, rfl⟩
    · cases h
theorem leaves_v {M : Addr → Prop} {H : Hp} : ∀ {vs ws : List V} {ds es : List D} {F G : List Addr} {b : Bool}, RepL K C M H vs ds F → RepL K C M H ws es G → eqXL ds es = some b → LeavesV K H vs ws b
  | _, _, _, _, _, _, _, .nil, .nil, h => by cases h; exact .nil
  | _, _, _, _, _, _, _, .nil, .cons _ _, h => by cases h; exact .short
  | _, _, _, _, _, _, _, .cons _ _, .nil, h => by cases h; exact .long
  | _, _, _, _, _, _, _, .cons a t, .cons a2 t2, h => by
    simp only [eqXL] at h
    split at h
    · rename_i x y e1 e2
      cases h
      exact .cons (leaf_v a a2 e1) (leaves_v t t2 e2)
    · cases h
theorem p_eqX : Op2 K C (rEqX K) eqXD := by
  intro M0 σ env F H v w d e x Q r eg q
  obtain ⟨F1, F2, F3, eF, hv, hw, _⟩ := r.two
  unfold eqXD at eg
  obtain ⟨b, hb, rfl⟩ := Option.map_eq_some_iff.mp eg
  have q' := Rel.sc2 r (.bl b) q
  unfold eqX at hb
  split at hb
  · obtain ⟨a1, vs, rfl, h1, t1⟩ := hv.tupR
    obtain ⟨a2, ws, rfl, h2, t2⟩ := hw.tupR
    exact .inr ⟨a1, a2, vs, ws, b, rfl, rfl, .inl (.inl h1), .inl (.inl h2), leaves_v t1 t2 hb, q'⟩
  · split at hb
    · rename_i hm
      cases hb
      obtain ⟨i, j, k1, k2, k3⟩ := mis_kd hv hw hm
      exact .inl ⟨i, j, k1, k2, k3, q'⟩
    · cases hb
theorem items_mis {M : Addr → Prop} {H : Hp} {v : V} {d : D} {G : List Addr} (hv : Rep K C M H v d G) : ∀ {vs : List V} {ds : List D} {F : List Addr}, RepL K C M H vs ds F → (ds.all fun y => misD y d) = true → ∀ i, kindD d = some i → ∀ w ∈ vs, ∃ j, Kd K H w j ∧ misB j i = true
  | _, _, _, .nil, _, _, _ => fun _ h => absurd h List.not_mem_nil
  | _, _, _, .cons (d := d0) a t, h, i, hi => by
    simp only [List.all_cons, Bool.and_eq_true] at h
    intro w hw
    rcases List.mem_cons.mp hw with rfl | hw
    · have hm := h.1
      unfold misD at hm
      rw [hi] at hm
      split at hm
      · rename_i j i2 e1 e2
        cases e2
        exact ⟨j, rep_kd a e1, hm⟩
      · cases hm
    · exact items_mis hv t h.2 i hi w hw
theorem p_inX {neg : Bool} : Op2 K C (rInX K neg) (inX neg) := by
  intro M0 σ env F H v w d e x Q r eg q
  obtain ⟨F1, F2, F3, eF, hv, hw, _⟩ := r.two
  unfold inX at eg
  split at eg
  case h_2 => cases eg
  rename_i xs es
  split at eg
  case isFalse => cases eg
  rename_i hkm
  obtain ⟨hk, hm⟩ := Bool.and_eq_true_iff.mp hkm
  obtain ⟨i, hi⟩ := Option.isSome_iff_exists.mp hk
  obtain rfl := Option.some.inj eg
  have q' := Rel.sc2 r (.bl neg) q
  cases e <;> simp only [seqD, reduceCtorEq, Option.some.injEq] at es
  · subst es
    obtain ⟨a, vs, G, rfl, h1, t, _⟩ := hw.lstR
    exact ⟨a, vs, i, rfl, .inl (.of h1), rep_kd hv hi, items_mis hv t hm i hi, q'⟩
  · subst es
    obtain ⟨a, vs, rfl, h1, t⟩ := hw.tupR
    exact ⟨a, vs, i, rfl, .inr (.inl (.inl h1)), rep_kd hv hi, items_mis hv t hm i hi, q'⟩
end
end J
/-! repr with dicts among the data; != of texts -/
namespace J
open PySem L2 PySem.Spec PyProof.Rows
def keyP : Key → PyData
  | .inl i => .int i
  | .inr x => .str x
mutual
inductive DpX (K : PySem.W.Frag) (H : Hp) : V → PyData → Prop
  | non : DpX K H .non .none
  | bl (b : Bool) : DpX K H (.bl b) (.bool b)
  | int (i : Int) : DpX K H (.int i) (.int i)
  | str (x : Str) : DpX K H (.str x) (.str x)
  | tup {a : Addr} {xs : List V} {ds : List PyData} (h : SqT K H a xs) (t : DpXA K H xs ds) : DpX K H (.ref a) (.tuple ds)
  | dk {a : Addr} {ks : List Key} {vs : List V} {ds : List PyData} (h : H a = some (.dK (ks.zip vs))) (l : ks.length = vs.length) (t : DpXA K H vs ds) : DpX K H (.ref a) (.dict ((ks.map keyP).zip ds))
inductive DpXA (K : PySem.W.Frag) (H : Hp) : List V → List PyData → Prop
  | nil : DpXA K H [] []
  | cons {v : V} {vs : List V} {d : PyData} {ds : List PyData} (h : DpX K H v d) (t : DpXA K H vs ds) : DpXA K H (v :: vs) (d :: ds)
end
theorem DpXA.length {K : PySem.W.Frag} {H : Hp} : ∀ {vs : List V} {ds : List PyData}, DpXA K H vs ds → vs.length = ds.length
  | _, _, .nil => rfl
  | _, _, .cons _ t => by rw [List.length_cons, List.length_cons, t.length]
section
variable {X : Cx} {pins : List (Addr × Obj)} {σ : L2.St} {H : Hp} {s : Shared}
theorem keys_read {s : Shared} : ∀ {ks : List Key} {us : List Value}, Paired (fun (k : Key) (u : Value) => keyIs k u = true) ks us → ReadsAll s.heap us (ks.map keyP) []
  | _, _, .nil => .nil
  | k :: _, u :: _, .cons h t => by
    rcases keyIs_shape h with ⟨i, t2, rfl, rfl⟩ | ⟨x, t2, rfl, rfl⟩
    · exact .cons (as := []) (bs := []) (.int i t2) (keys_read t)
    · exact .cons (as := []) (bs := []) (.str x t2) (keys_read t)
theorem kv_keys {P : Program} {w : World} {es : List DictEntry} {kvs : List (Key × Value)} (h : PySem.Pairs (mixKind P w) es kvs) : Paired (fun (k : Key) (u : Value) => keyIs k u = true) (kvs.map (·.1)) (es.map (·.key)) ∧ es.map (·.val) = kvs.map (·.2) := by
  induction h with
  | nil => exact ⟨.nil, rfl⟩
  | cons h1 h2 t ih => exact ⟨.cons h1 ih.1, by rw [List.map_cons, List.map_cons, h2, ih.2]⟩
theorem kv_zip : ∀ {ks : List Key} {vs : List V} {kvs : List (Key × Value)}, ks.length = vs.length → KV (ks.zip vs) kvs → ks = kvs.map (·.1) ∧ Vals vs (kvs.map (·.2))
  | [], [], _, _, .nil => ⟨rfl, .nil⟩
  | [], _ :: _, _, h, _ => by simp at h
  | _ :: _, [], _, h, _ => by simp at h
  | k :: ks, v :: vs, _, h, .cons h1 t => by
    obtain ⟨e1, e2⟩ := kv_zip (by simpa using h) t
    exact ⟨by rw [List.map_cons, ← e1, ← h1.1], .cons h1.2 e2⟩
mutual
theorem DpX.reads (I : Inv X pins σ H s) : ∀ {v : V} {d : PyData} {u : Value}, DpX X.K H v d → RelV v u → ∃ as, Reads s.heap u d as ∧ sysModules ∉ as
  | _, _, _, .non, r => by cases r; exact ⟨_, .none, List.not_mem_nil⟩
  | _, _, _, .bl b, r => by cases r; exact ⟨_, .bool b, List.not_mem_nil⟩
  | _, _, _, .int i, r => by obtain ⟨t, rfl⟩ := r; exact ⟨_, .int i t, List.not_mem_nil⟩
  | _, _, _, .str y, r => by obtain ⟨t, rfl⟩ := r; exact ⟨_, .str y t, List.not_mem_nil⟩
  | _, _, _, .tup h t, r => by
    cases r
    obtain ⟨its, rv, pl, -⟩ := I.tuple h
    obtain ⟨as, ra, ns⟩ := DpXA.reads I t rv
    obtain ⟨o, ho, hc, n, hd⟩ := pl
    exact ⟨as, .tuple ho hc hd ra, ns⟩
  | _, _, _, .dk (a := a) h l t, r => by
    cases r
    obtain ⟨-, hsm, vs, kv, d⟩ := dk_of I.hok h
    obtain ⟨o, es, ep, ho, hc, hd, -, hp, -⟩ := d
    obtain ⟨e1, e2⟩ := kv_zip l kv
    obtain ⟨q1, q2⟩ := kv_keys hp
    obtain ⟨as, ra, ns⟩ := DpXA.reads I t e2
    have hl := t.length
    refine ⟨_, .dict ho hc.1 hd (kvs := _) (as := []) (bs := as) ?_ ?_, ?_⟩
    · rw [List.map_fst_zip (by rw [List.length_map]; omega), e1]
      exact keys_read q1
    · rw [List.map_snd_zip (by rw [List.length_map]; omega), q2]
      exact ra
    · intro z
      rcases List.mem_cons.mp z with z | z
      · rw [z] at hsm; simp at hsm
      · exact ns z
theorem DpXA.reads (I : Inv X pins σ H s) : ∀ {vs : List V} {ds : List PyData} {us : List Value}, DpXA X.K H vs ds → Vals vs us → ∃ as, ReadsAll s.heap us ds as ∧ sysModules ∉ as
  | _, _, _, .nil, .nil => ⟨_, .nil, List.not_mem_nil⟩
  | _, _, _, .cons h t, .cons r q => by
    obtain ⟨as, r1, n1⟩ := DpX.reads I h r
    obtain ⟨bs, r2, n2⟩ := DpXA.reads I t q
    exact ⟨_, .cons r1 r2, fun z => (List.mem_append.mp z).elim n1 n2⟩
end
end
/-! the word -/
mutual
def D.okR : D → Bool
  | .non => true | .bl _ => true | .int _ => true | .str _ => true
  | .tup xs => D.okRL xs
  | .dK _ _ vs => D.okRL vs
  | _ => false
def D.okRL : List D → Bool
  | [] => true
  | d :: ds => d.okR && D.okRL ds
end
mutual
def D.toR : D → PyData
  | .bl b => .bool b | .int i => .int i | .str x => .str x
  | .tup xs => .tuple (D.toRL xs)
  | .dK _ ks vs => .dict ((ks.map keyP).zip (D.toRL vs))
  | _ => .none
def D.toRL : List D → List PyData
  | [] => []
  | d :: ds => d.toR :: D.toRL ds
end
def reprXD (d : D) : Option D := if d.okR && (d.toR.showable && (decide (d.toR.depth ≤ 60) && decide (d.toR.shown.length ≤ 1000000))) then some (.str d.toR.shown) else none
def reprW (d : D) : Option D := match reprD d with
  | some x => some x
  | none => reprXD d
section
variable {K : PySem.W.Frag} {C : CT}
/-- != of texts, whatever they hold -/
def rNeS : R2 := fun x y H Q => ∃ a b : Str, x = .str a ∧ y = .str b ∧ Q (.bl (!(a == b))) H
def neSD (d e : D) : Option D := match d, e with
  | .str a, .str b => some (.bl (!(a == b)))
  | _, _ => none
theorem op_neS {X : Cx} : OpR X (compareOp .NotEq) rNeS := by
  intro pins s σ H x y v u Q I rx ry h
  obtain ⟨a, b, rfl, rfl, q⟩ := h
  obtain ⟨t, rfl⟩ := rx
  obtain ⟨t2, rfl⟩ := ry
  exact SeqAt.RcNeAt.str_str a t b t2 X.prog X.w _ _ ⟨.bl _, H, I, rfl, q⟩
theorem p_neS : Op2 K C rNeS neSD := by
  intro M0 σ env F H v w d e x Q r eg q
  obtain ⟨F1, F2, F3, eF, hv, hw, _⟩ := r.two
  unfold neSD at eg
  split at eg
  · cases hv
    cases hw
    obtain rfl := Option.some.inj eg
    exact ⟨_, _, rfl, rfl, Rel.sc2 r (.bl _) q⟩
  · cases eg
abbrev neW : D → D → Option D := orW neD neSD
end
end J
/-! symbolic steps for dicts as values -/
namespace J
open PySem L2 PySem.Spec PyProof.Rows
section
variable {f g : J.Env → R D} {env e : J.Env} {QD : D → J.Env → Prop} {X : XQ} {d x y : D} {k : Key} {o : Bool} {ks : List Key} {vs xs : List D} {a : Int} {s : Str}
def dsR (k : Key) (QD : D → J.Env → Prop) : D → J.Env → Prop := fun x e => x.noOwn = true ∧ QD (.dK true [k] [x]) e
def dsP (g : J.Env → R D) (QD : D → J.Env → Prop) (e : J.Env) : Option Key → Prop := fun o => match o with
  | some k => Wr (g e) (dsR k QD) noX
  | none => False
def dsQ (g : J.Env → R D) (QD : D → J.Env → Prop) : D → J.Env → Prop := fun d e => dsP g QD e (keyD d)
theorem wz_dnew : Wr (dnewF env) QD X ↔ QD (.dK true [] []) env := Iff.rfl
theorem wz_disp : Wr (dispF f g env) QD X ↔ Wr (f env) (dsQ g QD) noX := by
  unfold dispF
  generalize f env = z
  cases z with
  | ok d e =>
    have e1 : Wr (R.ok d e) (dsQ g QD) noX ↔ dsP g QD e (keyD d) := Iff.rfl
    rw [e1]
    unfold dsP
    dsimp only
    cases keyD d with
    | none => exact Iff.rfl
    | some k =>
      dsimp only
      generalize g e = z
      cases z with
      | ok x e2 =>
        have e1 : Wr (R.ok x e2) (dsR k QD) noX ↔ (x.noOwn = true ∧ QD (.dK true [k] [x]) e2) := Iff.rfl
        rw [e1]
        dsimp only
        by_cases h : x.noOwn = true
        · rw [if_pos h]; exact ⟨fun z => ⟨h, z⟩, fun z => z.2⟩
        · rw [if_neg h]; exact ⟨fun z => False.elim z, fun z => absurd z.1 h⟩
      | ex => exact Iff.rfl
      | no => exact Iff.rfl
  | ex => exact Iff.rfl
  | no => exact Iff.rfl
theorem wz_dsQ : dsQ g QD d e ↔ dsP g QD e (keyD d) := Iff.rfl
theorem wz_dsP : dsP g QD e (some k) ↔ Wr (g e) (dsR k QD) noX := Iff.rfl
theorem wz_dsR : dsR k QD x e ↔ (x.noOwn = true ∧ QD (.dK true [k] [x]) e) := Iff.rfl
theorem wa_keyI : keyD (.int a) = some (.inl a) := id rfl
theorem wa_keyS : keyD (.str s) = some (.inr s) := id rfl
theorem wa_isiKI : isiD "int" (.dK o ks vs) = some (.bl false) := id rfl
theorem wa_isiKB : isiD "bool" (.dK o ks vs) = some (.bl false) := id rfl
theorem wa_isiKS : isiD "str" (.dK o ks vs) = some (.bl false) := id rfl
theorem wa_isiKL : isiD "list" (.dK o ks vs) = some (.bl false) := id rfl
theorem wa_isiKT : isiD "tuple" (.dK o ks vs) = some (.bl false) := id rfl
theorem wa_nonK : isNonD (.dK o ks vs) .non = some (.bl false) := id rfl
theorem wa_nnonK : isNotNonD (.dK o ks vs) .non = some (.bl true) := id rfl
def orK (a b : Option D) : Option D := match a with
  | some x => some x
  | none => b
theorem wa_orW {g1 g2 : D → D → Option D} : orW g1 g2 d x = orK (g1 d x) (g2 d x) := id rfl
theorem wa_orKs {b : Option D} : orK (some x) b = some x := id rfl
theorem wa_orKn {b : Option D} : orK none b = b := id rfl
theorem wa_neS {t : Str} : neSD (.str s) (.str t) = some (.bl (!(s == t))) := id rfl
theorem wa_reprW : reprW d = orK (reprD d) (reprXD d) := id rfl
end
end J
/-! small data: their repr -/
/-! an argument lent after the ones behind it are evaluated: f(xs, g(xs)) -/
namespace J
open PySem L2 PySem.Spec PyProof.Rows
def argL (i : Nat) (g : J.Env → R (List D)) : J.Env → R (List D) := fun env => match env[i]? with
  | some (some _) => (match g env with
    | .ok ds e => (match e[i]? with
      | some (some d) => .ok (d :: ds) (e.set i none)
      | _ => .no)
    | .ex c ns xs e => .ex c ns xs e
    | .no => .no)
  | _ => .no
section
variable {K : PySem.W.Frag} {C : CT} {W : Wish} {H : Hp} {σ : L2.St}
theorem i_argL {i : Nat} {g : J.Env → R (List D)} {lk : List (Nat × Nat)} {Q : List V → Hp → Prop} (h : aOf K C W (argL i g) ((0, i) :: lkV lk) σ H Q) : tCons (tVar i) (aOf K C W g lk) σ H Q := by
  obtain ⟨M0, env, F, r, h⟩ := h
  rcases ed : env[i]? with _ | _ | d0
  · simp only [argL, ed] at h; exact h.elim
  · simp only [argL, ed] at h; exact h.elim
  obtain ⟨v, F1, hσ, r1, s1⟩ := r.take ed
  refine ⟨v, hσ, M0, env, F, r, ?_⟩
  cases eg : g env with
  | no => simp only [argL, ed, eg] at h; exact h
  | ex c ns ds e2 => simp only [argL, ed, eg] at h; exact h
  | ok ds e2 =>
    simp only [argL, ed, eg] at h
    rcases ee : e2[i]? with _ | _ | d
    · simp only [ee] at h; exact h.elim
    · simp only [ee] at h; exact h.elim
    simp only [ee] at h
    intro vs H2 F2 r3 s3 l3 k3
    have he : (ds.map some ++ e2)[(ds.map some).length + i]? = some (some d) := by
      rw [List.getElem?_append_right (by omega)]
      simpa using ee
    obtain ⟨v2, F3, hv2, r4, s4⟩ := r3.take he
    have hv : (vs.map some ++ σ)[(ds.map some).length + i]? = some (some v) := by
      rw [List.getElem?_append_right (by simp [l3])]
      simpa [l3] using hσ
    obtain rfl : v = v2 := by
      rw [hv] at hv2
      exact Option.some.inj (Option.some.inj hv2)
    rw [show (ds.map some ++ e2).set ((ds.map some).length + i) none = ds.map some ++ e2.set i none by
      rw [List.set_append_right _ _ (by omega)]; simp] at r4
    refine h (v :: vs) H2 F3 r4 (s3.trans (.sub s4)) (by simp [l3]) fun q hq => ?_
    rcases List.mem_cons.mp hq with rfl | hq
    · exact ⟨v, rfl, hσ⟩
    · obtain ⟨q', hq', rfl⟩ := List.mem_map.mp hq
      obtain ⟨u, h1, h2⟩ := k3 q' hq'
      exact ⟨u, by simpa using h1, h2⟩
end
section
variable {X : Cx} {C : CT} {W : WX} {af : J.Env → R (List D)} {lk : List (Nat × Nat)} {es : List Expr}
theorem z_al {i : Nat} (h : PA X es (tCons (tVar i) (A_ X C W af lk))) : PA X es (A_ X C W (argL i af) ((0, i) :: lkV lk)) := h.imp fun _ _ _ q => i_argL q
theorem AL.late {n i : Nat} (h : AL af n) : AL (argL i af) (n + 1) := fun env ds e q => by
  unfold argL at q
  split at q
  · split at q
    · rename_i es e2 eg
      split at q
      · simp only [R.ok.injEq] at q
        rw [← q.1, List.length_cons, h _ _ _ eg]
      · cases q
    · cases q
    · cases q
  · cases q
end
section
variable {af : J.Env → R (List D)} {env e : J.Env} {QL : List D → J.Env → Prop} {X : XQ} {d : D} {ds : List D}
def alR (i : Nat) (QL : List D → J.Env → Prop) (ds : List D) (e : J.Env) : Option (Option D) → Prop := fun o => match o with
  | some (some d) => QL (d :: ds) (e.set i none)
  | _ => False
def alQ (i : Nat) (QL : List D → J.Env → Prop) : List D → J.Env → Prop := fun ds e => alR i QL ds e e[i]?
def alP (af : J.Env → R (List D)) (i : Nat) (env : J.Env) (QL : List D → J.Env → Prop) (X : XQ) : Option (Option D) → Prop := fun o => match o with
  | some (some _) => Wr (af env) (alQ i QL) X
  | _ => False
theorem wz_al {i : Nat} : Wr (argL i af env) QL X ↔ alP af i env QL X env[i]? := by
  unfold argL alP
  cases env[i]? with
  | none => exact Iff.rfl
  | some z => cases z with
    | none => exact Iff.rfl
    | some d =>
      dsimp only
      cases af env with
      | ok ds e =>
        have e1 : Wr (R.ok ds e) (alQ i QL) X ↔ alR i QL ds e e[i]? := Iff.rfl
        rw [e1]
        unfold alR
        dsimp only
        cases e[i]? with
        | none => exact Iff.rfl
        | some z => cases z <;> exact Iff.rfl
      | ex => exact Iff.rfl
      | no => exact Iff.rfl
theorem wz_alP {i : Nat} : alP af i env QL X (some (some d)) ↔ Wr (af env) (alQ i QL) X := Iff.rfl
theorem wz_alQ {i : Nat} : alQ i QL ds e ↔ alR i QL ds e e[i]? := Iff.rfl
theorem wz_alR {i : Nat} : alR i QL ds e (some (some d)) ↔ QL (d :: ds) (e.set i none) := Iff.rfl
end
end J
/-! repr of lists, tuples and dicts in one another: only a dict's own address matters -/
namespace J
open PySem L2 PySem.Spec PyProof.Rows
mutual
inductive Rn (h : Heap) : Value → PyData → List Addr → Prop
  | plain {v : Value} {d : PyData} {as : List Addr} (r : Reads h v d as) (n : d.hasDict = false) : Rn h v d as
  | lst {a : Addr} {o : Obj} {vs : Array Value} {n : Nat} {xs : List PyData} {as : List Addr} (e : h.get? a = some o) (c : o.cls = .type "list") (y : o.data = .seq vs n) (t : RnA h vs.toList xs as) : Rn h (.ref a) (.list xs) (a :: as)
  | tup {a : Addr} {o : Obj} {vs : Array Value} {n : Nat} {xs : List PyData} {as : List Addr} (e : h.get? a = some o) (c : o.cls = .type "tuple") (y : o.data = .seq vs n) (t : RnA h vs.toList xs as) : Rn h (.ref a) (.tuple xs) as
  | dct {a : Addr} {o : Obj} {es : Array DictEntry} {n : Nat} {kvs : List (PyData × PyData)} {as bs : List Addr} (e : h.get? a = some o) (c : o.cls = .type "dict") (y : o.data = .dict es n) (g : (a == sysModules) = false) (t1 : RnA h (es.toList.map (·.key)) (kvs.map (·.1)) as) (t2 : RnA h (es.toList.map (·.val)) (kvs.map (·.2)) bs) : Rn h (.ref a) (.dict kvs) (a :: as ++ bs)
inductive RnA (h : Heap) : List Value → List PyData → List Addr → Prop
  | nil : RnA h [] [] []
  | cons {v : Value} {vs : List Value} {d : PyData} {ds : List PyData} {as bs : List Addr} (r : Rn h v d as) (t : RnA h vs ds bs) : RnA h (v :: vs) (d :: ds) (as ++ bs)
end
section
variable {h : Heap}
mutual
theorem Rn.rd : ∀ {v : Value} {d : PyData} {as : List Addr}, Rn h v d as → Reads h v d as
  | _, _, _, .plain r _ => r
  | _, _, _, .lst e c y t => .list e c y t.rd
  | _, _, _, .tup e c y t => .tuple e c y t.rd
  | _, _, _, .dct e c y _ t1 t2 => .dict e c y t1.rd t2.rd
theorem RnA.rd : ∀ {vs : List Value} {ds : List PyData} {as : List Addr}, RnA h vs ds as → ReadsAll h vs ds as
  | _, _, _, .nil => .nil
  | _, _, _, .cons r t => .cons r.rd t.rd
end
variable {P : Program} {w : World}
end
end J
/-! repr of any data: lists, tuples, dicts in one another -/
namespace J
open PySem L2 PySem.Spec PyProof.Rows
mutual
inductive DpZ (K : PySem.W.Frag) (H : Hp) : V → PyData → Prop
  | non : DpZ K H .non .none
  | bl (b : Bool) : DpZ K H (.bl b) (.bool b)
  | int (i : Int) : DpZ K H (.int i) (.int i)
  | str (x : Str) : DpZ K H (.str x) (.str x)
  | lst {a : Addr} {xs : List V} {ds : List PyData} (h : SqL K H a xs) (t : DpZA K H xs ds) : DpZ K H (.ref a) (.list ds)
  | tup {a : Addr} {xs : List V} {ds : List PyData} (h : SqT K H a xs) (t : DpZA K H xs ds) : DpZ K H (.ref a) (.tuple ds)
  | dk {a : Addr} {ks : List Key} {vs : List V} {ds : List PyData} (h : H a = some (.dK (ks.zip vs))) (l : ks.length = vs.length) (t : DpZA K H vs ds) : DpZ K H (.ref a) (.dict ((ks.map keyP).zip ds))
inductive DpZA (K : PySem.W.Frag) (H : Hp) : List V → List PyData → Prop
  | nil : DpZA K H [] []
  | cons {v : V} {vs : List V} {d : PyData} {ds : List PyData} (h : DpZ K H v d) (t : DpZA K H vs ds) : DpZA K H (v :: vs) (d :: ds)
end
theorem DpZA.length {K : PySem.W.Frag} {H : Hp} : ∀ {vs : List V} {ds : List PyData}, DpZA K H vs ds → vs.length = ds.length
  | _, _, .nil => rfl
  | _, _, .cons _ t => by rw [List.length_cons, List.length_cons, t.length]
end J
/-! isinstance of the exception that a suite holds, when it has a dict of its own -/
namespace J
open PySem L2 PySem.Spec PyProof.Rows
section
variable {P : Program} {w : World} {A : Around} {E : Value → Shared → Prop} {s : Shared} {K : PySem.W.Frag} {x D : Addr} {ox : Obj} {od : Option Obj}
theorem find_desc {nm : Str} {g a : Value} (c1 : (PySem.W.clsIn K D).isSome = true) (c2 : PySem.W.findIn K (.ref D) nm = some (some a)) (c3 : PySem.W.specialIn K a "__get__" = some (some g)) (c4 : PySem.W.takesIn K a = some true) : PySem.W.findObj K D od nm = some (.bind g a) := by
  obtain ⟨cd, c1⟩ := Option.isSome_iff_exists.mp c1
  simp [PySem.W.findObj, c1, c2, c3, c4]
theorem cls_attr (X : ExcC K D) (hK : K.In s.heap) (I : PySem.W.InstAt s.heap x ox D od) {Q : Option Value → Shared → Prop} (q : Q (some (.ref D)) { s with toks := s.toks + 1 }) : wpAny (model P w) A (getAttr? (.ref x) "__class__") Q E s := by
  obtain ⟨cdD, hcD, -⟩ := PySem.W.any_some X.hd
  have ff : PySem.W.findObj K D od "__class__" = some (.bind (.builtin "getset_descriptor.__get__") (.builtin "object.__class__")) := find_desc (by rw [hcD]; rfl) X.ha X.hn X.ht
  obtain ⟨hp, g, d, t, os⟩ := s
  have k0 := I.type (M := model P w)
  have k1 := PySem.W.looks_findIn (M := model P w) hK X.hg
  have k2 := PySem.W.looks_findIn (M := model P w) hK X.hk
  have k3 := PySem.W.looks_find (M := model P w) hK I ff
  have kb : PySem.W.Looks (model P w) hp (isInstance (.ref x) (.type "BaseException")) true := k0.andThen (PySem.W.looks_subIn hK X.hs)
  have y0 : (false && onTheHeap (Value.builtin "BaseException.__getattribute__")) = false := rfl
  have y1 : (onTheHeap (Value.ref D) && Value.builtin "BaseException.__getattribute__" == Value.builtin "object.__getattribute__") = false := by
    rw [show (Value.builtin "BaseException.__getattribute__" == Value.builtin "object.__getattribute__") = false by decide +kernel]; rfl
  unfold getAttr?
  unfold getAttrBy? getAttrBy
  refine wpAny_bind (wpAny_mkText (wpAny_bind (wpAny_attempt (wpAny_holding (wpAny_bind (k0.at (wpAny_bind (k1.at ?_))))))))
  change wpAny _ _ (if (onTheHeap (Value.ref D) && Value.builtin "BaseException.__getattribute__" == Value.builtin "object.__getattribute__") = true then _ else _) _ _ _
  rw [y1, if_neg (by decide)]
  unfold getAttrByItsOwn
  unfold hookBefore
  refine wpAny_bind ?_
  rw [if_pos (by rfl : onTheHeap (Value.ref D) = true)]
  refine k2.at ?_
  refine (wpAny_bind (wpAny_attempt (wpAny_holding ?_)))
  unfold callGetattribute
  rw [y0, if_neg (by decide)]
  unfold boundAndCalled
  rw [F.excAttr_ValueError.ga.bind (.ref x)]
  refine wpAny_bind (wpAny_pure ?_)
  change wpAny _ _ (call (.builtin "BaseException.__getattribute__") [.ref x, .str "__class__" t]) _ _ _
  refine wpAny_call (codeAny_call_builtin F.excAttr_ValueError.ga.plain F.entry_bexc_ga ?_)
  refine @PySem.W.check_slot (model P w) _ _ ⟨hp, g, d, t + 1, os⟩ "BaseException.__getattribute__" "BaseException" "__getattribute__" (.ref x) [.str "__class__" t] [] _ (by decide +kernel) (by decide +kernel) kb (PySem.F.args_bexc_ga (.ref x) (.str "__class__" t)) ?_
  unfold PySem.Builtin.«object.__getattribute__»
  refine wpAny_bind (wpAny_of_eq (a := ((Value.ref x : Value), [Value.str "__class__" t])) (by first | rfl | (unfold slotArgs; rfl)) ?_)
  refine wpAny_bind (wpAny_pure (wpAny_bind (k0.at (wpAny_bind (k3.at ?_)))))
  change wpAny _ _ (holding [Value.builtin "object.__class__"] (call (.builtin "getset_descriptor.__get__") [.builtin "object.__class__", .ref x, .ref D]) >>= ret) _ _ _
  refine wpAny_bind (wpAny_holding (wpAny_call (PySem.W.class_get (s := ⟨hp, g, d, t + 1, os⟩) (ox := ox) (od := od) hK I X.hm ?_)))
  refine wpAny_pure ?_
  change wpAny _ _ (handedOut (.ref D)) _ _ _
  rw [PySem.W.handedOut_of (v := .ref D) rfl]
  first
    | exact wpAny_pure (wpAny_pure q)
    | exact wpAny_pure q
    | exact wpAny_pure (wpAny_bind (wpAny_pure (wpAny_pure q)))
theorem kit_exc (X : ExcC K D) : PySem.W.KitX K (.ref x) (.ref D) (fun h => PySem.W.InstAt h x ox D od) := by
  obtain ⟨cdD, hcD, -⟩ := PySem.W.any_some X.hd
  refine ⟨fun _ _ _ I => I.type, fun _ _ hK _ => ?_, fun h tp dd its n sl hK htp => ?_, fun hK I q => cls_attr X hK I q⟩
  · unfold PySem.W.clsIn at hcD
    split at hcD
    case h_2 => cases hcD
    rename_i c1 d1 cd1 sl1 ho
    intro A' Q' E' s' k q
    unfold isType loadHead
    exact (wpAny_bind (wpAny_loadPart (k _ _ (hK _ _ ho)) (wpAny_pure q)))
  · refine Bool.eq_false_iff.mpr fun q => ?_
    obtain rfl : D = tp := Value.ref.inj (beq_iff_eq.mp q)
    unfold PySem.W.clsIn at hcD
    split at hcD
    case h_2 => cases hcD
    rename_i c1 d1 cd1 sl1 ho
    have y := (hK _ _ ho).symm.trans htp
    cases y
end
/-- isinstance(e, c), e held, its dict at dd -/
def rIsX (K : PySem.W.Frag) (D a dd : Addr) : List V → Hp → VK → Prop := fun xs H Q => ∃ (fs : List (Str × V)) (c : V) (cv : Value) (b : Bool), H dd = some (.xd fs) ∧ xs = [.ref a, c] ∧ (∀ u, RelV c u → u = cv) ∧ PySem.W.kitOne K (.ref D) cv = some b ∧ Q (.bl b) H
end J
/-! isinstance(e, X) in a suite: the pure word; repr by reprZ -/
namespace J
open PySem L2 PySem.Spec PyProof.Rows
def isxF (i : Nat) (t : List (Nat × Bool)) (c : Nat) : J.Env → R D := fun env => match env[i]? with
  | some (some .exc) => (match t.lookup c with
    | some b => .ok (.bl b) env
    | none => .no)
  | _ => .no
section
variable {K : PySem.W.Frag} {C : CT} {W : Wish} {H : Hp} {σ : L2.St} {z : ZT}
theorem i_isx {i : Nat} {t : List (Nat × Bool)} {cv : V} {cu : Value} {Q : VK} (hcv : ∀ u, RelV cv u → u = cu) (kt : ∀ k b, t.lookup k = some b → PySem.W.kitOne K (.ref (C k)) cu = some b) (h : tOf K (C.hold z) W (isxF i t z.c) σ H Q) : tCB (rIsX K (C z.c) z.a z.dd) (tCons (tVar i) (tCons (tC cv) tNil)) σ H Q := by
  obtain ⟨M0, env, F, r, h⟩ := h
  unfold isxF at h
  cases he : env[i]? with
  | none => rw [he] at h; exact False.elim h
  | some y => cases y with
    | none => rw [he] at h; exact False.elim h
    | some d => cases d with
      | exc =>
        rw [he] at h
        dsimp only at h
        obtain ⟨v, G, F1, F2, hσ, hv, _⟩ := r.rep.at he
        obtain ⟨h1, h2, h3⟩ := r.zd z rfl
        have hva : v = .ref z.a := by
          cases hv
          rw [CT.hold_999]
        subst hva
        cases hl : t.lookup z.c with
        | none => rw [hl] at h; exact False.elim h
        | some b =>
          rw [hl] at h
          exact ⟨.ref z.a, hσ, _, cv, cu, b, (hide_some h1).1, rfl, hcv, kt _ _ hl, h (.bl b) H F (r.data (.bl b)) .refl⟩
      | _ => rw [he] at h; exact False.elim h
end
theorem kit_mk {K : PySem.W.Frag} {S D : Addr} {b : Bool} (h2 : PySem.W.isClsIn K S = true) (h3 : PySem.W.typeIn K (.ref S) = some (.type "type")) (h4 : PySem.W.subIn K (.ref D) (.ref S) = some b) (h5 : PySem.W.subIn K (.ref S) (.ref S) = some true) : PySem.W.kitOne K (.ref D) (.ref S) = some b := by
  by_cases e : D = S
  · subst e
    rw [h5] at h4
    obtain rfl := Option.some.inj h4
    show (if (Value.ref D == Value.ref D) = true then some true else _) = some true
    rw [if_pos (beq_self_eq_true _)]
  · have e1 : (Value.ref D == Value.ref S) = false := Bool.eq_false_iff.mpr fun q => e (Value.ref.inj (beq_iff_eq.mp q))
    have e2 : ((PySem.W.clsIn K S).isSome && PySem.W.typeIn K (.ref S) == some (.type "type")) = true := by
      have h2' : (PySem.W.clsIn K S).isSome = true := h2
      rw [h2', h3]; rfl
    show (if (Value.ref D == Value.ref S) = true then some true else if ((PySem.W.clsIn K S).isSome && PySem.W.typeIn K (.ref S) == some (.type "type")) = true then PySem.W.subIn K (.ref D) (.ref S) else none) = some b
    rw [e1, if_neg (by decide), if_pos e2]
    exact h4
section
variable {env : J.Env} {QD : D → J.Env → Prop} {X : XQ} {i c : Nat} {t : List (Nat × Bool)} {d : D} {b : Bool}
def isQ (t : List (Nat × Bool)) (c : Nat) (env : J.Env) (QD : D → J.Env → Prop) : Option (Option D) → Prop := fun o => match o with
  | some (some .exc) => isR env QD (t.lookup c)
  | _ => False
where isR (env : J.Env) (QD : D → J.Env → Prop) : Option Bool → Prop := fun o => match o with
  | some b => QD (.bl b) env
  | none => False
theorem wz_isx : Wr (isxF i t c env) QD X ↔ isQ t c env QD env[i]? := by
  unfold isxF isQ Wr
  cases env[i]? with
  | none => exact Iff.rfl
  | some z => cases z with
    | none => exact Iff.rfl
    | some d =>
      cases d <;> try exact Iff.rfl
      dsimp only
      unfold isQ.isR
      cases t.lookup c <;> exact Iff.rfl
theorem wz_isQ : isQ t c env QD (some (some .exc)) ↔ isQ.isR env QD (t.lookup c) := Iff.rfl
theorem wz_isR : isQ.isR env QD (some b) ↔ QD (.bl b) env := Iff.rfl
end
end J
/-! xs[a].append(k), k a number that stands there -/
namespace J
open PySem L2 PySem.Spec PyProof.Rows
def apAtO (i : Nat) (fa : J.Env → Option D) (k : Int) : J.Env → Out := fun env => match fa env, env[i]? with
  | some (.int a), some (some (.lst true rows)) => (match ixN rows.length a with
    | some ja => (match rows[ja]? with
      | some (.lst true xs) => if xs.length < 1000000 then .nx (env.set i (some (.lst true (rows.set ja (.lst true (xs ++ [.int k])))))) else .no
      | _ => .no)
    | none => .no)
  | _, _ => .no
section
variable {fa : J.Env → Option D} {env : J.Env} {Q : Out → Prop} {k a : Int} {i j : Nat} {rows xs : List D}
def aaR (i : Nat) (k : Int) (rows : List D) (env : J.Env) (Q : Out → Prop) (j : Nat) : Option D → Prop := fun o => match o with
  | some (.lst true xs) => xs.length < 1000000 ∧ Q (.nx (env.set i (some (.lst true (rows.set j (.lst true (xs ++ [.int k])))))))
  | _ => False
def aaQ (i : Nat) (k : Int) (rows : List D) (env : J.Env) (Q : Out → Prop) : Option Nat → Prop := fun o => match o with
  | some j => aaR i k rows env Q j rows[j]?
  | none => False
def aaP (i : Nat) (k : Int) (env : J.Env) (Q : Out → Prop) : Option D → Option (Option D) → Prop := fun o o2 => match o, o2 with
  | some (.int a), some (some (.lst true rows)) => aaQ i k rows env Q (ixN rows.length a)
  | _, _ => False
theorem wz_apAt : Wo (apAtO i fa k env) Q ↔ aaP i k env Q (fa env) env[i]? := by
  unfold apAtO aaP
  split
  · rename_i ka rows ea ei
    unfold aaQ
    cases ixN rows.length ka with
    | none => exact Iff.rfl
    | some j =>
      dsimp only
      unfold aaR
      split
      · rename_i xs e
        by_cases h : xs.length < 1000000
        · rw [if_pos h]; exact ⟨fun z => ⟨h, z⟩, fun z => z.2⟩
        · rw [if_neg h]; exact ⟨fun z => False.elim z, fun z => absurd z.1 h⟩
      · exact Iff.rfl
  · exact Iff.rfl
theorem wz_aaP : aaP i k env Q (some (.int a)) (some (some (.lst true rows))) ↔ aaQ i k rows env Q (ixN rows.length a) := Iff.rfl
theorem wz_aaQ : aaQ i k rows env Q (some j) ↔ aaR i k rows env Q j rows[j]? := Iff.rfl
theorem wz_aaR (h : xs.length < 1000000) : aaR i k rows env Q j (some (.lst true xs)) ↔ Q (.nx (env.set i (some (.lst true (rows.set j (.lst true (xs ++ [.int k]))))))) := ⟨fun z => z.2, fun z => ⟨h, z⟩⟩
end
end J
/-! x != y, two instances of a class with an == of its own -/
namespace J
open PySem L2 PySem.Spec PyProof.Rows
def isIns (c : Nat) : D → Bool
  | .ins _ c' _ _ => c' == c
  | _ => false
end J
namespace J
open PySem L2 PySem.Spec PyProof.Rows
/-! isinstance(x, C), x an instance of C -/
def isiI (c : Nat) (d : D) : Option D := if isIns c d then some (.bl true) else none
end J
namespace J
open PySem L2 PySem.Spec PyProof.Rows
theorem wa_isiIt {c : Nat} {o : Bool} {ns : List Str} {ds : List D} : isiI c (.ins o c ns ds) = some (.bl true) := by
  have h : isIns c (.ins o c ns ds) = true := beq_self_eq_true c
  unfold isiI
  rw [if_pos h]
end J
namespace J
open PySem L2 PySem.Spec PyProof.Rows
/-! == and != of things read alone -/
theorem b_neD {K : PySem.W.Frag} {C : CT} : BOp2 K C (rNeD K) neD := by
  rintro M H v w d e x F Q ⟨_, _, hv⟩ ⟨_, _, hw⟩ eg q
  unfold neD at eg
  split at eg
  · rename_i hs
    simp only [shp, Bool.and_eq_true] at hs
    obtain rfl := Option.some.inj eg
    exact ⟨_, _, rep_dp hv hs.1.1, rep_dp hw hs.2.1, hs.1.2, hs.2.2, q (.bl _) ⟨[], fun _ h => absurd h List.not_mem_nil, .bl _⟩⟩
  · cases eg
end J
namespace J
open PySem L2 PySem.Spec PyProof.Rows
section
variable {X : Cx} {C : CT} {W : WX} {a b : Expr} {pos : Pos} {g g2 : J.Env → Option D}
theorem tb_ne (hu : X.A.units + 64 < cLine) (ha : PE X a (bOf X.K C g)) (hb : PE X b (bOf X.K C g2)) (hm : behindInMarks .NotEq b = false) : PT X (.Compare a [.NotEq] [b] pos) (TT_ X C W (asB (toT (bop2 neD g g2)))) := (pt_cmpR (op_neD hu) ha hb hm).imp fun σ H Q q => i_bop2 b_neD (i_toT (i_asB q))
end
end J
/-! goals that no tactic unfolds (refine, obtain look at a goal's head: a run would be walked) -/
namespace J
open PySem L2 PySem.Spec PyProof.Rows
structure Hid (p : Prop) : Prop where
  h : p
theorem hid_true : Hid True ↔ True := ⟨fun _ => trivial, fun _ => ⟨trivial⟩⟩
theorem eq_of_WrH {α : Type} {r : R α} {a : α} {e : J.Env} (h : ∀ Q : α → J.Env → Prop, Q a e → Hid (Wr r Q noX)) : r = .ok a e := eq_of_Wr fun Q hQ => (h Q hQ).h
section
variable {g : D → J.Env → Option J.Env} {e : J.Env} {Q : Out → Prop} {X : XQ} {ds xs : List D} {s : J.Env → Out} {cb : J.Env → R Bool} {fx : J.Env → R D} {vs : List Nat} {QD : D → J.Env → Prop} {QL : List D → J.Env → Prop} {α : Type} {f : α → D} {l : List α}
theorem W_forPH (I : List α → J.Env → Prop) (h0 : I [] e) (hs : ∀ done a rest e, l = done ++ a :: rest → I done e → Hid (Wg (g (f a) e) (bodQ s (I (done ++ [a])) Q))) (hq : ∀ e, I l e → Hid (Q (.nx e))) : Hid (Wo (forL g s (l.map f) e) Q) := ⟨W_forP I h0 (fun d a r e x y => (hs d a r e x y).h) fun e h => (hq e h).h⟩
theorem W_compPH (I : List α → List D → J.Env → Prop) (h0 : I [] [] e) (hs : ∀ done a rest acc e, l = done ++ a :: rest → I done acc e → Hid (Wg (g (f a) e) (cbQ cb fx vs (I (done ++ [a]) acc) (fun x => I (done ++ [a]) (acc ++ [x]))))) (hq : ∀ acc e, I l acc e → Hid (QD (.lst true acc) e)) : Hid (Wr (compL g cb fx vs [] (l.map f) e) QD X) := ⟨W_compP I h0 (fun d a r c e x y => (hs d a r c e x y).h) fun a e h => (hq a e h).h⟩
end
end J
/-! xs.count(b), b a truth value that stands there -/
namespace J
open PySem L2 PySem.Spec PyProof.Rows
section
variable {X : Cx}
def rCountD (K : PySem.W.Frag) : V → List V → Hp → VK → Prop := fun x xs H Q => ∃ (a : Addr) (y : V) (d : PyData) (ds : List PyData), x = V.ref a ∧ xs = [y] ∧ Dp K H (V.ref a) (.list ds) ∧ Dp K H y d ∧
  SeqAt.shaped (.list ds) = true ∧ SeqAt.shaped d = true ∧ Q (.int ((ds.countP fun z => PyData.eqv z d : Nat) : Int)) H
theorem mt_countD (hu : X.A.units + 65 < cLine) : MtR X "list.count" (rCountD X.K) := by
  intro pins s σ H x xs v us Q I rx rxs h
  obtain ⟨a, y, d, ds, rfl, rfl, hl, hy, sl, sd, q⟩ := h
  cases rx
  cases rxs with
  | cons ry rt =>
    rename_i uy ut
    cases rt
    obtain ⟨bs, r1⟩ := Dp.reads I d y uy hy ry
    have hxs : PyData.canLayAll0 ds = true := SeqAt.canLay_of_shaped sl
    have hroom : X.A.units + 1 + min (PyData.depthAll ds) d.depth < cLine := room_in_shaped sd hu
    cases hl with
    | lst hs ha =>
      obtain ⟨its, rv, ⟨ol, n, ho, hc, hdn, hdt⟩, hlen⟩ := I.list hs
      obtain ⟨as, h4⟩ := Dp.readsAll I ds _ its ha rv
      exact SeqAt.count_list_data (vs := its.toArray) (xs := ds) (d := d) ⟨ol, ho, hc, n, hdt⟩ (by simpa using h4) r1 (PyData.plainAll_of_canLay0 ds hxs) (PyData.plain_of_canLay0 d (SeqAt.canLay_of_shaped sd)) hroom ⟨.int _, H, I.tok _, ⟨_, rfl⟩, q⟩
end
def cntB (b : Bool) (d : D) : Option D := match d with
  | .lst _ ds => if shp d then some (.int (((D.toPL ds).countP fun z => PyData.eqv z (.bool b) : Nat) : Int)) else none
  | _ => none
section
variable {K : PySem.W.Frag} {C : CT} {W : Wish} {σ : L2.St} {H : Hp} {f : J.Env → R D} {b : Bool}
theorem i_cnt {Q : VK} (h : tOf K C W (lift1 (cntB b) f) σ H Q) : tBM K "list" (rCountD K) (tOf K C W f) (tCons (tC (.bl b)) tNil) σ H Q := by
  refine then_tOf (k := fun d e => match cntB b d with | some x => .ok x e | none => .no) (t := fun x _ H1 Q => tyV K "list" x H1 ∧ rCountD K x [.bl b] H1 Q) h ?_
  intro d e1 v H1 M0 F r1 h1
  cases ey : cntB b d with
  | none => rw [ey] at h1; exact h1.elim
  | some y =>
    rw [ey] at h1
    unfold cntB at ey
    split at ey
    case h_2 => cases ey
    rename_i o ds
    split at ey
    case isFalse => cases ey
    rename_i hs
    obtain rfl := Option.some.inj ey
    simp only [shp, Bool.and_eq_true] at hs
    obtain ⟨F1, F2, eF, hv, _⟩ := r1.pop
    obtain ⟨a, vs, G, rfl, ha, t, -⟩ := hv.lstR
    refine ⟨.inl ⟨rfl, _, .of ha⟩, a, .bl b, .bool b, _, rfl, rfl, rep_dp hv hs.1, .bl b, hs.2, rfl, ?_⟩
    exact Rel.sc1 r1 (.int _) h1
end
section
variable {X : Cx} {C : CT} {W : WX} {f : J.Env → R D} {e : Expr} {b : Bool}
theorem z_cnt (h : PE X e (tBM X.K "list" (rCountD X.K) (T_ X C W f) (tCons (tC (.bl b)) tNil))) : PE X e (T_ X C W (lift1 (cntB b) f)) := h.imp fun _ _ _ q => i_cnt q
end
end J
/-! d[k] = b, sorted(d): dicts with keys that are ints or texts -/
namespace J
open PySem L2 PySem.Spec PyProof.Rows
def hasK (ks : List Key) (k : Key) : Bool := ks.any fun z => decide (z = k)
def putZ {α : Type} : List Key → List α → Key → α → List α
  | k' :: ks, x' :: xs, k, x => (if k' = k then x else x') :: putZ ks xs k x
  | _, _, _, _ => []
def dkK (ks : List Key) (k : Key) : List Key := if hasK ks k then ks else ks ++ [k]
def dkV {α : Type} (ks : List Key) (xs : List α) (k : Key) (x : α) : List α := if hasK ks k then putZ ks xs k x else xs ++ [x]
/-- d[k] = b -/
def dputO (i : Nat) (fk : J.Env → R D) (b : Bool) : J.Env → Out := fun env => match env[i]? with
  | some (some (.dK true _ _)) => (match fk env with
    | .ok kd e => (match keyD kd, e[i]? with
      | some k, some (some (.dK true ks ds)) => if ks.length < 1000000 ∧ D.noOwnL ds = true then .nx (e.set i (some (.dK true (dkK ks k) (dkV ks ds k (.bl b))))) else .no
      | _, _ => .no)
    | .no => .no
    | .ex c ns ds e => .ex c ns ds e)
  | _ => .no
/-! sorted(d) -/
section
variable {fk : J.Env → R D} {env e : J.Env} {Q : Out → Prop} {i : Nat} {b : Bool} {d : D} {k : Key} {ks : List Key} {ds : List D}
def dpR (i : Nat) (b : Bool) (Q : Out → Prop) (e : J.Env) : Option Key → Option (Option D) → Prop := fun o o2 => match o, o2 with
  | some k, some (some (.dK true ks ds)) => (ks.length < 1000000 ∧ D.noOwnL ds = true) ∧ Q (.nx (e.set i (some (.dK true (dkK ks k) (dkV ks ds k (.bl b))))))
  | _, _ => False
def dpQ (i : Nat) (b : Bool) (Q : Out → Prop) (d : D) (e : J.Env) : Prop := dpR i b Q e (keyD d) e[i]?
def dpP (i : Nat) (fk : J.Env → R D) (b : Bool) (env : J.Env) (Q : Out → Prop) : Option (Option D) → Prop := fun o => match o with
  | some (some (.dK true _ _)) => Wr (fk env) (dpQ i b Q) (exQ Q)
  | _ => False
theorem wz_dput : Wo (dputO i fk b env) Q ↔ dpP i fk b env Q env[i]? := by
  unfold dputO dpP
  split
  · skip
    generalize fk env = z
    cases z with
    | ok d e =>
      have e1 : Wr (R.ok d e) (dpQ i b Q) (exQ Q) ↔ dpR i b Q e (keyD d) e[i]? := Iff.rfl
      rw [e1]
      dsimp only
      unfold dpR
      split
      · rename_i ks ds ek ei
        by_cases h : ks.length < 1000000 ∧ D.noOwnL ds = true
        · rw [if_pos h]; exact ⟨fun z => ⟨h, z⟩, fun z => z.2⟩
        · rw [if_neg h]; exact ⟨fun z => False.elim z, fun z => absurd z.1 h⟩
      · exact Iff.rfl
    | ex => exact Iff.rfl
    | no => exact Iff.rfl
  · exact Iff.rfl
theorem wz_dpP : dpP i fk b env Q (some (some (.dK true ks ds))) ↔ Wr (fk env) (dpQ i b Q) (exQ Q) := Iff.rfl
theorem wz_dpQ {n : Int} : dpQ i b Q (.int n) e ↔ dpR i b Q e (some (.inl n)) e[i]? := Iff.rfl
theorem wz_dpR (h1 : ks.length < 1000000) (h2 : D.noOwnL ds = true) : dpR i b Q e (some k) (some (some (.dK true ks ds))) ↔ Q (.nx (e.set i (some (.dK true (dkK ks k) (dkV ks ds k (.bl b)))))) := ⟨fun z => z.2, fun z => ⟨⟨h1, h2⟩, z⟩⟩
end
end J
/-! an expression that reads alone, its value without lists: what is owned stays owned -/
namespace J
open PySem L2 PySem.Spec PyProof.Rows
def fzE (e : J.Env) : J.Env := e.map (Option.map D.fz)
mutual
def D.flatT : D → Bool
  | .non => true | .bl _ => true | .int _ => true | .str _ => true
  | .tup xs => D.flatTL xs
  | _ => false
def D.flatTL : List D → Bool
  | [] => true
  | d :: ds => d.flatT && D.flatTL ds
end
def roF (f : J.Env → R D) : J.Env → R D := fun env => match f (fzE env) with
  | .ok d _ => if d.flatT then .ok d env else .no
  | _ => .no
section
variable {K : PySem.W.Frag} {C : Nat → Addr} {M M' : Addr → Prop} {H : Hp}
theorem repO_fz (m : ∀ b, M' b → M b) : ∀ {σ : List (Option V)} {e : J.Env} {F : List Addr}, RepO K C M H σ e F → (∀ b ∈ F, ¬ M' b) → RepO K C M' H σ (fzE e) []
  | _, _, _, .nil, _ => .nil
  | _, _, _, .gone t, k => .gone (repO_fz m t k)
  | _, _, _, .have_ h t, k => .have_ (F := []) (G := []) (rep_fz m h fun b hb => k b (List.mem_append_left _ hb)) (repO_fz m t fun b hb => k b (List.mem_append_right _ hb))
mutual
theorem rep_flat (m : ∀ b vs, hide M H b = some (.tup vs) → hide M' H b = some (.tup vs)) : ∀ {v : V} {d : D} {F : List Addr}, Rep K C M H v d F → d.flatT = true → Rep K C M' H v d []
  | _, _, _, .non, _ => .non
  | _, _, _, .bl b, _ => .bl b
  | _, _, _, .int i, _ => .int i
  | _, _, _, .str x, _ => .str x
  | _, _, _, .hole v, k => nomatch k
  | _, _, _, .exc, k => nomatch k
  | _, _, _, .lst _ _ _, k => nomatch k
  | _, _, _, .own _ _, k => nomatch k
  | _, _, _, .scr _, k => nomatch k
  | _, _, _, .tup h t, k => .tup (m _ _ h) (repL_flat m t k)
  | _, _, _, .dKf _ _ _ _, k => nomatch k
  | _, _, _, .dKo _ _ _, k => nomatch k
  | _, _, _, .tK _ _ _ _, k => nomatch k
  | _, _, _, .dTf _ _ _ _, k => nomatch k
  | _, _, _, .dTo _ _ _, k => nomatch k
  | _, _, _, .insF _ _ _ _, k => nomatch k
  | _, _, _, .insO _ _ _, k => nomatch k
theorem repL_flat (m : ∀ b vs, hide M H b = some (.tup vs) → hide M' H b = some (.tup vs)) : ∀ {vs : List V} {ds : List D} {F : List Addr}, RepL K C M H vs ds F → D.flatTL ds = true → RepL K C M' H vs ds []
  | _, _, _, .nil, _ => .nil
  | _, _, _, .cons h t, k => by
    simp only [D.flatTL, Bool.and_eq_true] at k
    exact .cons (F := []) (G := []) (rep_flat m h k.1) (repL_flat m t k.2)
end
mutual
theorem rep_nt : ∀ {v : V} {d : D} {F : List Addr}, Rep K C M H v d F → ∀ b ∈ F, ∃ o, H b = some o ∧ ∀ vs, o ≠ .tup vs
  | _, _, _, .non, _, hb => nomatch hb
  | _, _, _, .bl _, _, hb => nomatch hb
  | _, _, _, .int _, _, hb => nomatch hb
  | _, _, _, .str _, _, hb => nomatch hb
  | _, _, _, .hole _, _, hb => nomatch hb
  | _, _, _, .exc, _, hb => nomatch hb
  | _, _, _, .lst _ _ t, b, hb => repL_nt t b hb
  | _, _, _, .scr _, _, hb => nomatch hb
  | _, _, _, .own h t, b, hb => by
    rcases List.mem_cons.mp hb with e | e
    · subst e
      exact ⟨_, h, fun vs z => by cases z⟩
    · exact repL_nt t b e
  | _, _, _, .tup _ t, b, hb => repL_nt t b hb
  | _, _, _, .dKf _ _ _ t, b, hb => repL_nt t b hb
  | _, _, _, .dKo h _ t, b, hb => by
    rcases List.mem_cons.mp hb with e | e
    · subst e
      exact ⟨_, h, fun vs z => by cases z⟩
    · exact repL_nt t b e
  | _, _, _, .tK _ _ _ t, b, hb => repL_nt t b hb
  | _, _, _, .dTf _ _ _ t, b, hb => repL_nt t b hb
  | _, _, _, .dTo h _ t, b, hb => by
    rcases List.mem_cons.mp hb with e | e
    · subst e
      exact ⟨_, h, fun vs z => by cases z⟩
    · exact repL_nt t b e
  | _, _, _, .insF _ _ _ t, b, hb => repL_nt t b hb
  | _, _, _, .insO h _ t, b, hb => by
    rcases List.mem_cons.mp hb with e | e
    · subst e
      exact ⟨_, h, fun vs z => by cases z⟩
    · exact repL_nt t b e
theorem repL_nt : ∀ {vs : List V} {ds : List D} {F : List Addr}, RepL K C M H vs ds F → ∀ b ∈ F, ∃ o, H b = some o ∧ ∀ vs, o ≠ .tup vs
  | _, _, _, .nil, _, hb => nomatch hb
  | _, _, _, .cons h t, b, hb => (List.mem_append.mp hb).elim (rep_nt h b) (repL_nt t b)
end
theorem repO_nt : ∀ {σ : List (Option V)} {e : J.Env} {F : List Addr}, RepO K C M H σ e F → ∀ b ∈ F, ∃ o, H b = some o ∧ ∀ vs, o ≠ .tup vs
  | _, _, _, .nil, _, hb => nomatch hb
  | _, _, _, .gone t, b, hb => repO_nt t b hb
  | _, _, _, .have_ h t, b, hb => (List.mem_append.mp hb).elim (rep_nt h b) (repO_nt t b)
end
section
variable {K : PySem.W.Frag} {C : CT} {W : Wish} {f : J.Env → R D} {σ : L2.St} {H H1 : Hp} {Q : VK} {M0 : Addr → Prop} {env e : J.Env} {F F1 : List Addr} {v : V} {d : D}
theorem Rel.frzAll (r : Rel K C M0 H σ env F) : Rel K C M0 H σ (fzE env) [] := by
  have sub : ∀ b, orF M0 [] b → orF M0 F b := fun b z => z.elim .inl fun z => nomatch z
  exact ⟨repO_fz sub r.rep fun b hb z => z.elim (r.dj b hb) fun z => absurd z List.not_mem_nil, List.nodup_nil, fun b hb => absurd hb List.not_mem_nil, r.al, r.zd.mono (hide_mono (.refl _) fun b z => .inl (sub b z))⟩
theorem Rel.unfrz (r : Rel K C M0 H σ env F) (r1 : Rel K C M0 H1 (some v :: σ) (some d :: e) F1) (s1 : Stp [] H F1 H1) (hd : d.flatT = true) : Rel K C M0 H1 (some v :: σ) (some d :: env) F := by
  have st : Same H H1 := fun b o q => s1.keep b o (fun z => nomatch z) q
  obtain ⟨Fa, Fb, eF, rv, -⟩ := r1.pop
  have rv2 : Rep K C (orF M0 F) H1 v d [] := rep_flat (fun b vs q => by
    obtain ⟨h1, h2⟩ := hide_some q
    rw [hide_out (M := orF M0 F) (fun z => ?_)]
    · exact h1
    · rcases z with z | z
      · exact h2 (.inl z)
      · obtain ⟨o, ho, no⟩ := repO_nt r.rep b z
        rw [st b o ho] at h1
        exact no vs (Option.some.inj h1)) rv hd
  exact ⟨.have_ (F := []) rv2 (repO_mono (hide_mono st fun b z => .inl z) r.rep fun b _ o q => st b o q), r.nd, r.dj, fun b z => (r.al b z).same st, r.zd.mono (hide_mono st fun b z => .inl z)⟩
theorem i_ro (h : tOf K C W (roF f) σ H Q) : tOf K C W f σ H Q := by
  obtain ⟨M0, env, F, r, h⟩ := h
  refine ⟨M0, fzE env, [], r.frzAll, ?_⟩
  unfold roF at h
  cases ef : f (fzE env) with
  | no => rw [ef] at h; exact h.elim
  | ex c ns ds e => rw [ef] at h; exact h.elim
  | ok d e =>
    rw [ef] at h
    dsimp only at h
    split at h
    case isFalse => exact h.elim
    rename_i hd
    intro v H1 F1 r1 s1
    exact h v H1 F (r.unfrz r1 s1 hd) ⟨fun b o _ q => s1.keep b o (fun z => nomatch z) q, fun b hb => .inl hb⟩
end
theorem q_ro {X : Cx} {C : CT} {W : WX} {a : Expr} {f : J.Env → R D} (h : PE X a (T_ X C W f)) : PE X a (T_ X C W (roF f)) := h.imp fun _ _ _ q => i_ro q
section
variable {f : J.Env → R D} {env e : J.Env} {QD : D → J.Env → Prop} {X : XQ} {d : D} {ds : List D} {s : Str} {i : Int} {b : Bool}
def roQ (QD : D → J.Env → Prop) (env : J.Env) : D → J.Env → Prop := fun d _ => d.flatT = true ∧ QD d env
theorem wz_ro : Wr (roF f env) QD X ↔ Wr (f (fzE env)) (roQ QD env) noX := by
  unfold roF
  generalize f (fzE env) = z
  cases z with
  | ok d e =>
    have e1 : Wr (R.ok d e) (roQ QD env) noX ↔ (d.flatT = true ∧ QD d env) := Iff.rfl
    rw [e1]
    dsimp only
    by_cases h : d.flatT = true
    · rw [if_pos h]; exact ⟨fun z => ⟨h, z⟩, fun z => z.2⟩
    · rw [if_neg h]; exact ⟨fun z => False.elim z, fun z => absurd z.1 h⟩
  | ex => exact Iff.rfl
  | no => exact Iff.rfl
theorem wz_roQ : roQ QD env d e ↔ d.flatT = true ∧ QD d env := Iff.rfl
theorem wl_ft0 : D.flatT .non = true := rfl
theorem wl_ft1 : D.flatT (.bl b) = true := rfl
theorem wl_ft2 : D.flatT (.int i) = true := rfl
theorem wl_ft3 : D.flatT (.str s) = true := rfl
theorem wl_ft4 : D.flatT (.tup ds) = D.flatTL ds := rfl
theorem wl_ft5 : D.flatTL [] = true := rfl
theorem wl_ft6 : D.flatTL (d :: ds) = (d.flatT && D.flatTL ds) := rfl
theorem wl_fe0 : fzE [] = [] := rfl
theorem wl_fe1 : fzE (none :: e) = none :: fzE e := rfl
theorem wl_fe2 : fzE (some d :: e) = some d.fz :: fzE e := rfl
end
theorem kit_ty {K : PySem.W.Frag} {T : String} {D : Addr} {b : Bool} (hm : PySem.W.kitMeta T = true) (h : PySem.W.subIn K (.ref D) (.type T) = some b) : PySem.W.kitOne K (.ref D) (.type T) = some b := by
  show (if (Value.ref D == Value.type T) = true then some true else if PySem.W.kitMeta T = true then PySem.W.subIn K (.ref D) (.type T) else none) = some b
  have e1 : (Value.ref D == Value.type T) = false := rfl
  rw [e1, if_neg (by decide), if_pos hm]
  exact h
end J
/-! str(i); == of texts, whatever they hold -/
/-! dicts with tuple keys: rules of the heap -/
/-! dicts of any keys, pure words: d[k], k in d, d[k] = x, displays, comprehensions -/
namespace J
open PySem L2 PySem.Spec PyProof.Rows
section
variable {κ : Type} [DecidableEq κ] {α β : Type}
def hasG (ks : List κ) (k : κ) : Bool := ks.any fun z => decide (z = k)
def putH : List κ → List α → κ → α → List α
  | k' :: ks, x' :: xs, k, x => (if k' = k then x else x') :: putH ks xs k x
  | _, _, _, _ => []
def gV (ks : List κ) (xs : List α) (k : κ) (x : α) : List α := if hasG ks k then putH ks xs k x else xs ++ [x]
end
section
variable {K : PySem.W.Frag} {C : CT} {W : Wish} {kp : List Nat} {M M0 : Addr → Prop} {H : Hp} {σ : L2.St} {env : J.Env} {F : List Addr}
theorem rd_hide {a : Addr} {u : HO} (h : Rd (hide M H) a u) : Rd H a u := rd_mono hide_le h
/-- what is read is what the pure word says -/
def DgOk (K : PySem.W.Frag) (C : CT) (M : Addr → Prop) (H : Hp) (F : List Addr) : Option D → Option V → Prop
  | some x, some u => ∃ G, Rep K C M H u x G ∧ ∀ b ∈ G, b ∈ F
  | none, none => True
  | _, _ => False
theorem DgOk.mono {F F' : List Addr} {o : Option D} {r : Option V} (h : DgOk K C M H F o r) (s : ∀ b ∈ F, b ∈ F') : DgOk K C M H F' o r := by
  cases o <;> cases r <;> try exact h
  obtain ⟨G, h1, h2⟩ := h
  exact ⟨G, h1, fun b hb => s b (h2 b hb)⟩
end
section
variable {K : PySem.W.Frag} {C : CT} {W : Wish} {kp : List Nat} {M M0 : Addr → Prop} {H H' : Hp} {σ : L2.St} {env : J.Env} {F F' : List Addr}
theorem lt_size {n : Nat} (h : n < 1000000) : n < sizeLine := Nat.lt_of_lt_of_le h (by rw [sizeLine_eq]; decide)
end
end J
/-! sorted(list of pairs), sorted(dict of pairs), list(dict of tuples) -/
/-! loops over dicts: a dict is locked while it is walked -/
namespace J
open PySem L2 PySem.Spec PyProof.Rows
mutual
/-- no dict with keys that are ints or texts, but tables -/
def D.noDK : D → Bool
  | .non => true | .bl _ => true | .int _ => true | .str _ => true | .hole => true | .exc => true | .scr _ => true
  | .lst _ xs => D.noDKL xs
  | .tup xs => D.noDKL xs
  | .dK o _ vs => o && D.noDKL vs
  | .tK _ vs => D.noDKL vs
  | .dT _ _ vs => D.noDKL vs
  | .ins _ _ _ vs => D.noDKL vs
def D.noDKL : List D → Bool
  | [] => true
  | d :: ds => d.noDK && D.noDKL ds
end
def noDKE : J.Env → Bool
  | [] => true
  | none :: e => noDKE e
  | some d :: e => d.noDK && noDKE e
/-- u is a dict's content -/
def Tab (u : HO) : Prop := (∃ kvs, u = .dT kvs) ∨ ∃ kvs, u = .dK kvs
/-- H' is H but for the lock of d -/
structure Lk (d : Addr) (u : HO) (H H' : Hp) : Prop where
  tab : Tab u
  old : Rd H d u
  new : Rd H' d u
  same : ∀ b, b ≠ d → H' b = H b
/-- nothing of the kind is seen as a dict that is not locked -/
def Lf (d : Addr) (u : HO) (H : Hp) : Prop := (∀ kvs, u ≠ .dK kvs) ∨ ∃ o, H d = some (.frz o u)
section
variable {K : PySem.W.Frag} {C : CT} {W : Wish} {kp : List Nat} {M M0 : Addr → Prop} {H H' : Hp} {σ : L2.St} {env : J.Env} {F F' : List Addr} {d : Addr} {u : HO}
theorem Lk.ne (L : Lk d u H H') {a : Addr} {o : HO} (h : H a = some o) (h1 : ∀ kvs, o ≠ .dT kvs) (h2 : ∀ kvs, o ≠ .dK kvs) (h3 : ∀ ob w, Tab w → o ≠ .frz ob w) : a ≠ d := by
  rintro rfl
  rcases L.old with q | ⟨ob, q⟩
  · rw [h] at q
    obtain rfl := Option.some.inj q
    rcases L.tab with ⟨kvs, e⟩ | ⟨kvs, e⟩
    · exact h1 _ e
    · exact h2 _ e
  · rw [h] at q
    exact h3 ob u L.tab (Option.some.inj q)
theorem Lk.hid (L : Lk d u H H') {a : Addr} (n : a ≠ d) : hide M H' a = hide M H a := by
  by_cases z : M a
  · rw [hide_in z, hide_in z]
  · rw [hide_out z, hide_out z, L.same a n]
theorem Lk.hideAt (L : Lk d u H H') {a : Addr} {o : HO} (h : hide M H a = some o) (h1 : ∀ kvs, o ≠ .dT kvs) (h2 : ∀ kvs, o ≠ .dK kvs) (h3 : ∀ ob w, Tab w → o ≠ .frz ob w) : hide M H' a = some o := by
  rw [L.hid (L.ne (hide_some h).1 h1 h2 h3)]; exact h
theorem frz_inj {o o' : Obj} {u u' : HO} (h : HO.frz o u = .frz o' u') : u = u' := by injection h
/-- a dict that may be locked -/
theorem Lk.rd (L : Lk d u H H') {a : Addr} {w : HO} (hw : Tab w) (h : Rd (J.hide M H) a w) : Rd (J.hide M H') a w := by
  by_cases n : a = d
  · subst n
    have hM : ¬ M a := by
      rcases h with h | ⟨o, h⟩
      · exact (hide_some h).2
      · exact (hide_some h).2
    have h0 : Rd H a w := rd_hide h
    have e : u = w := by
      rcases L.old with q | ⟨o, q⟩ <;> rcases h0 with r | ⟨o', r⟩ <;> rw [q] at r <;> have r := Option.some.inj r
      · exact r
      · subst r
        rcases L.tab with ⟨_, e⟩ | ⟨_, e⟩ <;> cases e
      · subst r
        rcases hw with ⟨_, e⟩ | ⟨_, e⟩ <;> cases e
      · exact frz_inj r
    subst e
    rcases L.new with q | ⟨o, q⟩
    · exact .inl (by rw [hide_out hM]; exact q)
    · exact .inr ⟨o, by rw [hide_out hM]; exact q⟩
  · rcases h with h | ⟨o, h⟩
    · exact .inl (by rw [L.hid n]; exact h)
    · exact .inr ⟨o, by rw [L.hid n]; exact h⟩
theorem Lk.sq (L : Lk d u H H') {a : Addr} {xs : List V} (h : SqL K (J.hide M H) a xs) : SqL K (J.hide M H') a xs := by
  rcases h with h | h
  · refine .inl ?_
    rcases h with h | ⟨o, h⟩
    · exact .inl (L.hideAt h (fun _ z => nomatch z) (fun _ z => nomatch z) fun _ _ _ z => nomatch z)
    · refine .inr ⟨o, L.hideAt h (fun _ z => nomatch z) (fun _ z => nomatch z) fun ob w t z => ?_⟩
      injection z with _ z
      subst z
      rcases t with ⟨_, e⟩ | ⟨_, e⟩ <;> cases e
  · exact .inr h
mutual
theorem rep_lk (L : Lk d u H H') : ∀ {v : V} {x : D} {F : List Addr}, Rep K C M H v x F → d ∉ F → (Lf d u H ∨ x.noDK = true) → Rep K C M H' v x F
  | _, _, _, .non, _, _ => .non
  | _, _, _, .bl b, _, _ => .bl b
  | _, _, _, .int i, _, _ => .int i
  | _, _, _, .str x, _, _ => .str x
  | _, _, _, .hole v, _, _ => .hole v
  | _, _, _, .exc, _, _ => .exc
  | _, _, _, .lst h e t, n, k => .lst (L.hideAt h (fun _ z => nomatch z) (fun _ z => nomatch z) fun _ _ _ z => nomatch z) e (repL_lk L t n k)
  | _, _, _, .scr h, _, _ => .scr (L.sq h)
  | _, _, _, .own h t, n, k => .own (by rw [L.same _ fun e => n (e ▸ List.mem_cons_self ..)]; exact h) (repL_lk L t (fun z => n (List.mem_cons_of_mem _ z)) k)
  | _, _, _, .tup h t, n, k => .tup (L.hideAt h (fun _ z => nomatch z) (fun _ z => nomatch z) fun _ _ _ z => nomatch z) (repL_lk L t n k)
  | _, _, _, .dKf (a := a) h l e t, n, k => by
    have na : a ≠ d := by
      rintro rfl
      have h0 := (hide_some h).1
      rcases k with (q | ⟨o, q⟩) | q
      · rcases L.old with z | ⟨o, z⟩
        · rw [h0] at z; exact q _ (Option.some.inj z).symm
        · rw [h0] at z; cases z
      · rw [h0] at q; cases q
      · simp [D.noDK] at q
    refine .dKf (by rw [L.hid na]; exact h) l e (repL_lk L t n (k.imp id fun q => ?_))
    simp [D.noDK] at q
  | _, _, _, .dKo h l t, n, k => .dKo (by rw [L.same _ fun e => n (e ▸ List.mem_cons_self ..)]; exact h) l (repL_lk L t (fun z => n (List.mem_cons_of_mem _ z)) (k.imp id fun q => by simpa [D.noDK] using q))
  | _, _, _, .tK h l e t, n, k => .tK (L.rd (.inr ⟨_, rfl⟩) h) l e (repL_lk L t n k)
  | _, _, _, .dTf h l e t, n, k => .dTf (L.rd (.inl ⟨_, rfl⟩) h) l e (repL_lk L t n k)
  | _, _, _, .dTo h l t, n, k => .dTo (by rw [L.same _ fun e => n (e ▸ List.mem_cons_self ..)]; exact h) l (repL_lk L t (fun z => n (List.mem_cons_of_mem _ z)) k)
  | _, _, _, .insF h l e t, n, k => .insF (L.hideAt h (fun _ z => nomatch z) (fun _ z => nomatch z) fun _ _ _ z => nomatch z) l e (repL_lk L t n k)
  | _, _, _, .insO h l t, n, k => .insO (by rw [L.same _ fun e => n (e ▸ List.mem_cons_self ..)]; exact h) l (repL_lk L t (fun z => n (List.mem_cons_of_mem _ z)) k)
theorem repL_lk (L : Lk d u H H') : ∀ {vs : List V} {xs : List D} {F : List Addr}, RepL K C M H vs xs F → d ∉ F → (Lf d u H ∨ D.noDKL xs = true) → RepL K C M H' vs xs F
  | _, _, _, .nil, _, _ => .nil
  | _, _, _, .cons h t, n, k => .cons (rep_lk L h (fun z => n (List.mem_append_left _ z)) (k.imp id fun q => by simp only [D.noDKL, Bool.and_eq_true] at q; exact q.1)) (repL_lk L t (fun z => n (List.mem_append_right _ z)) (k.imp id fun q => by simp only [D.noDKL, Bool.and_eq_true] at q; exact q.2))
end
theorem repO_lk (L : Lk d u H H') : ∀ {σ : List (Option V)} {e : J.Env} {F : List Addr}, RepO K C M H σ e F → d ∉ F → (Lf d u H ∨ noDKE e = true) → RepO K C M H' σ e F
  | _, _, _, .nil, _, _ => .nil
  | _, _, _, .gone t, n, k => .gone (repO_lk L t n k)
  | _, _, _, .have_ h t, n, k => .have_ (rep_lk L h (fun z => n (List.mem_append_left _ z)) (k.imp id fun q => by simp only [noDKE, Bool.and_eq_true] at q; exact q.1)) (repO_lk L t (fun z => n (List.mem_append_right _ z)) (k.imp id fun q => by simp only [noDKE, Bool.and_eq_true] at q; exact q.2))
theorem Rel.lk (L : Lk d u H H') (r : Rel K C M0 H σ env F) (n : d ∉ F) (k : Lf d u H ∨ (noDKE env = true ∧ C.z = none)) : Rel K C M0 H' σ env F := by
  refine ⟨repO_lk L r.rep n (k.imp id And.left), r.nd, r.dj, fun b z => ?_, fun y hy => ?_⟩
  · by_cases e : b = d
    · subst e
      rcases L.new with q | ⟨o, q⟩
      · refine ⟨_, q, fun vs e => ?_⟩
        rcases L.tab with ⟨_, e2⟩ | ⟨_, e2⟩ <;> rw [e2] at e <;> cases e
      · exact ⟨_, q, fun vs e => nomatch e⟩
    · obtain ⟨o, e1, e2⟩ := r.al b z
      exact ⟨o, by rw [L.same b e]; exact e1, e2⟩
  · obtain ⟨h1, h2, h3⟩ := r.zd y hy
    refine ⟨L.hideAt h1 (fun _ z => nomatch z) (fun _ z => nomatch z) (fun _ _ _ z => nomatch z), h2, repL_lk L h3 List.not_mem_nil ?_⟩
    rcases k with k | k
    · exact .inl k
    · rw [k.2] at hy; cases hy
end
end J
/-! dicts: the rules of the printed rows; symbolic runs -/
/-! max and min of one list, xs.index(k), t[j].append(e) where t is a tuple of own lists -/
/-! a comparison as a test that only reads: what is owned stays owned -/
/-! xs.clear(); x = found[a] and x[b] = e behind it -/
namespace J
open PySem L2 PySem.Spec PyProof.Rows
def clrO (i : Nat) : J.Env → Out := fun env => match env[i]? with
  | some (some (.lst true _)) => .nx (env.set i (some (.lst true [])))
  | _ => .no
def aliO (i x : Nat) (f1 f3 f2 : J.Env → R D) : J.Env → Out := fun env => match env[i]? with
  | some (some (.lst true rows)) => if x < env.length then (match f1 (env.set i none) with
    | .ok (.int a) e1 => (match ixN rows.length a with
      | some ja => (match rows[ja]? with
        | some (.lst true xs) => (match f3 (e1.set x none) with
          | .ok d e3 => (match f2 e3 with
            | .ok (.int b) e4 => (match ixN xs.length b with
              | some jb => .nx (e4.set i (some (.lst true (rows.set ja (.lst true (xs.set jb d))))))
              | none => .no)
            | _ => .no)
          | _ => .no)
        | _ => .no)
      | none => .no)
    | _ => .no) else .no
  | _ => .no
section
variable {f1 f2 f3 : J.Env → R D} {env e : J.Env} {Q : Out → Prop} {a : Int} {i x j : Nat} {rows xs : List D} {d : D}
def clP (i : Nat) (env : J.Env) (Q : Out → Prop) : Option (Option D) → Prop := fun o => match o with
  | some (some (.lst true _)) => Q (.nx (env.set i (some (.lst true []))))
  | _ => False
theorem wz_clr : Wo (clrO i env) Q ↔ clP i env Q env[i]? := by
  unfold clrO clP
  split <;> exact Iff.rfl
theorem wz_clP : clP i env Q (some (some (.lst true xs))) ↔ Q (.nx (env.set i (some (.lst true [])))) := Iff.rfl
def liT (i j : Nat) (rows xs : List D) (d : D) (e : J.Env) (Q : Out → Prop) : Option Nat → Prop := fun o => match o with
  | some jb => Q (.nx (e.set i (some (.lst true (rows.set j (.lst true (xs.set jb d)))))))
  | none => False
def liQ3 (i j : Nat) (rows xs : List D) (d : D) (Q : Out → Prop) : D → J.Env → Prop := fun b e => match b with
  | .int b => liT i j rows xs d e Q (ixN xs.length b)
  | _ => False
def liQ2 (i j : Nat) (rows xs : List D) (f2 : J.Env → R D) (Q : Out → Prop) : D → J.Env → Prop := fun d e => Wr (f2 e) (liQ3 i j rows xs d Q) noX
def liS (i x j : Nat) (rows : List D) (f3 f2 : J.Env → R D) (e : J.Env) (Q : Out → Prop) : Option D → Prop := fun o => match o with
  | some (.lst true xs) => Wr (f3 (e.set x none)) (liQ2 i j rows xs f2 Q) noX
  | _ => False
def liR (i x : Nat) (rows : List D) (f3 f2 : J.Env → R D) (e : J.Env) (Q : Out → Prop) : Option Nat → Prop := fun o => match o with
  | some j => liS i x j rows f3 f2 e Q rows[j]?
  | none => False
def liQ1 (i x : Nat) (rows : List D) (f3 f2 : J.Env → R D) (Q : Out → Prop) : D → J.Env → Prop := fun a e => match a with
  | .int a => liR i x rows f3 f2 e Q (ixN rows.length a)
  | _ => False
def liP (i x : Nat) (f1 f3 f2 : J.Env → R D) (env : J.Env) (Q : Out → Prop) : Option (Option D) → Prop := fun o => match o with
  | some (some (.lst true rows)) => x < env.length ∧ Wr (f1 (env.set i none)) (liQ1 i x rows f3 f2 Q) noX
  | _ => False
theorem wz_ali : Wo (aliO i x f1 f3 f2 env) Q ↔ liP i x f1 f3 f2 env Q env[i]? := by
  unfold aliO liP
  split
  case h_2 => exact Iff.rfl
  rename_i rows ei
  by_cases hx : x < env.length
  case neg => rw [if_neg hx]; exact ⟨fun z => False.elim z, fun z => absurd z.1 hx⟩
  rw [if_pos hx]
  refine Iff.trans ?_ ⟨fun z => ⟨hx, z⟩, fun z => z.2⟩
  cases e1 : f1 (env.set i none) with
  | no => exact Iff.rfl
  | ex => exact Iff.rfl
  | ok a e =>
    cases a <;> try exact Iff.rfl
    rename_i a
    show Wo _ Q ↔ liR i x rows f3 f2 e Q (ixN rows.length a)
    dsimp only
    cases ixN rows.length a with
    | none => exact Iff.rfl
    | some j =>
      show Wo _ Q ↔ liS i x j rows f3 f2 e Q rows[j]?
      dsimp only
      cases rows[j]? with
      | none => exact Iff.rfl
      | some d0 =>
        cases d0 <;> try exact Iff.rfl
        rename_i o xs
        cases o
        · exact Iff.rfl
        show Wo _ Q ↔ Wr (f3 (e.set x none)) (liQ2 i j rows xs f2 Q) noX
        dsimp only
        cases f3 (e.set x none) with
        | no => exact Iff.rfl
        | ex => exact Iff.rfl
        | ok d e3 =>
          show Wo _ Q ↔ Wr (f2 e3) (liQ3 i j rows xs d Q) noX
          dsimp only
          cases f2 e3 with
          | no => exact Iff.rfl
          | ex => exact Iff.rfl
          | ok b e4 =>
            cases b <;> try exact Iff.rfl
            rename_i b
            show Wo _ Q ↔ liT i j rows xs d e4 Q (ixN xs.length b)
            dsimp only
            cases ixN xs.length b <;> exact Iff.rfl
theorem wz_liP : liP i x f1 f3 f2 env Q (some (some (.lst true rows))) ↔ x < env.length ∧ Wr (f1 (env.set i none)) (liQ1 i x rows f3 f2 Q) noX := Iff.rfl
theorem wz_liQ1 : liQ1 i x rows f3 f2 Q (.int a) e ↔ liR i x rows f3 f2 e Q (ixN rows.length a) := Iff.rfl
theorem wz_liR : liR i x rows f3 f2 e Q (some j) ↔ liS i x j rows f3 f2 e Q rows[j]? := Iff.rfl
theorem wz_liS : liS i x j rows f3 f2 e Q (some (.lst true xs)) ↔ Wr (f3 (e.set x none)) (liQ2 i j rows xs f2 Q) noX := Iff.rfl
theorem wz_liQ2 : liQ2 i j rows xs f2 Q d e ↔ Wr (f2 e) (liQ3 i j rows xs d Q) noX := Iff.rfl
theorem wz_liQ3 : liQ3 i j rows xs d Q (.int a) e ↔ liT i j rows xs d e Q (ixN xs.length a) := Iff.rfl
theorem wz_liT {jb : Nat} : liT i j rows xs d e Q (some jb) ↔ Q (.nx (e.set i (some (.lst true (rows.set j (.lst true (xs.set jb d))))))) := Iff.rfl
end
end J
/-! zip(a, b, strict=True) of two lists of one length -/
/-! zip(a, b, strict=True): the pure word -/
namespace J
open PySem L2 PySem.Spec PyProof.Rows
section
variable {K : PySem.W.Frag} {C : CT} {W : Wish} {M0 : Addr → Prop} {H : Hp} {σ : L2.St} {env : J.Env} {F : List Addr}
def zipSI (f : J.Env → R (List D)) : J.Env → R (List D) := fun env => match f env with
  | .ok [.lst _ xs, .lst _ ys] e => if xs.length = ys.length then .ok (zipD (D.fzL xs) (D.fzL ys)) e else .no
  | .ex c ns vs e => .ex c ns vs e
  | _ => .no
end
section
variable {af : J.Env → R (List D)} {env e : J.Env} {QL : List D → J.Env → Prop} {X : XQ} {xs ys : List D}
def zsQ (Q : List D → J.Env → Prop) : List D → J.Env → Prop := fun ds e => match ds with
  | [.lst _ xs, .lst _ ys] => xs.length = ys.length ∧ Q (zipD (D.fzL xs) (D.fzL ys)) e
  | _ => False
theorem wz_zs : Wr (zipSI af env) QL X ↔ Wr (af env) (zsQ QL) X := by
  unfold zipSI
  cases af env with
  | no => exact Iff.rfl
  | ex => exact Iff.rfl
  | ok ds e =>
    have hA : ∀ o o2 xs ys, Wr (R.ok [D.lst o xs, D.lst o2 ys] e) (zsQ QL) X ↔ (xs.length = ys.length ∧ QL (zipD (D.fzL xs) (D.fzL ys)) e) := fun _ _ _ _ => Iff.rfl
    match ds with
    | [] => exact Iff.rfl
    | [d] => cases d <;> exact Iff.rfl
    | d :: d2 :: _ :: _ => cases d <;> cases d2 <;> exact Iff.rfl
    | [d, d2] =>
      cases d <;> try exact Iff.rfl
      cases d2 <;> try exact Iff.rfl
      rename_i o xs o2 ys
      rw [hA]
      dsimp only
      by_cases h : xs.length = ys.length
      · rw [if_pos h]; exact ⟨fun z => ⟨h, z⟩, fun z => z.2⟩
      · rw [if_neg h]; exact ⟨fun z => False.elim z, fun z => absurd z.1 h⟩
theorem wz_zsQ {o o2 : Bool} (h : xs.length = ys.length) : zsQ QL [.lst o xs, .lst o2 ys] e ↔ QL (zipD (D.fzL xs) (D.fzL ys)) e := ⟨fun z => z.2, fun z => ⟨h, z⟩⟩
end
end J
/-! A suite's exception handed to a def; try with two and more named clauses. -/
namespace J
open PySem L2 PySem.Spec PyProof.Rows L2H
/-- a def's promise within a suite: p is the held exception -/
structure FnE (P : Program) (w : World) (K : PySem.W.Frag) (mg : Str → Option Value) (base : Heap) (k : Nat) (f : Addr) (fd : FuncData) (ps : List Str) (p : Addr × Obj) (sp : Sp) : Prop where
  len : ∀ vs H Q E, sp vs H Q E → vs.length = ps.length
  run : ∀ (A : Around) (outer : List PySem.Env) (s : Shared) (H : Hp) (args : Args) (us : List Value) (vs : List V) (Q : VK) (E : XK), RoomH k A → PinOk outer H s p → Env0 P w K mg base A outer s H → BindsTo s fd args (ps.zip us) → Vals vs us → sp vs H Q E → codeAny (model P w) A (.call (.ref f) args) (CR (L2.CX P w) outer P w H s Q E) s
section
variable {P : Program} {w : World} {K : PySem.W.Frag} {mg : Str → Option Value} {base : Heap}
theorem okE {x qual : Str} {q0 : Arguments} {body : List Stmt} {sc : Scope} {oc kV doc pm cdv ct dV : Value} {od an : Option Addr} {osl : Array (Option Value)} {f : Addr} {N ps : List Str} {k : Nat} {p : Addr × Obj} {sp : Sp}
    (lk : K.lookup f = some ⟨oc, od, .func (PySem.W.fnOf x qual q0 body sc dV kV doc pm an cdv ct), osl⟩) (hcd : PySem.W.codeIn K cdv qual = true) (S : FnScope N ps sc) (len : ∀ vs H Q E, sp vs H Q E → vs.length = ps.length)
    (hbody : ∀ (A : Around) (outer : List PySem.Env) (s : Shared) (H : Hp) (vs : List V) (Q : VK) (E : XK), RoomH k (A.deeper (envOfC qual sc s.heap.objs.size f cdv)) → sp vs H Q E →
      ∃ t, PSs (cxH (L2.CX P w) P w K mg base N qual sc f cdv A outer s H E p) body t ∧ t { nx := fun _ H' => Q .non H', rt := Q } (L2.start N vs) H) : FnE P w K mg base (k + 1) f (PySem.W.fnOf x qual q0 body sc dV kV doc pm an cdv ct) ps p sp := by
  refine ⟨len, fun A outer s H args us vs Q E hr hpin e0 hb r hsp => ?_⟩
  obtain ⟨t, ht, hq⟩ := hbody A outer s H vs Q E (hr.deeper _) hsp
  have keep : ∀ b o, base.get? b = some o → s.heap.get? b = some o := fun b o e => (e0.bs b o e).1
  have KX : K.In s.heap := e0.mod.kin.keeps keep
  refine codeAny_call_function hr.depth (KX _ _ lk) rfl S.co S.gen rfl (PySem.W.codeRec_of KX hcd) (hb _ _ _ _ ?_)
  refine wpAny_newFunctionEnv_cells S.kind (fun y hy => (S.par y.1 (List.of_mem_zip (show (y.1, y.2) ∈ ps.zip us from hy)).1).imp id fun q => ⟨q, PySem.W.cellsFrom_some _ _ _ (.inl q)⟩) fun env he s1 x => ?_
  subst he
  refine ⟨(e0.mod.nolimit.keeps keep).keeps x.toInCall.keep, codeAny_func ?_⟩
  have I := inv_startH (E := E) (CX := L2.CX P w) S hpin e0 (len _ _ _ _ hsp) r x
  refine wpAny_mono (ht.run [] s1 (L2.start N vs) H _ I hq) (fun fl s' z => ?_) fun _ _ z => z
  match fl, z with
  | .ret u, ⟨v, σ', H', J, rv, q⟩ => exact ⟨v, H', J.os, J.bare, J.base, J.hok, rv, q⟩
  | .next, ⟨σ', H', J, q⟩ => exact ⟨V.non, H', J.os, J.bare, J.base, J.hok, rfl, q⟩
  | .brk, ⟨_, _, _, q⟩ => exact q.elim
  | .cont, ⟨_, _, _, q⟩ => exact q.elim
theorem okPE {C : CT} {x qual : Str} {st : Stmt} {f : Addr} {fd : FuncData} {N ps : List Str} {k n l : Nat} {kp : List Nat} {body : J.Env → Out} {p : Addr × Obj}
    (F : Fun K x qual st f fd) (S : FnScope N ps (defScope st)) (hN : N.length = n + l) (hp : ps.length = n) (hkp : ∀ i ∈ kp, i < n)
    (hb : ∀ (cdv : Value) (A : Around) (outer : List PySem.Env) (s : Shared) (H : Hp) (E : XK), RoomH k (A.deeper (envOfC qual (defScope st) s.heap.objs.size f cdv)) →
      PSs (cxH (L2.CX P w) P w K mg base N qual (defScope st) f cdv A outer s H E p) (defBody st) (tS K C (fun _ => E) kp body)) : FnE P w K mg base (k + 1) f fd ps p (spP K C n (defF n kp l body)) := by
  obtain ⟨oc, od, kV, doc, pm, an, cdv, ct, osl, rfl, lk, hcd⟩ := F.ex
  exact okE lk hcd S (fun vs H Q E h => h.1.trans hp.symm) fun A outer s H vs Q E hr h => ⟨_, hb cdv A outer s H E hr, def_core hN hkp h⟩
end
/-- what the held exception is -/
structure ZOk (K : PySem.W.Frag) (C : CT) (fl : List Str) (z : ZT) (oe : Obj) : Prop where
  zc : Zc (.ref (C z.c)) (some z.dd) oe
  fd : ∃ vs, oe.data = .fields vs
  xc : ExcC K (C z.c)
  xf : XfC K (C z.c)
  no : ∀ f ∈ fl, PySem.W.findIn K (.ref (C z.c)) f = some none
structure CalE (P : Program) (w : World) (K : PySem.W.Frag) (mg : Str → Option Value) (base : Heap) (C : CT) (fl : List Str) (x : Str) (k : Nat) (ps : List Str) (n : Nat) (run : Nat → List Str → List D → List D → R D) where
  f : Addr
  fd : FuncData
  ok : ∀ (z : ZT) (oe : Obj), ZOk K C fl z oe → FnE P w K mg base k f fd ps (z.a, oe) (spP K (C.hold z) n (run z.c z.ns z.ds))
  g : mg x = some (.ref f)
  kp : PySem.W.keepIn K (.ref f) = true
  b : Binds K fd ps []
  pu : ∀ c ns ds, Pure n (run c ns ds)
section
variable {X : Cx} {k : Nat} {f : Addr} {fd : FuncData} {ps : List Str} {sp : Sp} {dvs : List V} {ds : List Value} {W : WX} {x : Str} {p pos : Pos} {e : Expr} {es : List Expr} {t : TA} {pin : Addr × Obj}
theorem pinOk {pins : List (Addr × Obj)} {σ : L2.St} {H : Hp} {s : Shared} (I : Inv X pins σ H s) (hp : pin ∈ X.pn) : PinOk X.stack H s pin := by
  obtain ⟨h1, h2, h3, h4, h5⟩ := I.pin pin (List.mem_append_left _ hp)
  exact ⟨h1, h2, fun z => (List.mem_cons.mp (I.stkSub _ z)).elim h3 h4, h5⟩
theorem pe_callE (F : FnE X.prog X.w X.K X.mg X.base k f fd ps pin sp) (hp : pin ∈ X.pn) (hr : RoomH k X.A) (hg : Gl X x) (hm : X.mg x = some (.ref f)) (hk : PySem.W.keepIn X.K (.ref f) = true) (hb : Binds X.K fd ps ds) (hd : Vals dvs ds) (tk : Takes X W)
    (ha : PA X (e :: es) t) (hdb : (x == ("__debug__" : Str)) = false := by decide) (he : starEach (e :: es) X.env = (false, eval e X.env) :: starEach es X.env := by rfl) (hpl : (backTo pos (starEach es X.env)).any (·.1) = false := by rfl) :
    PE X (.Call (.Name x p) (e :: es) [] pos) (tCallSD sp dvs (WE W) t) := by
  refine ⟨fun pins s σ H Q I h => ?_⟩
  refine wpAny_Call_Name_kw (ld_glob I hg hm ?_ hdb)
  refine PySem.W.callWith_K (h₀ := X.base) I.ok.mod.kin hk (thn (ha.run pos pins s σ H _ I h) fun us s1 ⟨vs, H1, I1, r, q⟩ => ⟨I1.kIn, ?_⟩) he hpl
  have r2 : Vals (vs ++ dvs) (us ++ ds) := r.append hd
  have hl : (us ++ ds).length = ps.length := by rw [← r2.length]; exact F.len _ _ _ _ q
  refine wpAny_call (codeAny_mono (F.run X.A X.stack s1 H1 ⟨us, []⟩ (us ++ ds) (vs ++ dvs) Q (WE W σ) hr (pinOk I1 hp) I1.env0 (hb s1 us I1.kIn hl) r2 q) fun r s' hq => ?_)
  cases r with
  | error e => exact passAt tk σ pins H1 s1 e s' I1 hq
  | ok fl =>
    cases fl with
    | ret u => exact I1.after hq
    | next => exact False.elim hq
    | brk => exact False.elim hq
    | cont => exact False.elim hq
end
theorem roomMark {k : Nat} {A : Around} {v : Option Value} (r : Room k A) : RoomH k (A.mark v) := ⟨r.dp, r.un⟩
theorem takes00 {X : Cx} : Takes X W00 := takes_none5
/-- isinstance(e, c), e.f where the held exception is a pin of the context -/
theorem call_isP {X : Cx} {a D dd : Addr} {oe : Obj} (C : ExcC X.K D) (hz : Zc (.ref D) (some dd) oe) (hf : ∃ vs, oe.data = .fields vs) (hp : (a, oe) ∈ X.pn) : CallR X (.builtin "isinstance") (rIsX X.K D a dd) := by
  intro pins s σ H xs us Q I r h
  obtain ⟨fs, c, cv, b, hd, rfl, hcv, e, q⟩ := h
  cases r with
  | cons rx rr =>
    cases rr with
    | cons rt rr =>
      cases rr
      cases rx
      obtain rfl := hcv _ rt
      have hget := (I.pin (a, oe) (List.mem_append.mpr (.inl hp))).1
      obtain ⟨vs, hv⟩ := hf
      obtain ⟨mA, ⟨o, es, ep, ho, -⟩, -⟩ := I.hok dd _ hd
      have J : PySem.W.InstAt s.heap a oe D (some o) := by
        rcases oe with ⟨oc, od, oda, osl⟩
        obtain ⟨h1, h2⟩ := hz
        dsimp only at h1 h2 hv
        subst h1 h2 hv
        exact ⟨hget, rfl, rfl, ho⟩
      exact PySem.W.kia_one (kit_exc C) I.kIn J e (fun z => nomatch z) fun tk => ⟨.bl b, H, I.kept (t' := tk) fun _ _ z => z, rfl, q⟩
theorem pe_xfP {X : Cx} {a C : Addr} {oe : Obj} {cls : Value} {d : Option Addr} {e : Expr} {te : TE} {pos : Pos} {n : Str} (T : XfC X.K C) (hno : PySem.W.findIn X.K (.ref C) n = some none)
    (hz : Zc cls d oe) (hf : ∃ vs, oe.data = .fields vs) (hp : (a, oe) ∈ X.pn) (he : PE X e te) (hb : attributeBase e n X.env (eval e X.env) = eval e X.env := by rfl) :
    PE X (.Attribute e n pos) (tXf a cls d C n te) := by
  refine ⟨fun pins s σ H Q I h => ?_⟩
  refine attr_of hb (thn (he.run pins s σ H _ I h) fun u s1 hh => ?_)
  obtain ⟨x, H1, I1, rx, ex, ec, dd, fs, v, ed, ea, l, q⟩ := hh
  subst ex
  obtain rfl : u = Value.ref a := rx
  subst ec
  subst ed
  obtain ⟨ha, _⟩ := I1.pin (a, oe) (List.mem_append_left _ hp)
  obtain ⟨vs, hd⟩ := hf
  have hx : ObjOk X.prog X.w H1 s1.heap dd (.xd fs) := I1.hok dd _ ea
  obtain ⟨mA, hns, hr⟩ := hx
  obtain ⟨od, ho, hl⟩ := lookIn_ns hns
  obtain ⟨u, hu, ru⟩ := RelO.some_of (v := v) (o := mA n) (by rw [← l]; exact hr n)
  have J : PySem.W.InstAt s1.heap a oe C (some od) := ⟨ha, hz.1, by unfold PySem.W.notCls; rw [hd] <;> rfl, by rw [hz.2]; exact ho⟩
  exact HandSPX.exc_get I1.kIn J T.ga T.gg T.exC (PySem.W.findObj_own T.hdC hno rfl (by rw [hl, hu])) (handed_of ru) ⟨v, H1, I1.tok _, ru, q⟩
section
variable {X : Cx} {C : CT} {W : WX} {oe : Obj} {z : ZT} {i j : Nat} {nm x f : Str} {p p2 p3 pos : Pos} {t : List (Nat × Bool)} {fl : List Str}
theorem q_isP (Z : ZOk X.K C fl z oe) (hp : (z.a, oe) ∈ X.pn) (he : PE X (.Name nm p3) (tVar i)) (hg : Gl X "isinstance") (hm : X.mg "isinstance" = none) (hx : Gl X x) (hmx : X.mg x = some (.ref (C j))) (kt : ∀ k b, t.lookup k = some b → PySem.W.kitOne X.K (.ref (C k)) (.ref (C j)) = some b)
    (hdb : (x == ("__debug__" : Str)) = false := by decide) :
    PE X (.Call (.Name "isinstance" p) [.Name nm p3, .Name x p2] [] pos) (T_ X (C.hold z) W (isxF i t z.c)) :=
  (pe_callB (id := "isinstance") (call_isP Z.xc Z.zc Z.fd hp) hg hm (by decide +kernel) (pa_cons he (pa_cons (pe_glob hx hmx (v := .ref (C j)) rfl hdb) pa_nil))).imp fun σ H Q h => i_isx (fun u r => r) kt h
theorem q_xfP {e : Expr} (Z : ZOk X.K C fl z oe) (hp : (z.a, oe) ∈ X.pn) (hf : f ∈ fl) (he : PE X e (tVar i)) (hb : attributeBase e f X.env (eval e X.env) = eval e X.env := by rfl) :
    PE X (.Attribute e f pos) (T_ X (C.hold z) W (xfF i f z.ns z.ds)) :=
  (pe_xfP (C := C z.c) Z.xf (Z.no f hf) Z.zc Z.fd hp he hb).imp fun σ H Q h => i_xf rfl rfl rfl h
end
/-! ### try with several named clauses -/
/-- what the clauses wish -/
def wAll (K : PySem.W.Frag) (Wout : WX) (D : Ends) : List (Value × Nat × (Addr → Value → Option Addr → TS)) → WX
  | [] => Wout
  | (c, i, ts) :: r => wAs K c i ts (wAll K Wout D r) D
inductive HdsN (X : Cx) : List ExceptHandler → List (Value × Nat × (Addr → Value → Option Addr → TS)) → Prop
  | nil : HdsN X [] []
  | cons {x n : Str} {c : Value} {i : Nat} {ts : Addr → Value → Option Addr → TS} {b₀ : Stmt} {suite : List Stmt} {np pos' : Pos} {hds : List ExceptHandler} {l : List (Value × Nat × (Addr → Value → Option Addr → TS))} (hc : Names X x c) (hi : X.N[i]? = some n) (hln : X.env.kindOf n = some .local)
      (hsu : ∀ (a : Addr) (oe : Obj) (cls : Value) (d : Option Addr) (pn : List (Addr × Obj)), Zc cls d oe → (∃ vs, oe.data = .fields vs) → PSs (X.suite a ((a, oe) :: pn)) (b₀ :: suite) (ts a cls d)) (r : HdsN X hds l) :
      HdsN X (.ExceptHandler (some (.Name x np)) (some n) (b₀ :: suite) pos' :: hds) ((c, i, ts) :: l)
section
variable {X : Cx} {body : List Stmt} {h₀ : ExceptHandler} {hds : List ExceptHandler} {l : List (Value × Nat × (Addr → Value → Option Addr → TS))} {pos : Pos} {tb : WX → TS} {Wout : WX}
theorem ps_try_all (hs : X.stack = X.env :: X.outer) (hf : X.env.frame = some X.env.locals) (hN : X.N.Nodup) (tk : Takes X Wout)
    (hb : ∀ (W : WX) (pn : List (Addr × Obj)) (xe : Value → Shared → Prop), Takes (X.tr pn xe) W → PassesOwn (model X.prog X.w) X.A X.env xe → PSs (X.tr pn xe) body (tb W))
    (hh : HdsN X (h₀ :: hds) l) : PS X (.Try body (h₀ :: hds) [] [] pos) (fun D σ H => tb (wAll X.K Wout D l) D σ H) := by
  refine ⟨fun pins s σ H D I h => ?_⟩
  have ok := I.ok
  have hfr : X.A.frames = some (X.env :: X.outer) := by rw [ok.frames, hs]
  refine wpAny_Try_except ?_
  refine wpAny_mono ((hb (wAll X.K Wout D l) (X.pn ++ pins) (fun e s₁ => wpAny (model X.prog X.w) X.A (noteFrame e X.env) (fun _ s₂ => wpAny (model X.prog X.w) X.A (setFlight e none) (fun _ s₃ =>
    wpAny (model X.prog X.w) X.A (handleBy e X.env (h₀ :: hds)) (SP X pins D) X.xe s₃) X.xe s₂) X.xe s₁) (fun u s' xx => ?_) PassesOwn.looking).run [] s σ H D (I.toTry _) h) (fun f s1 hsp => ?_) (fun e s1 he => he)
  · obtain ⟨a, B, sI, pins', σ', H', cls, d, rfl, J', nb, up, sky, na, os, ag, w⟩ := xx
    have J : Inv X pins σ' H' sI := J'.ofTry ok
    have sky' : Sky B (X.env :: X.outer) a (Zc cls d) X.env.locals s'.heap := by rw [← hs]; exact sky
    show wpAny (model X.prog X.w) X.A (noteFrame (.ref a) X.env) _ _ _
    refine Sky.land Zc.steady hfr hf sky' fun h3 fl3 up3 => ?_
    have J3 : Inv X pins σ' H' { s' with heap := h3 } := J.landed nb fl3.1 (up.trans up3) os ag
    obtain ⟨oe3, vs3, he3, hz3, hd3⟩ := fl3.there
    have notFr : ∀ {h : Heap} {o : Obj} {vs : Array Value}, h.FunFrames B (X.env :: X.outer) → h.get? a = some o → o.data = .fields vs → a ∉ frs (X.env :: X.outer) := fun {h o vs} ff e dd hm => by
      obtain ⟨_, o', e', hnf⟩ := ff.mem hm
      rw [e] at e'; cases e'
      exact hnf _ dd
    have nfr := notFr fl3.2.2.1 he3 hd3
    have nL : a ≠ X.env.locals := fun z => nfr (List.mem_filterMap.mpr ⟨X.env, List.mem_cons_self, by rw [hf, z]⟩)
    have nF : a ∉ X.fs := fun hm => by
      obtain ⟨e, he, q⟩ := List.mem_filterMap.mp hm
      exact nfr (List.mem_filterMap.mpr ⟨e, List.mem_cons_of_mem _ he, q⟩)
    have S3 := J3.suite he3 hd3 na nL nF
    have go : ∀ {hds' : List ExceptHandler} {l' : List (Value × Nat × (Addr → Value → Option Addr → TS))}, HdsN X hds' l' → wAll X.K Wout D l' cls d σ' H' →
        wpAny (model X.prog X.w) X.A (handleBy (.ref a) X.env hds') (SP X pins D) X.xe { s' with heap := h3 } := by
      intro hds' l' hk
      induction hk with
      | nil =>
        intro w
        refine wpAny_handleBy_nil ?_
        obtain ⟨k1, k2, k3, oe, vs, T, oT, ts', he, hz, hd, h1, hr⟩ := id fl3
        unfold PySem.passOn
        refine wpAny_bind (wpAny_field he hd h1 ?_)
        rw [if_neg (show ¬ ((Value.ref T == Value.none) = true) from by simp)]
        have fin : wpAny (model X.prog X.w) X.A (setFlight (.ref a) X.env.frame) (fun _ s4 => wpAny (model X.prog X.w) X.A (throw (.ref a) : Sem Flow) (SP X pins D) X.xe s4) X.xe { s' with heap := h3 } := by
          rw [hf]
          refine HandSPX.setFlight_upZ fl3 fun h4 hh4 up4 => wpAny_throw (tk _ _ ?_)
          exact ⟨a, B, sI, pins, σ', H', cls, d, rfl, J, nb, (up.trans up3).trans up4, .inr (.inr (by rw [hs]; exact hh4)), na, os, ag, w⟩
        first
          | exact wpAny_bind (wpAny_pure (wpAny_bind fin))
          | exact wpAny_bind fin
      | @cons x n c i ts b₀ suite np pos' hds2 l2 hc hi hln hsu r ih =>
        intro w
        obtain ⟨b, hb1, hyes, hno⟩ := w
        have hloc : Loc X.env.scope n := .inl hln
        refine wpAny_handleBy_cons (codeAny_handlers_test ?_) (by intro q; cases q)
        have LT : PySem.W.Looks (model X.prog X.w) h3 (typeOf (.ref a)) cls := fun A Q E s k q => wpAny_typeOf_ref (k _ _ he3) (by rw [hz3.1]; exact q)
        have LM := PySem.W.exm_one (M := model X.prog X.w) (J3.kIn) LT hb1
        have test : ∀ {Q : Value → Shared → Prop} {E : Value → Shared → Prop}, Q c { s' with heap := h3 } → wpAny (model X.prog X.w) (X.A.mark (some (.ref a))) (eval (.Name x np) X.env) Q E { s' with heap := h3 } := fun {Q E} q => by
          obtain ⟨hg, hdbg, hm | ⟨hm, hv, hnn⟩⟩ := hc
          · exact ld_glob (X := X.suite a ((a, oe3) :: (X.pn ++ pins))) S3 hg hm q hdbg
          · exact ld_blt (X := X.suite a ((a, oe3) :: (X.pn ++ pins))) S3 hg hm hv q hnn hdbg
        refine test (LM.here ?_)
        cases b with
        | true =>
          refine codeAny_handlers_suite_as ?_
          refine HandSPX.lands_againZ fl3 fun h4 fl4 up4 => ?_
          have J4 : Inv X pins σ' H' { s' with heap := h4 } := J.landed nb fl4.1 ((up.trans up3).trans up4) os ag
          obtain ⟨oe4, vs4, he4, hz4, hd4⟩ := fl4.there
          have S4 := J4.suite he4 hd4 na nL nF
          refine store_ok (X := X.suite a ((a, oe4) :: (X.pn ++ pins))) (v := .ref a) S4 hN hi hloc rfl (fun s5 S5 => ?_) (.inr hln)
          refine wpAny_mono ((hsu a oe4 cls d (X.pn ++ pins) hz4 ⟨_, hd4⟩).run [] s5 _ H' _ S5 (hyes rfl a na)) (fun f s6 hsp => ?_) (fun _ _ z => False.elim z)
          have end_ : ∀ {σ6 : L2.St} {H6 : Hp} {Q : Shared → Prop}, Inv (X.suite a ((a, oe4) :: (X.pn ++ pins))) [] σ6 H6 s6 → (∀ s7, Inv X pins (σ6.set i none) H6 s7 → Q s7) →
              wpAny (model X.prog X.w) X.A (do bindName X.env n .none; unbindBehindTheSuite X.env n pos') (fun _ s7 => Q s7) X.xe s6 := fun {σ6 H6 Q} S6 hq => gone_ok (S6.unsuite ok) hN hi hln hq
          cases f with
          | next =>
            obtain ⟨σ6, H6, S6, q6⟩ := hsp
            exact end_ S6 fun s7 J7 => ⟨_, _, J7, q6⟩
          | brk =>
            obtain ⟨σ6, H6, S6, q6⟩ := hsp
            exact end_ S6 fun s7 J7 => ⟨_, _, J7, q6⟩
          | cont =>
            obtain ⟨σ6, H6, S6, q6⟩ := hsp
            exact end_ S6 fun s7 J7 => ⟨_, _, J7, q6⟩
          | ret u =>
            obtain ⟨v6, σ6, H6, S6, r6, q6⟩ := hsp
            exact end_ S6 fun s7 J7 => ⟨_, _, _, J7, r6, q6⟩
        | false =>
          show wpAny _ X.A (handleBy (.ref a) X.env hds2) _ _ _
          exact ih (hno rfl)
    exact go hh w
  · cases f with
    | next =>
      obtain ⟨σ', H', J', q⟩ := hsp
      exact wpAny_execs_nil ⟨σ', H', J'.ofTry ok, q⟩
    | brk =>
      obtain ⟨σ', H', J', q⟩ := hsp
      exact ⟨σ', H', J'.ofTry ok, q⟩
    | cont =>
      obtain ⟨σ', H', J', q⟩ := hsp
      exact ⟨σ', H', J'.ofTry ok, q⟩
    | ret u =>
      obtain ⟨v, σ', H', J', r, q⟩ := hsp
      exact ⟨v, σ', H', J'.ofTry ok, r, q⟩
end
/-- try .. except x as n: .. except x2 as n2: .. -/
theorem z_tryAs2 {X : Cx} {C : CT} {W : WX} {kp : List Nat} {x n x2 n2 : Str} {cc cc2 : Value} {i i2 : Nat} {m m2 : List (Nat × Bool)} {body suite suite2 : List Stmt} {b₀ b₂ : Stmt} {np pos np2 pos' pos2 : Pos} {pb : J.Env → Out} {ph ph2 : Nat → List Str → List D → J.Env → Out}
    (hs : X.stack = X.env :: X.outer) (hf : X.env.frame = some X.env.locals) (hN : X.N.Nodup)
    (hi : X.N[i]? = some n) (hln : X.env.kindOf n = some .local) (hc : Names X x cc) (hik : i ∉ kp)
    (hi2 : X.N[i2]? = some n2) (hln2 : X.env.kindOf n2 = some .local) (hc2 : Names X x2 cc2) (hik2 : i2 ∉ kp) (tk : Takes X W)
    (hm : ∀ c b, m.lookup c = some b → PySem.W.exmOne X.K (.ref (C c)) cc = some b) (hm2 : ∀ c b, m2.lookup c = some b → PySem.W.exmOne X.K (.ref (C c)) cc2 = some b)
    (hb : ∀ (W : WX) (pn : List (Addr × Obj)) (xe : Value → Shared → Prop), Takes (X.tr pn xe) W → PassesOwn (model X.prog X.w) X.A X.env xe → PSs (X.tr pn xe) body (S_ (X.tr pn xe) C W kp pb))
    (hsu : ∀ (a : Addr) (oe : Obj) (cls : Value) (d : Option Addr) (pn : List (Addr × Obj)) (z : ZT), Zc cls d oe → (∃ vs, oe.data = .fields vs) → z.a = a → cls = Value.ref (C z.c) → d = some z.dd → m.lookup z.c = some true → PSs (X.suite a ((a, oe) :: pn)) (b₀ :: suite) (S_ (X.suite a ((a, oe) :: pn)) (C.hold z) W00 kp (ph z.c z.ns z.ds)))
    (hsu2 : ∀ (a : Addr) (oe : Obj) (cls : Value) (d : Option Addr) (pn : List (Addr × Obj)) (z : ZT), Zc cls d oe → (∃ vs, oe.data = .fields vs) → z.a = a → cls = Value.ref (C z.c) → d = some z.dd → m2.lookup z.c = some true → PSs (X.suite a ((a, oe) :: pn)) (b₂ :: suite2) (S_ (X.suite a ((a, oe) :: pn)) (C.hold z) W00 kp (ph2 z.c z.ns z.ds))) :
    PS X (.Try body [.ExceptHandler (some (.Name x np)) (some n) (b₀ :: suite) pos', .ExceptHandler (some (.Name x2 np2)) (some n2) (b₂ :: suite2) pos2] [] [] pos) (S_ X C W kp (tryAsO m2 i2 (tryAsO m i pb ph) ph2)) :=
  (ps_try_all (tb := fun W => tS X.K C (WE W) kp pb) hs hf hN tk hb
    (.cons (i := i) (ts := fun a cls d D σ H => ∃ z : ZT, (z.a = a ∧ cls = Value.ref (C z.c) ∧ d = some z.dd ∧ m.lookup z.c = some true) ∧ tS X.K (C.hold z) W0 kp (ph z.c z.ns z.ds) D σ H) hc hi hln (fun a oe cls d pn hz hfd => pss_ex fun z hp => hsu a oe cls d pn z hz hfd hp.1 hp.2.1 hp.2.2.1 hp.2.2.2)
    (.cons (i := i2) (ts := fun a cls d D σ H => ∃ z : ZT, (z.a = a ∧ cls = Value.ref (C z.c) ∧ d = some z.dd ∧ m2.lookup z.c = some true) ∧ tS X.K (C.hold z) W0 kp (ph2 z.c z.ns z.ds) D σ H) hc2 hi2 hln2 (fun a oe cls d pn hz hfd => pss_ex fun z hp => hsu2 a oe cls d pn z hz hfd hp.1 hp.2.1 hp.2.2.1 hp.2.2.2) .nil))).imp
  fun D σ H h => i_tryAs (D0 := D) rfl hik hm (fun a z cls d E σ H h1 h2 h3 h4 h5 => ⟨z, ⟨h1, h2, h3, h4⟩, h5⟩) (i_tryAs (D0 := D) rfl hik2 hm2 (fun a z cls d E σ H h1 h2 h3 h4 h5 => ⟨z, ⟨h1, h2, h3, h4⟩, h5⟩) h)
end J
namespace J
open PySem L2 PySem.Spec PyProof.Rows L2H
theorem _root_.L2H.RoomH.units {k : Nat} {A : Around} (r : RoomH k A) : A.units + 64 < cLine := by have := r.un; omega
theorem room65H {k : Nat} {A : Around} (r : RoomH k A) : A.units + 65 < cLine := by have := r.un; omega
/-- a def is called in a suite, with the held exception among its arguments -/
theorem z_callEs {X : Cx} {C : CT} {a : Addr} {oe : Obj} {cls : Value} {d : Option Addr} {pn : List (Addr × Obj)} {z : ZT} {fl : List Str} {x : Str} {k n : Nat} {ps : List Str} {run : Nat → List Str → List D → List D → R D} {af : J.Env → R (List D)} {lk : List (Nat × Nat)} {p pos : Pos} {e : Expr} {es : List Expr}
    (ha : z.a = a) (hc : cls = Value.ref (C z.c)) (hd : d = some z.dd) (hz : Zc cls d oe) (hf : ∃ vs, oe.data = .fields vs) (xc : ExcC X.K (C z.c)) (xf : XfC X.K (C z.c) ∧ ∀ f ∈ fl, PySem.W.findIn X.K (.ref (C z.c)) f = some none)
    (c : CalE X.prog X.w X.K X.mg X.base C fl x k ps n run) (hr : Room k X.A) (hn : AL af n) (hg : Gl (X.suite a ((a, oe) :: pn)) x) (ar : PA (X.suite a ((a, oe) :: pn)) (e :: es) (A_ (X.suite a ((a, oe) :: pn)) (C.hold z) W00 af lk))
    (hdb : (x == ("__debug__" : Str)) = false := by decide) (he : starEach (e :: es) X.env = (false, eval e X.env) :: starEach es X.env := by rfl) (hpl : (backTo pos (starEach es X.env)).any (·.1) = false := by rfl) :
    PE (X.suite a ((a, oe) :: pn)) (.Call (.Name x p) (e :: es) [] pos) (T_ (X.suite a ((a, oe) :: pn)) (C.hold z) W00 (callF (run z.c z.ns z.ds) lk af)) := by
  subst ha hc hd
  have F := c.ok z oe ⟨hz, hf, xc, xf.1, xf.2⟩
  exact z_call (c.pu z.c z.ns z.ds) hn (pe_callE (X := X.suite z.a ((z.a, oe) :: pn)) F (List.mem_cons_self ..) (roomMark hr) hg c.g c.kp c.b .nil takes00 ar hdb he hpl)
end J
/-! x = found[a], found.append(e) behind it: the item is read alone, it stays owned -/
namespace J
open PySem L2 PySem.Spec PyProof.Rows
mutual
/-- new lists and tuples over words and numbers: nothing that stands elsewhere -/
def D.fresh : D → Bool
  | .non => true | .bl _ => true | .int _ => true | .str _ => true
  | .tup xs => D.freshL xs
  | .lst o xs => o && D.freshL xs
  | _ => false
def D.freshL : List D → Bool
  | [] => true
  | d :: ds => d.fresh && D.freshL ds
end
end J
/-! t[::-1] of a pair -/
/-! paths: what stands in a slot, in a field of an own instance, in an own list; lent to a def that writes it -/
namespace J
open PySem L2 PySem.Spec PyProof.Rows
inductive Pth where
  | sl (i : Nat)
  | fd (i c : Nat) (f : Str)
  | el (i j : Nat)
def pthV (C : CT) (σ : L2.St) (H : Hp) (v : V) : Pth → Prop
  | .sl i => σ[i]? = some (some v)
  | .fd i c f => ∃ a dx fs, σ[i]? = some (some (.ref a)) ∧ H a = some (.ins (C c) dx fs) ∧ fs.lookup f = some v
  | .el i j => ∃ a vs, σ[i]? = some (some (.ref a)) ∧ H a = some (.lst vs) ∧ vs[j]? = some v
section
variable {K : PySem.W.Frag} {C : CT} {M M' M0 : Addr → Prop} {H H' : Hp} {σ : L2.St} {env : J.Env} {F G Fr : List Addr} {v w : V} {d : D}
theorem pthV.same {p : Pth} (s : Same H H') (h : pthV C σ H v p) : pthV C σ H' v p := by
  cases p with
  | sl i => exact h
  | fd i c f => obtain ⟨a, dx, fs, h1, h2, h3⟩ := h; exact ⟨a, dx, fs, h1, s _ _ h2, h3⟩
  | el i j => obtain ⟨a, vs, h1, h2, h3⟩ := h; exact ⟨a, vs, h1, s _ _ h2, h3⟩
/-- flat values evaluated while all was data -/
theorem Rel.unfrzL {H1 : Hp} {e : J.Env} {F1 : List Addr} {vs : List V} {ds : List D} (r : Rel K C M0 H σ env F) (r1 : Rel K C M0 H1 (vs.map some ++ σ) (ds.map some ++ e) F1) (s1 : Stp [] H F1 H1) (l : vs.length = ds.length) (hd : D.flatTL ds = true) : RepL K C (orF M0 F) H1 vs ds [] ∧ Same H H1 := by
  have st : Same H H1 := fun b o q => s1.keep b o (fun z => nomatch z) q
  obtain ⟨Fa, Fb, eF, rv, -⟩ := RepO.split (by simp [l]) r1.rep
  refine ⟨repL_flat (fun b us q => ?_) (repO_L rv) hd, st⟩
  obtain ⟨h1, h2⟩ := hide_some q
  rw [hide_out (M := orF M0 F) (fun z => ?_)]
  · exact h1
  · rcases z with z | z
    · exact h2 (.inl z)
    · obtain ⟨o, ho, no⟩ := repO_nt r.rep b z
      rw [st b o ho] at h1
      exact no us (Option.some.inj h1)
end
/-! what is left to be done -/
end J
/-! for x in xs, where xs is an own list of a parameter and the body writes x's object alone -/
/-! xs[a], xs[b] = xs[b], xs[a] for an own list -/
/-! xs[a] op= e for an own list of ints -/
/-! o.f.append(e) and o.f = e, own values in the fields of an own instance -/
namespace J
open PySem L2 PySem.Spec PyProof.Rows
section
variable {K : PySem.W.Frag} {C : CT} {W : Wish} {kp : List Nat} {M0 : Addr → Prop} {H H' : Hp} {σ : L2.St} {env : J.Env} {F : List Addr} {v : V} {d : D} {i c : Nat} {f : Str} {g : J.Env → R D} {E : Ends}
theorem Rel.one {H1 : Hp} {e : J.Env} {F1 : List Addr} (r : Rel K C M0 H σ env F) (r1 : Rel K C M0 H1 (some v :: σ) (some d :: e) F1) (s1 : Stp [] H F1 H1) (hd : d.flatT = true) : Rep K C (orF M0 F) H1 v d [] ∧ Same H H1 := by
  have r1 : Rel K C M0 H1 ([v].map some ++ σ) ([d].map some ++ e) F1 := r1
  obtain ⟨h, s⟩ := r.unfrzL r1 s1 rfl (by simp only [D.flatTL, hd, Bool.and_self])
  generalize eF : ([] : List Addr) = F0 at h
  cases h with
  | cons a t =>
    cases t
    rw [List.append_nil] at eF
    subst eF
    exact ⟨a, s⟩
end
end J
/-! an expression that reads alone and gives a flat value or a new list of flat values -/
/-! min of a list of triples of ints -/
/-! any(xs), ints -/
/-! a class made with the default of its one keyword parameter, a truth value -/
/-! what is left to be done behind the lattice's words -/
/-! sorted(set(xs)), xs a list of fewer than 64 ints -/
namespace L2
open PySem PySem.Spec PyProof.Rows
section
variable {P : Program} {w : World} {A : Around} {E : Value → Shared → Prop} {s : Shared}
/-- an empty set of the model, as set(..) lays it -/
abbrev set0 (w : World) : Obj := { cls := .type "set", dict := none, data := .set #[] 0 (.fresh 0 0 (!w.params.followText "set-order")) }
end
end L2
/-! sets of nested tuples of numbers: set(xs) of up to 200 items -/
namespace J
open PySem L2 PySem.Spec PyProof.Rows
/-! ### the round, with 512 slots too -/
def Msk (m : Nat) : Prop := MaskOk m ∨ m = 511
def orb : Nat → Nat → Nat → Nat
  | _, 0, acc => acc
  | x, n + 1, acc => orb ((x * 5 + 1) % 512) n (acc ||| 2 ^ x)
theorem lcgI_front (m x : Nat) : ∀ n, lcgI m ((x * 5 + 1) % (m + 1)) n = lcgI m x (n + 1)
  | 0 => rfl
  | n + 1 => by
    have ih := lcgI_front m x n
    show (lcgI m ((x * 5 + 1) % (m + 1)) n * 5 + 1) % (m + 1) = (lcgI m x (n + 1) * 5 + 1) % (m + 1)
    rw [ih]
theorem orb_bit : ∀ (n x acc j : Nat), (orb x n acc).testBit j = true → acc.testBit j = true ∨ ∃ b, b < n ∧ lcgI 511 x b = j
  | 0, _, _, _, h => .inl h
  | n + 1, x, acc, j, h => by
    rcases orb_bit n _ _ j h with q | ⟨b, hb, e⟩
    · rw [Nat.testBit_or, Bool.or_eq_true] at q
      rcases q with q | q
      · exact .inl q
      · rw [Nat.testBit_two_pow] at q
        exact .inr ⟨0, Nat.succ_pos _, of_decide_eq_true q⟩
    · exact .inr ⟨b + 1, Nat.succ_lt_succ hb, by rw [← lcgI_front]; exact e⟩
theorem orb_full : orb 0 512 0 = 2 ^ 512 - 1 := by decide +kernel
theorem lcg0 (m k : Nat) : lcgI m 0 k = lcgN m k := by
  have q := lcgN_add m 0 k
  rw [Nat.zero_add] at q
  exact q
theorem hit511 {j : Nat} (h : j ≤ 511) : ∃ b, b ≤ 511 ∧ lcgN 511 b = j := by
  have q : (orb 0 512 0).testBit j = true := by
    rw [orb_full, Nat.testBit_two_pow_sub_one]
    exact decide_eq_true (by omega)
  rcases orb_bit 512 0 0 j q with z | ⟨b, hb, e⟩
  · rw [Nat.zero_testBit] at z; cases z
  · exact ⟨b, by omega, by rw [← lcg0]; exact e⟩
theorem round511 : lcgN 511 512 = 0 := by decide +kernel
theorem again511 : ∀ k, lcgN 511 (512 + k) = lcgN 511 k
  | 0 => round511
  | k + 1 => by
    have ih := again511 k
    show (lcgN 511 (512 + k) * 5 + 1) % 512 = (lcgN 511 k * 5 + 1) % 512
    rw [ih]
/-- every slot begins a run early enough -/
theorem run_hits {m : Nat} (hm : Msk m) (h : Int) {j : Nat} (hj : j ≤ m) : ∃ n, n ≤ m + 12 ∧ runI m (SetTable.bits h) n = j := by
  rcases hm with hm | rfl
  · exact run_meets hm h hj
  · obtain ⟨a, ha, ea⟩ := hit511 (runI_le 511 (SetTable.bits h) 12)
    obtain ⟨b, hb, eb⟩ := hit511 hj
    have tail : ∀ k, runI 511 (SetTable.bits h) (12 + k) = lcgN 511 (a + k) := fun k => by
      rw [runI_tail (bits_lt h), ← ea, lcgN_add]
    by_cases c : a ≤ b
    · refine ⟨12 + (b - a), by omega, ?_⟩
      rw [tail, ← eb]
      exact congrArg (lcgN 511) (by omega)
    · refine ⟨12 + (512 + b - a), by omega, ?_⟩
      rw [tail, ← eb, ← again511 b]
      exact congrArg (lcgN 511) (by omega)
theorem in_le {m : Nat} {h : Int} {k : Nat} : way m h k ≤ m := by
  have b0 : SetTable.bits h % (m + 1) < m + 1 := Nat.mod_lt _ (Nat.succ_pos m)
  have r := runEnd_bd (m := m) (i := SetTable.bits h % (m + 1)) (by omega)
  have q := nth_in (m := m) k (runAt m (SetTable.bits h % (m + 1)) (SetTable.bits h)) (by
    show SetTable.bits h % (m + 1) + (SetTable.runEnd m (SetTable.bits h % (m + 1)) - SetTable.bits h % (m + 1)) ≤ m
    omega)
  show (nth m _ k).j ≤ m
  omega
/-- the first slot of the way that is not taken -/
theorem way_gap {m : Nat} (hm : Msk m) {occ : List Nat} (few : occ.length ≤ m) (h : Int) : ∃ K, K < 10 * SetTable.turns m ∧ way m h K ∉ occ ∧ ∀ c, c < K → way m h c ∈ occ := by
  obtain ⟨j, hj, hn⟩ := st_missing occ (m + 1) (by omega)
  obtain ⟨n, hn2, e⟩ := run_hits hm h (j := j) (by omega)
  obtain ⟨k, hk, e2⟩ := run_nth m (SetTable.bits h) n
  have wk : way m h k = j := by
    show (nth m _ k).j = j
    rw [e2]
    exact e
  obtain ⟨K, k1, k2, k3⟩ := st_least (p := fun k => way m h k ∉ occ) k (by rw [wk]; exact hn)
  refine ⟨K, ?_, k2, fun c hc => Classical.byContradiction fun z => k3 c hc z⟩
  unfold SetTable.turns
  omega
/-! ### tables -/
structure Tk (t : SetTable) (hs : List Int) : Prop where
  up : Ris t.place.toList
  nd : t.dummies = #[]
  len : t.place.size = hs.length
  msk : Msk t.mask
  le : ∀ x ∈ t.place.toList, x ≤ t.mask
  go : ∀ (i : Nat) (h : Int) (j : Nat), hs[i]? = some h → t.place.toList[i]? = some j → ∃ k, way t.mask h k = j ∧ ∀ c, c < k → way t.mask h c ∈ t.place.toList
theorem msk_odd {m : Nat} (h : Msk m) : m % 2 = 1 ∧ m ≤ 511 := by
  rcases h with (e | e | e) | e <;> subst e <;> exact ⟨rfl, by decide⟩
section
variable {t : SetTable} {hs : List Int}
theorem Tk.ahead (T : Tk t hs) {h : Int} {K i : Nat} (hK : way t.mask h K ∉ t.place.toList) (hi : hs[i]? = some h) : ∃ k, k < K ∧ t.place.toList[i]? = some (way t.mask h k) := by
  have hl : i < t.place.toList.length := by
    have := (List.getElem?_eq_some_iff.mp hi).1
    have e := T.len
    rw [← Array.length_toList] at e
    omega
  obtain ⟨k, e, before⟩ := T.go i h _ hi (List.getElem?_eq_getElem hl)
  refine ⟨k, Classical.byContradiction fun z => ?_, by rw [List.getElem?_eq_getElem hl, e]⟩
  rcases Nat.lt_or_eq_of_le (Nat.le_of_not_lt z) with c | c
  · exact hK (before K c)
  · rw [c, e] at hK
    exact hK (List.getElem_mem hl)
/-- the table with one more -/
theorem Tk.put (T : Tk t hs) {h : Int} {K : Nat} (hK : way t.mask h K ∉ t.place.toList) (hb : ∀ c, c < K → way t.mask h c ∈ t.place.toList) {p : Nat} (hp : SetTable.below t.place (way t.mask h K) = p) :
    (t.put (way t.mask h K)).2 = p ∧ p ≤ hs.length ∧ Tk (t.put (way t.mask h K)).1 (hs.take p ++ h :: hs.drop p) ∧ (t.put (way t.mask h K)).1.mask = t.mask ∧ (t.put (way t.mask h K)).1.led = t.led ∧ (t.put (way t.mask h K)).1.plain = t.plain ∧
    (t.put (way t.mask h K)).1.fill = hs.length + 1 := by
  have jm : way t.mask h K ≤ t.mask := in_le
  obtain ⟨cut, -, -⟩ := below_cut T.up (way t.mask h K)
  rw [hp] at cut
  have l2 : t.place.toList.length = hs.length := by rw [Array.length_toList, T.len]
  have p1 : p ≤ t.place.toList.length := by rw [Array.length_toList]; exact cut
  have p2 : p ≤ hs.length := by omega
  have pl : (t.put (way t.mask h K)).1.place.toList = t.place.toList.take p ++ way t.mask h K :: t.place.toList.drop p := by rw [put_place, hp]
  have out : t.place[SetTable.below t.place (way t.mask h K)]? ≠ some (way t.mask h K) := fun e => hK (List.mem_of_getElem? (by rw [Array.getElem?_toList]; exact e))
  have more : ∀ x, x ∈ t.place.toList → x ∈ (t.put (way t.mask h K)).1.place.toList := fun x hx => by rw [pl]; exact mem_ins.mpr (.inr hx)
  have size : (t.put (way t.mask h K)).1.place.size = hs.length + 1 := by rw [← Array.length_toList, pl, len_ins _ p1, l2]
  have dum := put_dm T.nd (way t.mask h K)
  refine ⟨hp, p2, ⟨ris_insert T.up out, dum, by rw [len_ins _ p2]; exact size, T.msk, fun x hx => ?_, fun i h' j' e1 e2 => ?_⟩, rfl, rfl, rfl, ?_⟩
  · rw [pl] at hx
    rcases mem_ins.mp hx with e | e
    · rw [e]; exact jm
    · exact T.le x e
  · rw [tins_get hs p2] at e1
    rw [pl, tins_get _ p1] at e2
    have old : ∀ i, hs[i]? = some h' → t.place.toList[i]? = some j' → ∃ k, way t.mask h' k = j' ∧ ∀ c, c < k → way t.mask h' c ∈ (t.put (way t.mask h K)).1.place.toList := fun i a b => by
      obtain ⟨k, c1, c2⟩ := T.go i h' j' a b
      exact ⟨k, c1, fun c hc => more _ (c2 c hc)⟩
    rcases Nat.lt_trichotomy i p with c | c | c
    · rw [if_pos c] at e1 e2
      exact old i e1 e2
    · rw [if_neg (by omega), if_pos c] at e1 e2
      injection e1 with e1
      injection e2 with e2
      subst e1 e2
      exact ⟨K, rfl, fun c hc => more _ (hb c hc)⟩
    · rw [if_neg (by omega), if_neg (by omega)] at e1 e2
      exact old (i - 1) e1 e2
  · show (t.put (way t.mask h K)).1.place.size + (t.put (way t.mask h K)).1.dummies.size = _
    rw [size, dum]
    rfl
/-! all laid anew -/
theorem free_at {m : Nat} (hm : Msk m) (owner : Array (Option Nat)) (h : Int) {j : Nat} (hj : j ≤ m) (hf : oAt owner j = none) :
    ∃ K, SetTable.layClean.free m owner (SetTable.turns m) (SetTable.bits h % (m + 1)) (SetTable.bits h) = some (way m h K) ∧ oAt owner (way m h K) = none ∧ ∀ k, k < K → oAt owner (way m h k) ≠ none := by
  obtain ⟨n, hn, e⟩ := run_hits hm h hj
  have there : way m h (off m (SetTable.bits h % (m + 1)) (SetTable.bits h) n) = j := by
    have q := nth_off m n (SetTable.bits h % (m + 1)) (SetTable.bits h)
    rw [itL_run] at q
    rw [← e]
    exact congrArg SetTable.Probe.j q
  obtain ⟨K, k1, k2, k3⟩ := st_least (p := fun k => oAt owner (way m h k) = none) _ (by rw [there]; exact hf)
  refine ⟨K, free_spec m owner _ n _ _ K (by unfold SetTable.turns; omega) k1 (fun c hc => ?_) ?_, k2, k3⟩
  · have q := k3 c hc
    revert q
    show oAt owner (way m h c) ≠ none → (oAt owner (way m h c)).isNone = false
    cases oAt owner (way m h c) with
    | none => exact fun z => absurd rfl z
    | some _ => exact fun _ => rfl
  · show (oAt owner (way m h K)).isNone = true
    rw [k2]
    rfl
theorem own_next {m : Nat} (hm : Msk m) {done : List Int} {owner : Array (Option Nat)} (W : Own m done owner) (few : done.length ≤ m) (h : Int) :
    ∃ j, SetTable.layClean.free m owner (SetTable.turns m) (SetTable.bits h % (m + 1)) (SetTable.bits h) = some j ∧ Own m (done ++ [h]) (owner.setIfInBounds j (some done.length)) := by
  obtain ⟨ps, lp, inp⟩ := W.ps
  obtain ⟨j0, a0, b0⟩ := st_missing ps (m + 1) (by omega)
  have z0 : oAt owner j0 = none := by
    cases q : oAt owner j0 with
    | none => rfl
    | some k => exact absurd (inp j0 (by omega) (by rw [q]; exact nofun)) b0
  obtain ⟨K, e1, e2, e3⟩ := free_at hm owner h (j := j0) (by omega) z0
  have inb : way m h K < owner.size := by
    have := in_le (m := m) (h := h) (k := K)
    rw [W.sz]
    omega
  have me := oAt_set_self (some done.length) inb
  have stays : ∀ i, oAt owner i ≠ none → oAt (owner.setIfInBounds (way m h K) (some done.length)) i ≠ none := fun i hi => by
    by_cases c : i = way m h K
    · rw [c, me]; exact nofun
    · rw [oAt_set_ne _ c]; exact hi
  refine ⟨_, e1, by rw [Array.size_setIfInBounds, W.sz], fun j k hj q => ?_, fun k hk => ?_, way m h K :: ps, by simp [lp], fun j hj q => ?_⟩
  · by_cases c : j = way m h K
    · rw [c, me] at q
      injection q with q
      exact ⟨h, K, by rw [← q]; simp, c.symm, fun c hc => stays _ (e3 c hc)⟩
    · rw [oAt_set_ne _ c] at q
      obtain ⟨h2, K2, a1, a2, a3⟩ := W.at_ j k hj q
      refine ⟨h2, K2, ?_, a2, fun c hc => stays _ (a3 c hc)⟩
      rw [List.getElem?_append_left (List.getElem?_eq_some_iff.mp a1).1, a1]
  · by_cases c : k < done.length
    · obtain ⟨j, hj, q⟩ := W.all k c
      exact ⟨j, hj, by rw [oAt_set_ne _ fun z => by rw [z, e2] at q; cases q]; exact q⟩
    · have : k = done.length := by
        have : k < done.length + 1 := by simpa using hk
        omega
      exact ⟨way m h K, in_le, by rw [this]; exact me⟩
  · by_cases c : j = way m h K
    · rw [c]; exact List.mem_cons_self ..
    · rw [oAt_set_ne _ c] at q
      exact List.mem_cons_of_mem _ (inp j hj q)
theorem own_all {m : Nat} (hm : Msk m) : ∀ (rest done : List Int) (owner : Array (Option Nat)), Own m done owner → done.length + rest.length ≤ m →
    ∃ o2, rest.foldl (stepF m) (some (owner, done.length)) = some (o2, (done ++ rest).length) ∧ Own m (done ++ rest) o2
  | [], done, owner, W, _ => ⟨owner, by simp, by simpa using W⟩
  | h :: rest, done, owner, W, few => by
    rw [List.length_cons] at few
    obtain ⟨j, e, W2⟩ := own_next hm W (by omega) h
    have l1 : (done ++ [h]).length = done.length + 1 := by simp
    obtain ⟨o2, f, W3⟩ := own_all hm rest (done ++ [h]) _ W2 (by omega)
    rw [l1] at f
    rw [List.append_assoc] at f W3
    exact ⟨o2, by rw [List.foldl_cons, stepF_some e]; exact f, W3⟩
theorem laid_anew (t : SetTable) {hs : Array Int} {wanted M : Nat} (hw : SetTable.sizeAbove wanted - 1 = M) (hM : Msk M) (few : hs.size ≤ M) :
    ∃ t2 ord, t.relaid hs wanted = some (t2, ord) ∧ ord.toList.Perm (List.range hs.size) ∧ Tk t2 (ord.toList.map fun i => hs.getD i 0) ∧ t2.mask = M ∧ t2.led = t.led ∧ t2.plain = t.plain := by
  obtain ⟨ow, f, W⟩ := own_all hM hs.toList [] _ (Own.init M) (by simpa using few)
  rw [List.nil_append] at f W
  have lay : SetTable.layClean M hs = some ow := by
    rw [layClean_eq]
    have f2 : hs.toList.foldl (stepF M) (some (Array.replicate (M + 1) none, 0)) = some (ow, hs.toList.length) := f
    rw [f2]
    rfl
  obtain ⟨ris, inr⟩ := ris_live (fun j => ow.getD j none) (List.range (M + 1)) (by
    unfold Ris
    first | exact List.pairwise_lt_range | exact List.pairwise_lt_range _)
  have live := fun j k => mem_live (j := j) (k := k) W.sz
  have cnt : (liveOf M ow).length = hs.size := by
    obtain ⟨ps, lp, inp⟩ := W.ps
    have nd : ((liveOf M ow).map (·.1)).Nodup := List.Pairwise.imp (fun q => Nat.ne_of_lt q) ris
    have lo := nat_nodup_len ((liveOf M ow).map (·.1)) ps nd fun x hx => by
      obtain ⟨⟨y, k⟩, hq, rfl⟩ := List.mem_map.mp hx
      obtain ⟨b1, b2⟩ := (live y k).mp hq
      exact inp y b1 (by rw [b2]; exact nofun)
    have hi := nat_nodup_len (List.range hs.size) ((liveOf M ow).map (·.2)) List.nodup_range fun k hk => by
      obtain ⟨j, b1, b2⟩ := W.all k (by simpa using hk)
      exact List.mem_map.mpr ⟨(j, k), (live j k).mpr ⟨b1, b2⟩, rfl⟩
    simp only [List.length_map, List.length_range, lp, Array.length_toList] at lo hi
    omega
  refine ⟨tabOf t M ow, ((liveOf M ow).map (·.2)).toArray, by rw [relaid_eq, hw, lay]; rfl, ?_, ⟨ris, rfl, ?_, hM, fun x hx => ?_, fun i h j e1 e2 => ?_⟩, rfl, rfl, rfl⟩
  · refine perm_range _ _ (by simpa using cnt) fun k hk => ?_
    obtain ⟨j, b1, b2⟩ := W.all k (by simpa using hk)
    exact List.mem_map.mpr ⟨(j, k), (live j k).mpr ⟨b1, b2⟩, rfl⟩
  · show ((liveOf M ow).map (·.1)).toArray.size = _
    simp
  · have q := List.mem_range.mp (inr x hx)
    show x ≤ M
    omega
  · have e3 : ((liveOf M ow).map (·.1))[i]? = some j := e2
    have e4 : (((liveOf M ow).map (·.2)).map fun i => hs.getD i 0)[i]? = some h := e1
    rw [List.getElem?_map] at e3 e4
    rw [List.getElem?_map] at e4
    obtain ⟨⟨y, k⟩, q1, q2⟩ := Option.map_eq_some_iff.mp e3
    rw [q1] at e4
    dsimp only at q2
    subst q2
    obtain ⟨b1, b2⟩ := (live y k).mp (List.mem_of_getElem? q1)
    obtain ⟨h0, K, a1, a2, a3⟩ := W.at_ y k b1 b2
    have e5 : h0 = h := by
      have z : hs[k]? = some h0 := by rw [← Array.getElem?_toList]; exact a1
      have z2 : hs.getD k 0 = h := Option.some.inj e4
      rw [Array.getD_eq_getD_getElem?, z] at z2
      exact z2
    subst e5
    refine ⟨K, a2, fun c hc => ?_⟩
    cases z : oAt ow (way M h0 c) with
    | none => exact absurd z (a3 c hc)
    | some k2 => exact List.mem_map.mpr ⟨(way M h0 c, k2), (live _ _).mpr ⟨in_le, z⟩, rfl⟩
end
theorem sizes_grown : SetTable.sizeAbove (SetTable.grown 5) = 32 ∧ SetTable.sizeAbove (SetTable.grown 19) = 128 ∧ SetTable.sizeAbove (SetTable.grown 77) = 512 := by decide +kernel
end J
/-! a set whose members are nested tuples of numbers: one more; filled from a list -/
namespace J
open PySem L2 PySem.Spec PyProof.Rows
mutual
def nums : NestedKey → Bool
  | .none => true | .num _ => true | .text _ => false | .tup ks => numsL ks
def numsL : List NestedKey → Bool
  | [] => true
  | k :: ks => nums k && numsL ks
end
/-- the tuple at b is the key k -/
structure KIs (h : Heap) (k : NestedKey) (b : Addr) : Prop where
  is : NestedIs h k (.ref b)
  dp : k.depth ≤ 8
  nm : nums k = true
section
variable {P : Program} {w : World} {s : Shared}
/-- the value v answers b, n levels down -/
def Says (P : Program) (w : World) (f : Value → Sem Bool) (b : Bool) (s : Shared) (v : Value) : Prop := ∀ (A : Around) (E : Value → Shared → Prop) (Q : Bool → Shared → Prop), Q b s → wpAny (model P w) A (f v) Q E s
theorem Says.pure {f : Value → Sem Bool} {b : Bool} {v : Value} (h : f v = pure b) : Says P w f b s v := fun A E Q q => by rw [h]; exact wpAny_pure q
theorem says_acl {n m : Nat} {a : Addr} {o : Obj} {vs : Array Value} (ho : s.heap.get? a = some o) (hc : o.cls = .type "tuple") (hd : o.data = .seq vs m) (all : ∀ v ∈ vs.toList, Says P w (ofAClassStatement n) false s v) : Says P w (ofAClassStatement (n + 1)) false s (.ref a) := fun A E Q q => by
  have ty : s.TypeIs (.ref a) "tuple" := ⟨o, ho, hc⟩
  have yes : (("tuple" : String) == "tuple") = true := by decide
  unfold ofAClassStatement
  refine wpAny_bind (wpAny_typeOf ty ?_)
  dsimp only
  simp only [yes, if_true, Bool.not_true, Bool.false_eq_true, if_false]
  try refine wpAny_bind (wpAny_pure ?_)
  try simp only [Bool.not_true, Bool.false_eq_true, if_false]
  refine wpAny_bind (wpAny_seqItems ho hd ?_)
  dsimp only
  refine wpAny_bind (show wpAny _ _ (forIn vs _ _) _ _ s from ?_)
  rw [← Array.forIn_toList]
  refine wpAny_forIn_list _ (fun ws r s2 => s2 = s ∧ r.1 = none ∧ ∀ v ∈ ws, v ∈ vs.toList) _ (fun v ws r s2 hI => ?_) (fun r s2 hI => ?_) _ _ ⟨rfl, rfl, fun _ z => z⟩
  · obtain ⟨rfl, h1, h2⟩ := hI
    refine wpAny_bind (all v (h2 v (List.mem_cons_self ..)) _ _ _ ?_)
    simp only [Bool.false_eq_true, if_false]
    exact wpAny_pure ⟨rfl, rfl, fun u hu => h2 u (List.mem_cons_of_mem _ hu)⟩
  · obtain ⟨rfl, h1, -⟩ := hI
    obtain ⟨r1, r2⟩ := r
    dsimp only at h1
    subst h1
    exact wpAny_pure q
theorem says_byv {n m : Nat} {a : Addr} {o : Obj} {vs : Array Value} (ho : s.heap.get? a = some o) (hc : o.cls = .type "tuple") (hd : o.data = .seq vs m) (all : ∀ v ∈ vs.toList, Says P w (hashByValue n) true s v) : Says P w (hashByValue (n + 1)) true s (.ref a) := fun A E Q q => by
  have ty : s.TypeIs (.ref a) "tuple" := ⟨o, ho, hc⟩
  unfold hashByValue
  refine wpAny_bind (wpAny_specialOf ty F.slot_tuple_hash.lookup ?_)
  refine wpAny_bind (wpAny_seqItems ho hd ?_)
  refine wpAny_bind (show wpAny _ _ (forIn vs _ _) _ _ s from ?_)
  rw [← Array.forIn_toList]
  refine wpAny_forIn_list _ (fun ws r s2 => s2 = s ∧ r.1 = none ∧ ∀ v ∈ ws, v ∈ vs.toList) _ (fun v ws r s2 hI => ?_) (fun r s2 hI => ?_) _ _ ⟨rfl, rfl, fun _ z => z⟩
  · obtain ⟨rfl, h1, h2⟩ := hI
    refine wpAny_bind (all v (h2 v (List.mem_cons_self ..)) _ _ _ ?_)
    simp only [Bool.not_true, Bool.false_eq_true, if_false]
    exact wpAny_pure ⟨rfl, rfl, fun u hu => h2 u (List.mem_cons_of_mem _ hu)⟩
  · obtain ⟨rfl, h1, -⟩ := hI
    obtain ⟨r1, r2⟩ := r
    dsimp only at h1
    subst h1
    exact wpAny_pure q
mutual
theorem acl_key : ∀ (k : NestedKey) (v : Value) (n : Nat), NestedIs s.heap k v → k.depth ≤ n → Says P w (ofAClassStatement n) false s v
  | .none, _, n, x, _ => by cases x; exact .pure (by cases n <;> rfl)
  | .num i, _, n, x, _ => by cases x <;> exact .pure (by cases n <;> rfl)
  | .text y, _, n, x, _ => by cases x; exact .pure (by cases n <;> rfl)
  | .tup ks, _, 0, x, d => by simp [NestedKey.depth] at d
  | .tup ks, _, n + 1, x, d => by
    simp only [NestedKey.depth] at d
    cases x with
    | tup g c e all => exact says_acl g c e (acl_keys ks _ n all (by omega))
theorem acl_keys : ∀ (ks : List NestedKey) (vs : List Value) (n : Nat), NestedAll s.heap ks vs → NestedKey.depthAll ks ≤ n → ∀ v ∈ vs, Says P w (ofAClassStatement n) false s v
  | [], _, _, x, _, v, hv => by cases x; cases hv
  | k :: ks, _, n, x, d, v, hv => by
    simp only [NestedKey.depthAll] at d
    cases x with
    | cons x1 x2 =>
      cases hv with
      | head => exact acl_key k _ n x1 (by omega)
      | tail _ hv => exact acl_keys ks _ n x2 (by omega) v hv
end
mutual
theorem byv_key : ∀ (k : NestedKey) (v : Value) (n : Nat), NestedIs s.heap k v → k.depth ≤ n → nums k = true → Says P w (hashByValue n) true s v
  | .none, _, n, x, _, _ => by cases x; exact .pure (by cases n <;> rfl)
  | .num i, _, n, x, _, _ => by cases x <;> exact .pure (by cases n <;> rfl)
  | .text y, _, n, x, _, m => by simp [nums] at m
  | .tup ks, _, 0, x, d, _ => by simp [NestedKey.depth] at d
  | .tup ks, _, n + 1, x, d, m => by
    simp only [NestedKey.depth] at d
    simp only [nums] at m
    cases x with
    | tup g c e all => exact says_byv g c e (byv_keys ks _ n all (by omega) m)
theorem byv_keys : ∀ (ks : List NestedKey) (vs : List Value) (n : Nat), NestedAll s.heap ks vs → NestedKey.depthAll ks ≤ n → numsL ks = true → ∀ v ∈ vs, Says P w (hashByValue n) true s v
  | [], _, _, x, _, _, v, hv => by cases x; cases hv
  | k :: ks, _, n, x, d, m, v, hv => by
    simp only [NestedKey.depthAll] at d
    simp only [numsL, Bool.and_eq_true] at m
    cases x with
    | cons x1 x2 =>
      cases hv with
      | head => exact byv_key k _ n x1 (by omega) m.1
      | tail _ hv => exact byv_keys ks _ n x2 (by omega) m.2 v hv
end
theorem KIs.on {h h' : Heap} {k : NestedKey} {b : Addr} (x : KIs h k b) (e : ∀ c o vs n, h.get? c = some o → o.data = .seq vs n → h'.get? c = some o) : KIs h' k b := ⟨NestedIs.at e k _ x.is, x.dp, x.nm⟩
theorem KIs.but {h h' : Heap} {k : NestedKey} {b d : Addr} {o : Obj} {es : Array (Int × Value)} {ep : Nat} {t : SetTable} (x : KIs h k b) (ho : h.get? d = some o) (hd : o.data = .set es ep t) (sb : Heap.SameBut d h h') : KIs h' k b := x.on fun c u vs n e1 e2 => by
  refine (sb.2 c fun z => ?_).trans e1
  subst z
  rw [ho] at e1
  cases e1
  rw [hd] at e2
  cases e2
end
/-! ### the set -/
section
variable {P : Program} {w : World} {A : Around} {E : Value → Shared → Prop} {s : Shared}
abbrev hsh (w : World) (k : NestedKey) : Int := k.hash w
abbrev rws (w : World) (L : List (Addr × NestedKey)) : List (Int × Value) := L.map fun p => (hsh w p.2, Value.ref p.1)
/-- the set at a has the members L -/
structure SetK (w : World) (h : Heap) (a : Addr) (L : List (Addr × NestedKey)) (es : Array (Int × Value)) (ep : Nat) (t : SetTable) : Prop where
  obj : ∃ o, h.get? a = some o ∧ o.ExactSet ∧ o.data = .set es ep t
  row : es.toList = rws w L
  tab : Tk t (L.map fun p => hsh w p.2)
  dif : (L.map (·.2)).Nodup
  key : ∀ p ∈ L, KIs h p.2 p.1
  pl : t.plain = true
  led : w.params.followText "set-order" = true ∨ t.led = true
  rm : L.length * 5 < t.mask * 3
variable {a : Addr} {L : List (Addr × NestedKey)} {es : Array (Int × Value)} {ep : Nat} {t : SetTable}
theorem rws_size (hr : es.toList = rws w L) : es.size = L.length := by
  have := congrArg List.length hr
  rwa [Array.length_toList, List.length_map] at this
theorem rws_at (hr : es.toList = rws w L) {i : Nat} {p : Addr × NestedKey} (h : L[i]? = some p) : es[i]? = some (hsh w p.2, Value.ref p.1) := by
  rw [← Array.getElem?_toList, hr, List.getElem?_map, h]
  rfl
theorem SetK.size (R : SetK w s.heap a L es ep t) : es.size = L.length := rws_size R.row
theorem Tk.fits {n : Nat} (T : Tk t (L.map fun p => hsh w p.2)) (hn : n = L.length) (hm : L.length ≤ t.mask) : t.fits n = true := by
  have z := T.len
  rw [List.length_map] at z
  unfold SetTable.fits SetTable.fill
  rw [T.nd, z, hn]
  simpa using hm
theorem SetK.fits (R : SetK w s.heap a L es ep t) : t.fits es.size = true := R.tab.fits R.size (by have := R.rm; omega)
theorem SetK.msk (R : SetK w s.heap a L es ep t) : t.mask ≤ 511 := (msk_odd R.tab.msk).2
/-- asking among keys shows nothing -/
theorem unseen {k : NestedKey} {b : Addr} {ys : List Value} {Q : Bool → Shared → Prop} (hb : KIs s.heap k b) (hy : ∀ y ∈ ys, ∃ k' c, y = Value.ref c ∧ KIs s.heap k' c) (q : Q false s) : wpAny (model P w) A (searchCouldBeSeen (.ref b) ys) Q E s := by
  unfold searchCouldBeSeen
  refine wpAny_bind (wpAny_forIn_list _ (fun ws r s2 => s2 = s ∧ r.1 = none ∧ ∀ y ∈ ws, y ∈ ys) _ (fun y ws r s2 hI => ?_) (fun r s2 hI => ?_) _ _ ⟨rfl, rfl, fun _ z => z⟩)
  · obtain ⟨rfl, h1, h2⟩ := hI
    obtain ⟨k', c, rfl, hc⟩ := hy _ (h2 _ (List.mem_cons_self ..))
    have on : ∀ y ∈ ws, y ∈ ys := fun y z => h2 y (List.mem_cons_of_mem _ z)
    dsimp only
    by_cases hv : (b == c || (carriedByValue (.ref b) && carriedByValue (.ref c))) = true
    · exact wp_if_pos hv (wpAny_pure ⟨rfl, rfl, on⟩)
    · refine wp_if_neg hv (wpAny_bind (quiet_key k _ 8 _ hb.is hb.dp _ _ _ ?_))
      refine wp_if_neg (by decide) (wpAny_bind (quiet_key k' _ 8 _ hc.is hc.dp _ _ _ ?_))
      refine wp_if_neg (by decide) (wpAny_bind (acl_key k _ 8 hb.is hb.dp _ _ _ ?_))
      refine wp_if_neg (by decide) (wpAny_bind (acl_key k' _ 8 hc.is hc.dp _ _ _ ?_))
      exact wp_if_neg (by decide) (wpAny_pure ⟨rfl, rfl, on⟩)
  · obtain ⟨rfl, h1, -⟩ := hI
    obtain ⟨r1, r2⟩ := r
    dsimp only at h1
    subst h1
    exact wpAny_pure q
theorem gone_dm (m : Nat) : ∀ (n : Nat) (p : SetTable.Probe), p.dummy = none → (nth m p n).dummy = none
  | 0, _, e => e
  | n + 1, p, e => gone_dm m n (adv m p) (by unfold adv; split <;> exact e)
/-- the state of a search after c steps -/
abbrev prb (m : Nat) (h : Int) (c : Nat) : SetTable.Probe := nth m (runAt m (SetTable.bits h % (m + 1)) (SetTable.bits h)) c
/-- what the table says to one who stands at step c, when the first gap is at step K -/
theorem probe_at {hs : List Int} {f : Nat → Int} {h : Int} {K c : Nat} (T : Tk t hs) (hf : K < 10 * SetTable.turns t.mask) (hK : way t.mask h K ∉ t.place.toList) (hb : ∀ c, c < K → way t.mask h c ∈ t.place.toList) (hc : c ≤ K) :
    (∃ d i, c ≤ d ∧ d < K ∧ t.place.toList[i]? = some (way t.mask h d) ∧ (∀ d' i', c ≤ d' → d' < d → t.place.toList[i']? = some (way t.mask h d') → f i' ≠ h) ∧ t.probe f h (prb t.mask h c) = some (.candidate (way t.mask h d) i (prb t.mask h (d + 1)))) ∨
    ((∀ d' i', c ≤ d' → d' < K → t.place.toList[i']? = some (way t.mask h d') → f i' ≠ h) ∧ t.probe f h (prb t.mask h c) = some (.empty (way t.mask h K) none)) := by
  have sh : ∀ q, nth t.mask (prb t.mask h c) q = prb t.mask h (c + q) := fun q => (nth_add t.mask c _ q).symm
  have wq : ∀ q, (nth t.mask (prb t.mask h c) q).j = way t.mask h (c + q) := fun q => congrArg SetTable.Probe.j (sh q)
  have back : ∀ d, c ≤ d → c + (d - c) = d := fun d _ => by omega
  rcases go_spec t T.up T.nd f h (10 * SetTable.turns t.mask) (K - c) (prb t.mask h c) (gone_dm _ _ _ rfl) (by omega) (fun q hq => by rw [wq]; exact hb _ (by omega)) (by rw [wq, back K hc]; exact hK) with ⟨q, i, h1, h2, -, no, h3⟩ | ⟨no, h3⟩
  · rw [wq] at h2
    refine .inl ⟨c + q, i, by omega, by omega, h2, fun d' i' a b e => no (d' - c) i' (by omega) (by rw [wq, back d' a]; exact e), ?_⟩
    rw [wq, sh] at h3
    exact h3
  · rw [wq, back K hc] at h3
    exact .inr ⟨fun d' i' a b e => no (d' - c) i' (by omega) (by rw [wq, back d' a]; exact e), h3⟩
/-- the search from step c on -/
theorem look {x : Addr} {k : NestedKey} {K : Nat} {Q : SetFound → Shared → Prop} (R : SetK w s.heap a L es ep t) (hx : KIs s.heap k x) (hu : A.units + 8 < cLine) (hf : K < 10 * SetTable.turns t.mask) (hK : way t.mask (hsh w k) K ∉ t.place.toList) (hb : ∀ c, c < K → way t.mask (hsh w k) c ∈ t.place.toList)
    (hin : k ∈ L.map (·.2) → Q (.there none) s) (hout : k ∉ L.map (·.2) → Q (.free (way t.mask (hsh w k) K) false) s) :
    ∀ (f c : Nat) (st : Option SetTable.Probe), st.getD (t.probeStart (hsh w k)) = prb t.mask (hsh w k) c → c ≤ K → K < c + f → (∀ (i : Nat) p, L[i]? = some p → p.2 = k → ∃ d, c ≤ d ∧ d < K ∧ t.place.toList[i]? = some (way t.mask (hsh w k) d)) →
      wpAny (model P w) A (setSearchFrom a (.ref x) (hsh w k) true f st) Q E s := by
  obtain ⟨o, ho, -, hd⟩ := R.obj
  have hash_at : ∀ (i : Nat) p, L[i]? = some p → ((es[i]?.map (·.1)).getD 0) = hsh w p.2 := fun i p e => by rw [rws_at R.row e]; rfl
  intro f
  induction f with
  | zero => exact fun c st _ h1 h2 => absurd h2 (by omega)
  | succ f ih =>
    intro c st e h1 h2 pos
    rw [setSearchFrom_succ]
    refine wpAny_bind (wpAny_setState_of ho hd R.fits (wp_if_neg (fun g => ?_) ?_))
    · unfold SetTable.gaveWay at g
      rw [(msk_odd R.tab.msk).1] at g
      exact absurd g (by decide)
    rcases probe_at (f := fun i => (es[i]?.map (·.1)).getD 0) R.tab hf hK hb h1 with ⟨d, i, q1, q2, q3, no, q4⟩ | ⟨no, q4⟩
    · rw [e, q4]
      dsimp only
      have hi : i < L.length := by
        have z := (List.getElem?_eq_some_iff.mp q3).1
        have z2 := R.tab.len
        rw [List.length_map] at z2
        rw [Array.length_toList, z2] at z
        exact z
      obtain ⟨p, hp⟩ : ∃ p, L[i]? = some p := ⟨_, List.getElem?_eq_getElem hi⟩
      have mp := List.mem_of_getElem? hp
      have ent := rws_at R.row hp
      have kp := R.key p mp
      have go : wpAny (model P w) A (searchRest a (.ref x) (hsh w k) true f es t (way t.mask (hsh w k) d) i (prb t.mask (hsh w k) (d + 1))) Q E s := by
        unfold searchRest
        rw [ent]
        refine wpAny_bind (wpAny_holding ((nestedKind P w).eqBool (x := p.2) (y := k) hu ⟨kp.is, kp.dp⟩ ⟨hx.is, hx.dp⟩ ?_))
        refine wpAny_bind (wpAny_setState_of ho hd R.fits ?_)
        by_cases hpk : p.2 = k
        · rw [decide_eq_true hpk]
          exact wp_if_pos (by decide) (wpAny_pure (hin (hpk ▸ List.mem_map.mpr ⟨p, mp, rfl⟩)))
        rw [decide_eq_false hpk]
        refine wp_if_neg (by decide) ?_
        rw [sameMem]
        have live := slot_live R.tab.up q3
        simp only [if_true, live, ent]
        refine wpAny_bind (wpAny_isSame_ref_self (wpAny_bind (wpAny_pure ?_)))
        simp only [if_true]
        refine wp_if_neg (by decide) (ih (d + 1) _ rfl (by omega) (by omega) fun i0 p0 e0 k0 => ?_)
        obtain ⟨d0, a1, a2, a3⟩ := pos i0 p0 e0 k0
        refine ⟨d0, ?_, a2, a3⟩
        rcases Nat.lt_trichotomy d0 d with z | z | z
        · exact absurd ((hash_at i0 p0 e0).trans (congrArg (hsh w) k0)) (no d0 i0 a1 z a3)
        · subst z
          have s1 := slot_live R.tab.up a3
          rw [live] at s1
          injection s1 with s1
          subst s1
          rw [hp] at e0
          injection e0 with e0
          exact absurd (e0 ▸ k0) hpk
        · exact z
      by_cases hl : t.led = true
      · exact wp_if_neg (by simp [hl]) go
      · refine wp_if_pos (by simp [hl]) (wpAny_bind (unseen hx (fun y hy => ?_) (wp_if_neg (by decide) go)))
        obtain ⟨z, z1, rfl⟩ := List.mem_map.mp hy
        have z2 : z ∈ es.toList := by
          have := List.mem_filter.mp (by simpa using z1 : z ∈ es.toList.filter fun r => r.1 == hsh w k)
          exact this.1
        rw [R.row] at z2
        obtain ⟨m, hm, rfl⟩ := List.mem_map.mp z2
        exact ⟨_, _, rfl, R.key m hm⟩
    · rw [e, q4]
      refine wpAny_pure (hout fun hm => ?_)
      obtain ⟨p0, m0, k0⟩ := List.mem_map.mp hm
      obtain ⟨i0, l0, e0⟩ := List.getElem_of_mem m0
      have e1 : L[i0]? = some p0 := by rw [List.getElem?_eq_getElem l0, e0]
      obtain ⟨d0, a1, a2, a3⟩ := pos i0 p0 e1 k0
      exact no d0 i0 a1 a2 a3 ((hash_at i0 p0 e1).trans (congrArg (hsh w) k0))
theorem look0 {x : Addr} {k : NestedKey} {Q : SetFound → Shared → Prop} (R : SetK w s.heap a L es ep t) (hx : KIs s.heap k x) (hu : A.units + 8 < cLine)
    (hin : k ∈ L.map (·.2) → Q (.there none) s) (hout : ∀ K, k ∉ L.map (·.2) → way t.mask (hsh w k) K ∉ t.place.toList → (∀ c, c < K → way t.mask (hsh w k) c ∈ t.place.toList) → Q (.free (way t.mask (hsh w k) K) false) s) :
    wpAny (model P w) A (setSearch a (.ref x) (hsh w k) true) Q E s := by
  have rm := R.rm
  have ms := R.msk
  have z := R.tab.len
  rw [List.length_map, ← Array.length_toList] at z
  obtain ⟨K, b1, b2, b3⟩ := way_gap R.tab.msk (occ := t.place.toList) (by omega) (hsh w k)
  have big : K < 100000 := by
    unfold SetTable.turns at b1
    omega
  unfold setSearch
  refine look R hx hu b1 b2 b3 hin (fun n => hout K n b2 b3) 100000 0 none rfl (Nat.zero_le _) (by omega) fun i p hp hk => ?_
  obtain ⟨d, d1, d2⟩ := R.tab.ahead b2 (i := i) (by rw [List.getElem?_map, hp, ← hk]; rfl)
  exact ⟨d, Nat.zero_le _, d1, d2⟩
/-- rows in another order -/
theorem rws_order (ord : Array Nat) (hr : es.toList = rws w L) (hp : ord.toList.Perm (List.range L.length)) :
    ∃ L2, (ord.filterMap (es[·]?)).toList = rws w L2 ∧ L2.Perm L ∧ (L2.map fun p => hsh w p.2) = ord.toList.map fun i => (es.map (·.1)).getD i 0 := by
  have one : ∀ l : List Nat, (∀ i ∈ l, i < L.length) → l.filterMap (fun i => es[i]?) = rws w (l.filterMap fun i => L[i]?) ∧ ((l.filterMap fun i => L[i]?).map fun p => hsh w p.2) = l.map fun i => (es.map (·.1)).getD i 0 := by
    intro l
    induction l with
    | nil => exact fun _ => ⟨rfl, rfl⟩
    | cons i l ih =>
      intro hl
      obtain ⟨p, e⟩ : ∃ p, L[i]? = some p := ⟨_, List.getElem?_eq_getElem (hl i (List.mem_cons_self ..))⟩
      have ee := rws_at hr e
      obtain ⟨i1, i2⟩ := ih fun j hj => hl j (List.mem_cons_of_mem _ hj)
      have hd : (es.map (·.1)).getD i 0 = hsh w p.2 := by simp [Array.getD_eq_getD_getElem?, ee]
      refine ⟨?_, ?_⟩
      · rw [List.filterMap_cons_some ee, List.filterMap_cons_some e, i1]; rfl
      · rw [List.filterMap_cons_some e, List.map_cons, List.map_cons, hd, i2]
  have whole : (List.range L.length).filterMap (fun i => L[i]?) = L := by
    have upto : ∀ n, n ≤ L.length → (List.range n).filterMap (fun i => L[i]?) = L.take n := by
      intro n
      induction n with
      | zero => exact fun _ => rfl
      | succ n ih =>
        intro hn
        have e : L[n]? = some L[n] := List.getElem?_eq_getElem hn
        rw [List.range_succ, List.filterMap_append, ih (by omega), List.take_succ, e, List.filterMap_cons_some e]
        rfl
    rw [upto _ (Nat.le_refl _), List.take_length]
  obtain ⟨i1, i2⟩ := one ord.toList fun i hi => List.mem_range.mp (hp.mem_iff.mp hi)
  refine ⟨_, by first | (rw [Array.toList_filterMap]; exact i1) | simpa using i1, ?_, i2⟩
  have q := hp.filterMap fun i => L[i]?
  rw [whole] at q
  exact q
/-- the table laid anew -/
theorem relay {o : Obj} (ho : s.heap.get? a = some o) (hex : o.ExactSet) (hd : o.data = .set es ep t) (hr : es.toList = rws w L) (T : Tk t (L.map fun p => hsh w p.2)) (hm : L.length ≤ t.mask) (dif : (L.map (·.2)).Nodup) (key : ∀ p ∈ L, KIs s.heap p.2 p.1) (pl : t.plain = true)
    (led : w.params.followText "set-order" = true ∨ t.led = true) {wanted M : Nat} (hw : SetTable.sizeAbove wanted = M + 1) (hM : Msk M) (few : L.length * 5 < M * 3) {Q : Unit → Shared → Prop}
    (hQ : ∀ h' L' es' ep' t', Heap.SameBut a s.heap h' → SetK w h' a L' es' ep' t' → L'.Perm L → Q () { s with heap := h' }) : wpAny (model P w) A (setRelay a wanted) Q E s := by
  have sz := rws_size hr
  have m5 := (msk_odd hM).2
  obtain ⟨t2, ord, e1, e2, T2, m2, l2, p2⟩ := laid_anew t (hs := es.map (·.1)) (wanted := wanted) (by rw [hw]; rfl) hM (by rw [Array.size_map, sz]; omega)
  rw [Array.size_map, sz] at e2
  obtain ⟨L2, r1, r2, r3⟩ := rws_order ord hr e2
  rw [← r3] at T2
  have sz2 : (ord.filterMap (es[·]?)).size = es.size := by rw [rws_size r1, r2.length_eq, sz]
  rw [setRelay_eq]
  refine wpAny_bind (wpAny_setState_of ho hd (T.fits sz hm) ?_)
  dsimp only
  refine wp_if_neg (by rw [sizeLine_eq, hw]; omega) ?_
  try refine wpAny_bind (wpAny_pure ?_)
  rw [e1]
  dsimp only
  refine wpAny_bind (wp_if_neg (by rw [sz2]; simp) ?_)
  try refine wpAny_bind (wpAny_pure ?_)
  refine wpAny_pure ?_
  dsimp only
  refine wpAny_storeSet_of ho hd ?_ (by rw [sz2, sz, sizeLine_eq]; omega)
  have sb := Heap.SameBut.update s.heap a (Obj.putSet (ord.filterMap (es[·]?)) t2)
  refine hQ _ L2 _ (ep + 1) t2 sb ⟨⟨_, store_at ho hd, ⟨hex.1, hex.2.1, hex.2.2⟩, rfl⟩, r1, T2, (r2.map _).nodup_iff.mpr dif, fun p hp => (key p (r2.mem_iff.mp hp)).but ho hd sb, p2.trans pl, by rw [l2]; exact led, by rw [r2.length_eq, m2]; exact few⟩ r2
/-- one more -/
theorem add1 {x : Addr} {k : NestedKey} {Q : Bool → Shared → Prop} (R : SetK w s.heap a L es ep t) (hx : KIs s.heap k x) (hu : A.units + 8 < cLine) (few : L.length < 200)
    (hQ : ∀ b h' L' es' ep' t', Heap.SameBut a s.heap h' → SetK w h' a L' es' ep' t' → (k ∈ L.map (·.2) → L' = L) → (k ∉ L.map (·.2) → L'.Perm ((x, k) :: L)) → Q b { s with heap := h' }) :
    wpAny (model P w) A (setAddHashed a (.ref x) (hsh w k)) Q E s := by
  obtain ⟨o, ho, hex, hd⟩ := R.obj
  have sz := R.size
  have rm := R.rm
  unfold setAddHashed
  refine wpAny_holding ?_
  rw [show (100000 : Nat) = 99999 + 1 from rfl, setAddHashedIn_succ]
  refine wpAny_bind (wpAny_setState_of ho hd R.fits (wp_if_neg (by simp [byScan, Value.scannable]) ?_))
  try refine wpAny_bind (wpAny_pure ?_)
  refine wpAny_bind (look0 R hx hu (fun hm => ?_) fun K hm hK hb => ?_)
  · exact wpAny_pure (hQ _ _ L es ep t (Heap.SameBut.refl a s.heap) R (fun _ => rfl) fun z => absurd hm z)
  refine wpAny_bind (wpAny_setState_of ho hd R.fits ?_)
  dsimp only
  obtain ⟨p, hpp⟩ : ∃ p, SetTable.below t.place (way t.mask (hsh w k) K) = p := ⟨_, rfl⟩
  obtain ⟨q1, q2, T1, q4, q5, q6, q7⟩ := R.tab.put hK hb hpp
  have pl1 := q6.trans R.pl
  generalize t.put (way t.mask (hsh w k) K) = pt at q1 T1 q4 q5 q6 q7 pl1 ⊢
  obtain ⟨t1, p1⟩ := pt
  dsimp only at q1 T1 q4 q5 q6 q7 pl1 ⊢
  subst q1
  rw [List.length_map] at q2 q7
  first
    | refine wpAny_bind (wp_if_pos pl1 (byv_key k _ 8 hx.is hx.dp hx.nm _ _ _ ?_))
    | refine wp_if_pos pl1 (wpAny_bind (byv_key k _ 8 hx.is hx.dp hx.nm _ _ _ ?_))
  simp only [if_true]
  have pm : (L.take p1 ++ (x, k) :: L.drop p1).Perm ((x, k) :: L) := by
    have z : (L.take p1 ++ (x, k) :: L.drop p1).Perm ((x, k) :: (L.take p1 ++ L.drop p1)) := List.perm_middle
    rwa [List.take_append_drop] at z
  have ro : (SetTable.insertAt es p1 (hsh w k, Value.ref x)).toList = rws w (L.take p1 ++ (x, k) :: L.drop p1) := by
    rw [SetTable.toList_insertAt, R.row]
    simp [rws, List.map_take, List.map_drop]
  have T2 : Tk t1 ((L.take p1 ++ (x, k) :: L.drop p1).map fun p => hsh w p.2) := by
    rw [List.map_append, List.map_cons, List.map_take, List.map_drop]
    exact T1
  have nd1 : ((L.take p1 ++ (x, k) :: L.drop p1).map (·.2)).Nodup := by
    refine (pm.map _).nodup_iff.mpr ?_
    rw [List.map_cons]
    exact List.nodup_cons.mpr ⟨hm, R.dif⟩
  have l1 : (L.take p1 ++ (x, k) :: L.drop p1).length = L.length + 1 := pm.length_eq
  have sz1 := rws_size ro
  generalize SetTable.insertAt es p1 (hsh w k, Value.ref x) = es1 at ro sz1 ⊢
  generalize L.take p1 ++ (x, k) :: L.drop p1 = L1 at pm ro T2 nd1 l1 sz1
  refine wpAny_bind (wpAny_storeSet_of ho hd ?_ (by rw [sz1, l1, sizeLine_eq]; omega))
  have sb := Heap.SameBut.update s.heap a (Obj.putSet es1 t1)
  have ho1 := store_at (es' := es1) (t' := t1) ho hd
  generalize s.heap.update a (Obj.putSet es1 t1) = h1 at sb ho1 ⊢
  have key1 : ∀ q ∈ L1, KIs h1 q.2 q.1 := fun q hq => by
    rcases List.mem_cons.mp (pm.mem_iff.mp hq) with rfl | z
    · exact hx.but ho hd sb
    · exact (R.key q z).but ho hd sb
  have led1 : w.params.followText "set-order" = true ∨ t1.led = true := by rw [q5]; exact R.led
  by_cases hf : t1.tooFull = true
  · first
      | (refine wpAny_bind ?_; refine wp_if_pos (by simp [hf]) ?_)
      | (refine wp_if_pos (by simp [hf]) ?_; refine wpAny_bind ?_)
    have full := hf
    unfold SetTable.tooFull at full
    rw [decide_eq_true_eq, q7] at full
    obtain ⟨M, w1, w2, w3⟩ : ∃ M, SetTable.sizeAbove (SetTable.grown (L.length + 1)) = M + 1 ∧ Msk M ∧ (L.length + 1) * 5 < M * 3 := by
      obtain ⟨g1, g2, g3⟩ := sizes_grown
      rw [q4] at full
      rcases R.tab.msk with (e | e | e) | e <;> rw [e] at full rm
      · have e4 : L.length = 4 := by omega
        rw [e4]
        exact ⟨31, g1, .inl (.inr (.inl rfl)), by decide⟩
      · have e18 : L.length = 18 := by omega
        rw [e18]
        exact ⟨127, g2, .inl (.inr (.inr rfl)), by decide⟩
      · have e76 : L.length = 76 := by omega
        rw [e76]
        exact ⟨511, g3, .inr rfl, by decide⟩
      · omega
    rw [sz]
    refine relay (s := { s with heap := h1 }) ho1 ⟨hex.1, hex.2.1, hex.2.2⟩ rfl ro T2 (by rw [l1, q4]; rcases R.tab.msk with (e | e | e) | e <;> omega) nd1 key1 pl1 led1 w1 w2 (by rw [l1]; exact w3) fun h2 L2 es2 ep2 t2 sb2 R2 pm2 => ?_
    exact wpAny_pure (hQ true h2 L2 es2 ep2 t2 (sb.trans sb2) R2 (fun z => absurd z hm) fun _ => pm2.trans pm)
  · first
      | refine wp_if_neg (by simp [hf]) ?_
      | (refine wpAny_bind ?_; refine wp_if_neg (by simp [hf]) ?_; refine wpAny_pure ?_)
    have free := hf
    unfold SetTable.tooFull at free
    rw [decide_eq_true_eq, q7] at free
    exact wpAny_pure (hQ true h1 L1 es1 (ep + 1) t1 sb ⟨⟨_, ho1, ⟨hex.1, hex.2.1, hex.2.2⟩, rfl⟩, ro, T2, nd1, key1, pl1, led1, by rw [l1]; omega⟩ (fun z => absurd z hm) fun _ => pm)
end
end J
/-! set(xs), len(set(xs)), sorted(set(xs)): xs a list of fewer than 200 nested tuples of numbers -/
namespace J
open PySem L2 PySem.Spec PyProof.Rows
/-- the members that the first i items have given -/
structure GotK (ks : List (Addr × NestedKey)) (i : Nat) (L : List (Addr × NestedKey)) : Prop where
  sub : ∀ p ∈ L, p ∈ ks.take i
  all : ∀ p ∈ ks.take i, p.2 ∈ L.map (·.2)
  few : L.length ≤ i
theorem take_1 {α : Type} {l : List α} {i : Nat} {x : α} (h : l[i]? = some x) : l.take (i + 1) = l.take i ++ [x] := by
  rw [List.take_succ, h]
  rfl
section
variable {ks L L' : List (Addr × NestedKey)} {i : Nat} {x : Addr × NestedKey}
theorem GotK.next (g : GotK ks i L) (h : ks[i]? = some x) (c1 : x.2 ∈ L.map (·.2) → L' = L) (c2 : x.2 ∉ L.map (·.2) → L'.Perm ((x.1, x.2) :: L)) : GotK ks (i + 1) L' := by
  by_cases c : x.2 ∈ L.map (·.2)
  · obtain rfl := c1 c
    refine ⟨fun p hp => ?_, fun p hp => ?_, Nat.le_succ_of_le g.few⟩
    · rw [take_1 h]; exact List.mem_append_left _ (g.sub p hp)
    · rw [take_1 h, List.mem_append, List.mem_singleton] at hp
      rcases hp with z | rfl
      · exact g.all p z
      · exact c
  · have pm : L'.Perm (x :: L) := c2 c
    refine ⟨fun p hp => ?_, fun p hp => ?_, by rw [pm.length_eq]; exact Nat.succ_le_succ g.few⟩
    · rw [take_1 h, List.mem_append, List.mem_singleton]
      rcases List.mem_cons.mp (pm.mem_iff.mp hp) with z | z
      · exact .inr z
      · exact .inl (g.sub p z)
    · rw [(pm.map (·.2)).mem_iff, List.map_cons, List.mem_cons]
      rw [take_1 h, List.mem_append, List.mem_singleton] at hp
      rcases hp with z | rfl
      · exact .inr (g.all p z)
      · exact .inl rfl
end
section
variable {P : Program} {w : World} {A : Around} {E : Value → Shared → Prop} {s : Shared}
theorem KIs.keep {h h' : Heap} {k : NestedKey} {b : Addr} (x : KIs h k b) (e : ∀ c o, h.get? c = some o → h'.get? c = some o) : KIs h' k b := x.on fun c o _ _ e1 _ => e c o e1
theorem SetK.keep {h h' : Heap} {a : Addr} {L : List (Addr × NestedKey)} {es : Array (Int × Value)} {ep : Nat} {t : SetTable} (R : SetK w h a L es ep t) (ha : ∀ o, h.get? a = some o → h'.get? a = some o) (hk : ∀ p ∈ L, KIs h' p.2 p.1) : SetK w h' a L es ep t := by
  obtain ⟨o, ho, r⟩ := R.obj
  exact ⟨⟨o, ha o ho, r⟩, R.row, R.tab, R.dif, hk, R.pl, R.led, R.rm⟩
theorem setK_new {h : Heap} {a : Addr} (ho : h.get? a = some (set0 w)) : SetK w h a [] #[] 0 (.fresh 0 0 (!w.params.followText "set-order")) where
  obj := ⟨_, ho, ⟨rfl, rfl, rfl⟩, rfl⟩
  row := rfl
  tab := ⟨List.Pairwise.nil, rfl, rfl, .inl (.inl rfl), fun _ z => (by cases z), fun i h j z => (by simp at z)⟩
  dif := List.nodup_nil
  key := fun _ z => (by cases z)
  pl := rfl
  led := by
    cases e : w.params.followText "set-order"
    · exact .inr rfl
    · exact .inl rfl
  rm := by show 0 < 7 * 3; decide
theorem update_keys {I : Addr} {fp wr : List Addr} {G : Array GenState → Array GenState → Prop} {n : Nat} {Pv : Nat → Value → Prop} {St : Nat → Shared → Prop} {R : Result → Shared → Prop}
    (W : WalksS P w A.in1 I fp wr G n Pv St) (S : Addr) (hSf : S ∉ fp) (ks : List (Addr × NestedKey)) (hn : n = ks.length) (few : ks.length ≤ 200) (hval : ∀ i v, Pv i v → ∃ p, ks[i]? = some p ∧ v = .ref p.1)
    (h0 : Heap) (hk : ∀ p ∈ ks, KIs h0 p.2 p.1) (hS0 : h0.get? S = none) (hw0 : ∀ b ∈ wr, h0.get? b = none) (hu : A.in1.units + 8 < cLine) :
    ∀ (k i : Nat) (s : Shared), n - i = k → i ≤ n → St i s → (∀ b o, h0.get? b = some o → s.heap.get? b = some o) → (∃ L es ep t, SetK w s.heap S L es ep t ∧ GotK ks i L) →
      (∀ s' L es ep t, Moved (S :: wr) G s s' → SetK w s'.heap S L es ep t → GotK ks n L → (∀ b o, h0.get? b = some o → s'.heap.get? b = some o) → R (.ok (.ret .none)) s') →
      codeAny (model P w) A (.builtin "set.update.loop" ⟨[.ref S, .ref I], []⟩) R s := by
  have Sw : S ∉ wr := fun z => hSf (W.sub _ z)
  have up : ∀ b ∈ wr, b ∈ S :: wr := fun b z => List.mem_cons_of_mem _ z
  have still : ∀ {s s' : Shared}, Moved wr G s s' → (∀ b o, h0.get? b = some o → s.heap.get? b = some o) → ∀ b o, h0.get? b = some o → s'.heap.get? b = some o := fun m q b o e =>
    m.heap b o (fun z => by rw [hw0 b z] at e; cases e) (q b o e)
  intro k
  induction k with
  | zero =>
    intro i s ek hi st q ⟨L, es, ep, t, RS, g⟩ fin
    obtain rfl : i = n := by omega
    refine codeAny_builtin F.entry_set_update_loop ?_
    rw [Around.under_plainId F.plain_set_update_loop _]
    refine wpAny_bind (show wpAny _ A.in1 (pyNext (.ref I)) _ _ s from W.done s _ _ st fun s' m => ?_)
    have q2 := still m q
    have inks : ∀ p ∈ L, p ∈ ks := fun p z => List.mem_of_mem_take (g.sub p z)
    show wpAny _ A.in1 (ret Value.none) _ _ s'
    exact wpAny_pure (fin s' L es ep t (m.mono up) (RS.keep (fun o e => m.heap S o Sw e) fun p z => (hk p (inks p z)).keep q2) g q2)
  | succ k ih =>
    intro i s ek hi st q ⟨L, es, ep, t, RS, g⟩ fin
    have lt : i < n := by omega
    refine codeAny_builtin F.entry_set_update_loop ?_
    rw [Around.under_plainId F.plain_set_update_loop _]
    refine wpAny_bind (show wpAny _ A.in1 (pyNext (.ref I)) _ _ s from W.item i s _ _ lt st fun v s' pv st2 m => ?_)
    obtain ⟨p, hp, rfl⟩ := hval i v pv
    have q2 := still m q
    have inks : ∀ p ∈ L, p ∈ ks := fun p z => List.mem_of_mem_take (g.sub p z)
    have RS2 : SetK w s'.heap S L es ep t := RS.keep (fun o e => m.heap S o Sw e) fun p z => (hk p (inks p z)).keep q2
    have kp : KIs s'.heap p.2 p.1 := (hk p (List.mem_of_getElem? hp)).keep q2
    refine wpAny_bind (show wpAny _ A.in1 (holding [Value.ref p.1] (setAdd S (.ref p.1))) _ _ s' from wpAny_holding ?_)
    unfold setAdd
    refine wpAny_holding (wpAny_bind (pyHash_key p.2 _ _ _ _ kp.is (by have := kp.dp; omega) ?_))
    refine add1 (s := { s' with toks := s'.toks + p.2.draws }) RS2 kp hu (by have := g.few; omega) fun b h' L' es' ep' t' sb R3 c1 c2 => ?_
    have q3 : ∀ b o, h0.get? b = some o → h'.get? b = some o := fun b o e => (sb.2 b fun z => by rw [z, hS0] at e; cases e).trans (q2 b o e)
    refine wpAny_pure ⟨plainId_quiet F.plain_set_update_loop _, ih (i + 1) _ (by omega) lt (W.frame _ s' _ _ st2 (Nat.le_add_right _ _) fun b hb o e => ?_) q3 ⟨L', es', ep', t', R3, g.next hp c1 c2⟩ fun s3 L3 es3 ep3 t3 m3 R4 g3 q4 => ?_⟩
    · exact (sb.2 b fun z => hSf (z ▸ hb)).trans e
    · refine fin s3 L3 es3 ep3 t3 (Moved.trans W.gtrans ((m.mono up).then_heap (Nat.le_add_right _ _) fun b o hb e => ?_) m3) R4 g3 q4
      exact (sb.2 b fun z => hb (z ▸ List.mem_cons_self ..)).trans e
/-- what stands behind a set that is filled from keys -/
abbrev FilledK (w : World) (s : Shared) (ks : List (Addr × NestedKey)) (s2 : Shared) : Prop := ∃ h' tk L es ep t, s2 = { s with heap := h', toks := tk } ∧ SetK w h' s.heap.objs.size L es ep t ∧ GotK ks ks.length L ∧ ∀ b o, s.heap.get? b = some o → h'.get? b = some o
theorem fill_listK {l : Addr} {items : Array Value} {ks : List (Addr × NestedKey)} (hh : A.handled = none) (hl : s.heap.IsList l items) (hit : items.toList = ks.map fun p => Value.ref p.1) (hk : ∀ p ∈ ks, KIs s.heap p.2 p.1) (few : ks.length ≤ 200) (hu : A.units + 11 < cLine) :
    codeAny (model P w) A (.call (.builtin "set.__init__") ⟨[.ref s.heap.objs.size, .ref l], []⟩) (wants (fun r s2 => r = .none ∧ FilledK w s ks s2) E) { s with heap := s.heap.push (set0 w) } := by
  have size : items.size = ks.length := by
    have := congrArg List.length hit
    rwa [Array.length_toList, List.length_map] at this
  have here : (s.heap.push (set0 w)).get? s.heap.objs.size = some (set0 w) := Heap.get?_push_size _ rfl
  have isSet : Shared.TypeIs { s with heap := s.heap.push (set0 w) } (.ref s.heap.objs.size) "set" := ⟨_, here, rfl⟩
  refine codeAny_call_builtin F.called_set.init.plain F.entry_set_init (check_set_init_1 isSet ?_)
  have lst : (s.heap.push (set0 w)).IsList l items := hl.push _
  obtain ⟨⟨oc, od, ot, os⟩, ol, hc, nl, hd⟩ := hl
  simp only at hc hd
  subst hc
  subst hd
  have lo : (s.heap.push (set0 w)).get? l = some { cls := .type "list", dict := od, data := .seq items nl, slots := os } := Heap.get?_push_of_some _ ol
  have lt : l < s.heap.objs.size := Heap.lt_size ol
  have f1 := F.sub_list_set
  have f2 := F.sub_list_frozenset
  have f3 : (Value.type "list" == Value.type "dict") = false := by decide
  unfold Builtin.«set.__init__» noKeywords Builtin.Frozenset.updateFrom
  generalize hPI : pyIter = PI
  wp_walk
  subst hPI
  refine wpAny_pyIter_list lst (wpAny_bind (wpAny_runValue ?_))
  have z : (s.heap.push (set0 w)).objs.size = s.heap.objs.size + 1 := Heap.size_push ..
  have old : ∀ b : Addr, b < s.heap.objs.size → b ≠ (s.heap.push (set0 w)).objs.size := fun b hb => by rw [z]; exact Nat.ne_of_lt (Nat.lt_succ_of_lt hb)
  have new : s.heap.objs.size ≠ (s.heap.push (set0 w)).objs.size := by rw [z]; exact Nat.ne_of_lt (Nat.lt_succ_self _)
  have bare : ∀ b, s.heap.objs.size ≤ b → s.heap.get? b = none := fun b hb => by
    cases e : s.heap.get? b with
    | none => rfl
    | some o => exact absurd (Heap.lt_size e) (Nat.not_lt.mpr hb)
  refine update_keys ((Walks.list (by simp [hh]) _ l (old l lt) items).toS) s.heap.objs.size (by
    simp only [List.mem_cons, List.not_mem_nil, or_false, not_or]
    exact ⟨new, Nat.ne_of_gt lt⟩) ks size few (fun i v hv => ?_) s.heap hk (bare _ (Nat.le_refl _)) (fun b hb => bare b (by
      simp only [List.mem_cons, List.not_mem_nil, or_false] at hb
      rw [hb, z]
      exact Nat.le_succ _)) (by simp only [Around.in1_units]; omega) (items.size - 0) 0 _ (by omega) (Nat.zero_le _) ⟨⟨_, Heap.get?_push_size _ rfl, rfl, rfl⟩, lst.push _⟩ (fun b o e => Heap.get?_push_of_some _ (Heap.get?_push_of_some _ e))
    ⟨[], #[], 0, _, setK_new (Heap.get?_push_of_some _ here), fun p z => (by cases z), fun p z => (by simp at z), Nat.le_refl _⟩ fun s2 L es ep t m RS g q => ?_
  · have q : items.toList[i]? = some v := by rw [Array.getElem?_toList]; exact hv
    rw [hit, List.getElem?_map] at q
    obtain ⟨p, e1, e2⟩ := Option.map_eq_some_iff.mp q
    exact ⟨p, e1, e2.symm⟩
  · have eg : s2.gens = s.gens := m.gens
    have ed : s2.drawn = s.drawn := m.drawn
    have eo : s2.os = s.os := m.os
    have e2 : s2 = { s with heap := s2.heap, toks := s2.toks } := by
      cases s2; cases s; simp only at eg ed eo; subst eg; subst ed; subst eo; rfl
    rw [size] at g
    show wpAny _ _ _ _ _ _
    refine wpAny_pure ?_
    show wpAny _ _ (ret Value.none) _ _ _
    exact wpAny_pure ⟨rfl, s2.heap, s2.toks, L, es, ep, t, e2, RS, g, q⟩
/-- set(xs) -/
theorem call_set_keys {l : Addr} {items : Array Value} (ks : List (Addr × NestedKey)) {Q : Value → Shared → Prop} (hh : A.handled = none) (hl : s.heap.IsList l items) (hit : items.toList = ks.map fun p => Value.ref p.1) (hk : ∀ p ∈ ks, KIs s.heap p.2 p.1) (few : ks.length ≤ 200) (hu : A.units + 20 < cLine)
    (h : ∀ s2, FilledK w s ks s2 → Q (.ref s.heap.objs.size) s2) : wpAny (model P w) A (call (.type "set") [.ref l]) Q E s := by
  obtain ⟨c, tl, hmro⟩ := F.called_set.mro
  have hmade := F.called_set.made
  have hsub := F.called_set.sub
  have h1 := F.called_set.notType
  have h2 := F.called_set.canCreate
  have hct := F.typeCall_set_1 (.ref l)
  refine wpAny_call (codeAny_of_tree ?_)
  show wpAny _ _ (callAny (.type "set") _) _ _ _
  refine wpAny_pure ⟨Code.quiet_builtin _ (by decide +kernel), codeAny_builtin F.entry_type_call ?_⟩
  rw [Around.under_plain (weight_type_call_type "set" [.ref l] []) rfl]
  repeat (any_goals (first | assumption | wp_step))
  refine codeAny_mono (code_set_led1 (.ref l) (E := E) (Q₁ := fun x t => x = .ref s.heap.objs.size ∧ t = { s with heap := s.heap.push (set0 w) }) ⟨rfl, rfl⟩) fun r t hr => ?_
  rcases r with e | (_ | _ | _ | fl)
  all_goals first | exact hr | exact hr.elim | skip
  obtain ⟨rfl, rfl⟩ := hr
  have hT : Shared.TypeIs { s with heap := s.heap.push (set0 w) } (.ref s.heap.objs.size) "set" := ⟨_, Heap.get?_push_size _ rfl, rfl⟩
  have hli := F.called_set.init.lookup
  have hbi := F.called_set.init.bind (.ref s.heap.objs.size)
  repeat (any_goals (first | assumption | wp_step))
  refine codeAny_mono (fill_listK (E := E) (by first | exact hh | simp [hh]) hl hit hk few (by first | omega | (simp only [Around.in1_units]; omega))) fun r t hr => ?_
  rcases r with e | (_ | _ | _ | fl)
  all_goals first | exact hr | exact hr.elim | skip
  obtain ⟨rfl, hf⟩ := hr
  repeat (any_goals (first | assumption | wp_step))
  exact h _ hf
end
end J
/-! as rules and words of the layer: len(set(xs)), sorted(set(xs)) -/
namespace J
open PySem L2 PySem.Spec PyProof.Rows
mutual
/-- nested tuples of ints as keys -/
def nkP : PyData → Option NestedKey
  | .int i => some (.num i)
  | .tuple ds => (nksP ds).map .tup
  | _ => none
def nksP : List PyData → Option (List NestedKey)
  | [] => some []
  | d :: ds => match nkP d, nksP ds with
    | some k, some ks => some (k :: ks)
    | _, _ => none
end
mutual
theorem nkP_nums : ∀ (d : PyData) (k : NestedKey), nkP d = some k → nums k = true
  | .int i, k, h => by
    simp only [nkP, Option.some.injEq] at h
    subst h
    rfl
  | .tuple ds, k, h => by
    simp only [nkP, Option.map_eq_some_iff] at h
    obtain ⟨ks, h1, rfl⟩ := h
    simp only [nums]
    exact nksP_nums ds ks h1
  | .none, _, h => by simp [nkP] at h
  | .bool _, _, h => by simp [nkP] at h
  | .str _, _, h => by simp [nkP] at h
  | .list _, _, h => by simp [nkP] at h
theorem nksP_nums : ∀ (ds : List PyData) (ks : List NestedKey), nksP ds = some ks → numsL ks = true
  | [], ks, h => by
    simp only [nksP, Option.some.injEq] at h
    subst h
    rfl
  | d :: ds, ks, h => by
    simp only [nksP] at h
    cases h1 : nkP d with
    | none => simp [h1] at h
    | some k =>
      cases h2 : nksP ds with
      | none => simp [h1, h2] at h
      | some ks2 =>
        simp only [h1, h2, Option.some.injEq] at h
        subst h
        simp only [numsL, nkP_nums d k h1, nksP_nums ds ks2 h2, Bool.and_self]
end
section
variable {X : Cx} {pins : List (Addr × Obj)} {σ : L2.St} {H : Hp} {s : Shared}
mutual
theorem key_at (I : Inv X pins σ H s) : ∀ (d : PyData) (v : V) (u : Value) (k : NestedKey), Dp X.K H v d → nkP d = some k → L2.RelV v u → NestedIs s.heap k u
  | .int i, v, u, k, h, hk, r => by
    simp only [nkP, Option.some.injEq] at hk
    subst hk
    cases h
    obtain ⟨t, rfl⟩ := r
    exact .int i t
  | .tuple ds, v, u, k, h, hk, r => by
    simp only [nkP, Option.map_eq_some_iff] at hk
    obtain ⟨ks, h1, rfl⟩ := hk
    cases h with
    | tup h2 h3 =>
      cases r
      obtain ⟨its, rv, ⟨o, ho, hc, n, hd⟩, -⟩ := I.tuple h2
      refine .tup ho hc hd ?_
      simpa using keys_at I ds _ _ ks h3 h1 rv
  | .none, _, _, _, _, hk, _ => by simp [nkP] at hk
  | .bool _, _, _, _, _, hk, _ => by simp [nkP] at hk
  | .str _, _, _, _, _, hk, _ => by simp [nkP] at hk
  | .list _, _, _, _, _, hk, _ => by simp [nkP] at hk
theorem keys_at (I : Inv X pins σ H s) : ∀ (ds : List PyData) (vs : List V) (us : List Value) (ks : List NestedKey), DpAll X.K H vs ds → nksP ds = some ks → Vals vs us → NestedAll s.heap ks us
  | [], _, _, ks, h, hk, r => by
    simp only [nksP, Option.some.injEq] at hk
    subst hk
    cases h
    cases r
    exact .nil
  | d :: ds, _, _, ks, h, hk, r => by
    simp only [nksP] at hk
    cases h with
    | cons a t =>
      cases r with
      | cons r1 r2 =>
        cases h1 : nkP d with
        | none => simp [h1] at hk
        | some k =>
          cases h2 : nksP ds with
          | none => simp [h1, h2] at hk
          | some ks2 =>
            simp only [h1, h2, Option.some.injEq] at hk
            subst hk
            exact .cons (key_at I d _ _ k a h1 r1) (keys_at I ds _ _ ks2 t h2 r2)
end
end
/-- the value v is the key k -/
def KeyV (K : PySem.W.Frag) (H : Hp) (p : Addr × NestedKey) : Prop := ∃ d, Dp K H (.ref p.1) d ∧ nkP d = some p.2 ∧ p.2.depth ≤ 8
theorem KeyV.at {X : Cx} {pins : List (Addr × Obj)} {σ : L2.St} {H : Hp} {s : Shared} {p : Addr × NestedKey} (I : Inv X pins σ H s) (h : KeyV X.K H p) : KIs s.heap p.2 p.1 := by
  obtain ⟨d, h1, h2, h3⟩ := h
  exact ⟨key_at I d _ _ _ h1 h2 rfl, h3, nkP_nums d _ h2⟩
/-- the set at a, without its members -/
def SetK0 (w : World) (h : Heap) (a : Addr) (L : List (Addr × NestedKey)) : Prop := ∃ (es : Array (Int × Value)) (ep : Nat) (t : SetTable), (∃ o, h.get? a = some o ∧ o.ExactSet ∧ o.data = .set es ep t) ∧ es.toList = rws w L ∧ Tk t (L.map fun p => hsh w p.2) ∧ (L.map (·.2)).Nodup ∧ (w.params.followText "set-order" = true ∨ t.led = true) ∧ L.length * 5 < t.mask * 3
def SetKO (w : World) (a : Addr) (L : List (Addr × NestedKey)) : HO := .ext fun h => SetK0 w h a L
theorem SetK.k0 {w : World} {h : Heap} {a : Addr} {L : List (Addr × NestedKey)} {es : Array (Int × Value)} {ep : Nat} {t : SetTable} (R : SetK w h a L es ep t) : SetK0 w h a L := ⟨es, ep, t, R.obj, R.row, R.tab, R.dif, R.led, R.rm⟩
theorem setKO_new {P : Program} {w : World} {H : Hp} {h : Heap} {a : Addr} {L : List (Addr × NestedKey)} (R : SetK0 w h a L) : ObjOk P w H h a (SetKO w a L) := by
  obtain ⟨es, ep, t, ⟨o, ho, r⟩, q⟩ := id R
  refine ⟨R, ⟨o, ho⟩, fun h1 h2 p k => ?_⟩
  obtain ⟨es', ep', t', ⟨o', ho', r'⟩, q'⟩ : SetK0 w h1 a L := p
  exact ⟨es', ep', t', ⟨o', k o' ho', r'⟩, q'⟩
theorem key_refs : ∀ {ks : List (Addr × NestedKey)} {us : List Value}, Vals (ks.map fun p => V.ref p.1) us → us = ks.map fun p => Value.ref p.1
  | [], _, .nil => rfl
  | p :: ks, _, .cons r t => by
    cases r
    rw [key_refs t]
    rfl
/-- set(xs) -/
def rSetOfK (K : PySem.W.Frag) (w : World) : List V → Hp → VK → Prop := fun xs H Q => ∃ (l : Addr) (ks : List (Addr × NestedKey)), xs = [V.ref l] ∧ SqL K H l (ks.map fun p => V.ref p.1) ∧ (∀ p ∈ ks, KeyV K H p) ∧ ks.length ≤ 200 ∧
  ∀ a L, H a = none → (∀ p ∈ L, p ∈ ks) → (∀ p ∈ ks, p.2 ∈ L.map (·.2)) → (L.map (·.2)).Nodup → Q (.ref a) (upd H a (SetKO w a L))
theorem cr_setOfK {X : Cx} (hc : X.calm = true) (hu : X.A.units + 64 < cLine) : CallR X (.type "set") (rSetOfK X.K X.w) := by
  intro pins s σ H xs us Q I r h
  obtain ⟨l, ks, rfl, hl, hk, few, q⟩ := h
  rw [Vals.ref1 r]
  obtain ⟨its, rv, pl, hz⟩ := I.list hl
  have hn : H s.heap.objs.size = none := I.hok.fresh (Nat.le_refl _)
  refine call_set_keys (P := X.prog) (w := X.w) ks (I.ok.hd hc) pl.isList (by simpa using key_refs rv) (fun p hp => (hk p hp).at I) few (by omega) fun s2 ⟨h', tk, L, es, ep, t, e2, R, g, k⟩ => ?_
  subst e2
  refine ⟨.ref s.heap.objs.size, upd H s.heap.objs.size (SetKO X.w s.heap.objs.size L), I.laid (t' := tk) k (Nat.le_refl _) (setKO_new R.k0), rfl, q _ L hn (fun p hp => List.mem_of_mem_take (g.sub p hp)) (fun p hp => g.all p (by rw [List.take_length]; exact hp)) R.dif⟩
/-- len(s) -/
def rLenK (w : World) : List V → Hp → VK → Prop := fun vs H Q => ∃ (a : Addr) (L : List (Addr × NestedKey)), vs = [V.ref a] ∧ H a = some (SetKO w a L) ∧ Q (.int L.length) H
theorem cr_lenK {X : Cx} : CallR X (.builtin "len") (rLenK X.w) := by
  intro pins s σ H vs us Q I rv h
  obtain ⟨a, L, rfl, ha, q⟩ := h
  obtain ⟨es, ep, t, ⟨o, ho, hx, hd⟩, ro, T, dif, led, rm⟩ : SetK0 X.w s.heap a L := (I.hok a _ ha).1
  rw [Vals.ref1 rv]
  have sz := rws_size ro
  have m5 := (msk_odd T.msk).2
  exact call_len_set ho hx hd (T.fits sz (by omega)) (by rw [sz]; omega) ⟨.int L.length, H, I.tok _, ⟨_, by rw [sz]⟩, q⟩
/-! sorted(s), s a set of pairs of ints -/
/-! ### pure words -/
mutual
def nkD : D → Option NestedKey
  | .int i => some (.num i)
  | .tup ds => (nksD ds).map .tup
  | _ => none
def nksD : List D → Option (List NestedKey)
  | [] => some []
  | d :: ds => match nkD d, nksD ds with
    | some k, some ks => some (k :: ks)
    | _, _ => none
end
mutual
theorem nkD_P : ∀ (d : D) (k : NestedKey), nkD d = some k → d.okP = true ∧ nkP d.toP = some k
  | .int i, k, h => by
    simp only [nkD, Option.some.injEq] at h
    subst h
    exact ⟨rfl, rfl⟩
  | .tup ds, k, h => by
    simp only [nkD, Option.map_eq_some_iff] at h
    obtain ⟨ks, h1, rfl⟩ := h
    obtain ⟨a, b⟩ := nksD_P ds ks h1
    exact ⟨a, by simp only [D.toP, nkP, b, Option.map_some]⟩
  | .non, _, h => by simp [nkD] at h
  | .bl _, _, h => by simp [nkD] at h
  | .str _, _, h => by simp [nkD] at h
  | .hole, _, h => by simp [nkD] at h
  | .exc, _, h => by simp [nkD] at h
  | .lst _ _, _, h => by simp [nkD] at h
  | .scr _, _, h => by simp [nkD] at h
  | .dK _ _ _, _, h => by simp [nkD] at h
  | .tK _ _, _, h => by simp [nkD] at h
  | .dT _ _ _, _, h => by simp [nkD] at h
  | .ins _ _ _ _, _, h => by simp [nkD] at h
theorem nksD_P : ∀ (ds : List D) (ks : List NestedKey), nksD ds = some ks → D.okPL ds = true ∧ nksP (D.toPL ds) = some ks
  | [], ks, h => by
    simp only [nksD, Option.some.injEq] at h
    subst h
    exact ⟨rfl, rfl⟩
  | d :: ds, ks, h => by
    simp only [nksD] at h
    cases h1 : nkD d with
    | none => simp [h1] at h
    | some k =>
      cases h2 : nksD ds with
      | none => simp [h1, h2] at h
      | some ks2 =>
        simp only [h1, h2, Option.some.injEq] at h
        subst h
        obtain ⟨a1, a2⟩ := nkD_P d k h1
        obtain ⟨b1, b2⟩ := nksD_P ds ks2 h2
        exact ⟨by simp only [D.okPL, a1, b1, Bool.and_self], by simp only [D.toPL, nksP, a2, b2]⟩
end
/-- each once -/
def dedK : List NestedKey → List NestedKey
  | [] => []
  | k :: ks => if k ∈ dedK ks then dedK ks else k :: dedK ks
theorem dedK_mem {x : NestedKey} : ∀ {ks : List NestedKey}, x ∈ dedK ks ↔ x ∈ ks
  | [] => Iff.rfl
  | k :: ks => by
    unfold dedK
    split
    · rename_i h
      rw [List.mem_cons, dedK_mem (ks := ks)]
      exact ⟨.inr, fun z => z.elim (fun e => e ▸ dedK_mem.mp h) id⟩
    · rw [List.mem_cons, List.mem_cons, dedK_mem (ks := ks)]
theorem dedK_nodup : ∀ {ks : List NestedKey}, (dedK ks).Nodup
  | [] => List.nodup_nil
  | k :: ks => by
    unfold dedK
    split
    · exact dedK_nodup
    · rename_i h
      exact List.nodup_cons.mpr ⟨h, dedK_nodup⟩
theorem dedK_self : ∀ {ks : List NestedKey}, ks.Nodup → dedK ks = ks
  | [], _ => rfl
  | k :: ks, h => by
    obtain ⟨h1, h2⟩ := List.nodup_cons.mp h
    unfold dedK
    rw [dedK_self h2, if_neg h1]
def isTupD : D → Bool
  | .tup _ => true
  | _ => false
def lenSetK (d : D) : Option D := match d with
  | .lst _ ds => (match nksD ds with
    | some ks => if ds.all isTupD && ks.all (fun k => decide (k.depth ≤ 8)) && decide (ks.length ≤ 200) then some (.int (dedK ks).length) else none
    | none => none)
  | _ => none
section
variable {K : PySem.W.Frag} {C : CT} {H : Hp}
theorem repL_nks {M : Addr → Prop} : ∀ {vs : List V} {ds : List D} {F : List Addr} {ks : List NestedKey}, RepL K C M H vs ds F → nksD ds = some ks → ds.all isTupD = true → ks.all (fun k => decide (k.depth ≤ 8)) = true →
    ∃ L : List (Addr × NestedKey), vs = L.map (fun q => V.ref q.1) ∧ ks = L.map (·.2) ∧ ∀ q ∈ L, KeyV K H q
  | _, _, _, ks, .nil, h, _, _ => by
    simp only [nksD, Option.some.injEq] at h
    subst h
    exact ⟨[], rfl, rfl, fun _ z => (by cases z)⟩
  | _, _, _, ks, .cons (d := d) (ds := ds) a t, h, ht, hd => by
    simp only [nksD] at h
    cases h1 : nkD d with
    | none => simp [h1] at h
    | some k =>
      cases h2 : nksD ds with
      | none => simp [h1, h2] at h
      | some ks2 =>
        simp only [h1, h2, Option.some.injEq] at h
        subst h
        simp only [List.all_cons, Bool.and_eq_true, decide_eq_true_eq] at ht hd
        obtain ⟨L, rfl, rfl, hL⟩ := repL_nks t h2 ht.2 (by simpa using hd.2)
        obtain ⟨p1, p2⟩ := nkD_P d k h1
        have dp := rep_dp a p1
        cases d with
        | tup ds2 =>
          obtain ⟨b, vs2, rfl, hb, -⟩ := a.tupR
          exact ⟨(b, k) :: L, rfl, rfl, fun q hq => by
            rcases List.mem_cons.mp hq with rfl | hq
            · exact ⟨_, dp, p2, hd.1⟩
            · exact hL q hq⟩
        | _ => simp [isTupD] at ht
theorem p_lenSetK {w : World} : Op1 K C (fun v H Q => rSetOfK K w [v] H fun s H2 => rLenK w [s] H2 Q) lenSetK := by
  intro M0 σ env F H v d x Q rl eg q
  obtain ⟨F4, r4, s4⟩ := rl.drop
  obtain ⟨F1, F2, eF, hv, -⟩ := rl.pop
  cases d <;> simp only [lenSetK, reduceCtorEq] at eg
  case lst o ds =>
    obtain ⟨a, vs, G, rfl, ha, t, -⟩ := hv.lstR
    cases hp : nksD ds with
    | none => rw [hp] at eg; cases eg
    | some ks =>
      rw [hp] at eg
      dsimp only at eg
      split at eg
      · rename_i c
        simp only [Bool.and_eq_true, decide_eq_true_eq] at c
        obtain rfl := Option.some.inj eg
        obtain ⟨L, rfl, rfl, hL⟩ := repL_nks t hp c.1.1 c.1.2
        refine ⟨a, L, rfl, .of ha, hL, by simpa using c.2, fun s N ns sl cov nd => ?_⟩
        have sm := new_same (o := SetKO w s N) ns
        refine ⟨s, N, rfl, upd_same, ?_⟩
        have e : N.length = (dedK (L.map (·.2))).length := by
          rw [← List.length_map (f := (·.2))]
          refine List.Perm.length_eq ((List.perm_ext_iff_of_nodup nd dedK_nodup).mpr fun x => ?_)
          rw [dedK_mem]
          constructor
          · intro hx
            obtain ⟨p, hp, rfl⟩ := List.mem_map.mp hx
            exact List.mem_map.mpr ⟨p, sl p hp, rfl⟩
          · intro hx
            obtain ⟨p, hp, rfl⟩ := List.mem_map.mp hx
            exact cov p hp
        rw [e]
        exact q _ _ F4 ((r4.grow sm).data (.int _)) (.same sm fun b hb => .inl (s4.subset hb))
      · cases eg
end
section
variable {X : Cx} {C : CT} {W : WX} {f : J.Env → R D} {e : Expr}
theorem z_lenSetK (h : PE X e (tCB (rLenK X.w) (tCons (tCB (rSetOfK X.K X.w) (tCons (T_ X C W f) tNil)) tNil))) : PE X e (T_ X C W (lift1 lenSetK f)) :=
  z_cb1 (r := fun vs H Q => rSetOfK X.K X.w vs H fun s H2 => rLenK X.w [s] H2 Q) p_lenSetK h
end
end J
/-! len(set(xs)), xs a list of ints or of nested tuples -/
namespace J
open PySem L2 PySem.Spec PyProof.Rows
def lenSetW (d : D) : Option D := (lenSetI d).or (lenSetK d)
theorem okT_or {K : PySem.W.Frag} {C : CT} {W : Wish} {σ : L2.St} {H : Hp} {Q : VK} {f : J.Env → R D} {g g2 : D → Option D} (h : tOf K C W (lift1 (fun d => (g d).or (g2 d)) f) σ H Q) : tOf K C W (lift1 g f) σ H Q ∨ tOf K C W (lift1 g2 f) σ H Q := by
  obtain ⟨M0, env, F, r, h⟩ := h
  unfold lift1 at h
  cases ef : f env with
  | no => rw [ef] at h; exact h.elim
  | ex c ns ds e =>
    rw [ef] at h
    refine .inl ⟨M0, env, F, r, ?_⟩
    unfold lift1
    rw [ef]
    exact h
  | ok d e =>
    rw [ef] at h
    simp only [R.bind] at h
    cases eg : g d with
    | some x =>
      rw [eg] at h
      refine .inl ⟨M0, env, F, r, ?_⟩
      unfold lift1
      rw [ef]
      simp only [R.bind, eg]
      exact h
    | none =>
      rw [eg] at h
      refine .inr ⟨M0, env, F, r, ?_⟩
      unfold lift1
      rw [ef]
      simp only [R.bind]
      exact h
theorem z_lenSetW {X : Cx} {C : CT} {W : WX} {f : J.Env → R D} {e : Expr} (h : PE X e (T_ X C W (lift1 lenSetI f))) (h2 : PE X e (T_ X C W (lift1 lenSetK f))) : PE X e (T_ X C W (lift1 lenSetW f)) := by
  refine ⟨fun pins s σ H Q I q => ?_⟩
  rcases okT_or q with q | q
  · exact h.run pins s σ H Q I q
  · exact h2.run pins s σ H Q I q
end J
/-! x += list: as x.extend(list) -/
namespace J
open PySem L2 PySem.Spec PyProof.Rows
section
variable {K : PySem.W.Frag} {C : CT} {W : Wish} {kp : List Nat} {M0 : Addr → Prop} {H H' H2 : Hp} {σ σ' : L2.St} {env env' : J.Env} {F F' F1 F2 G G' : List Addr} {v w : V} {d e : D}
theorem i_augL {i : Nat} {f : J.Env → R D} {E : Ends} (h : tS K C W kp (extO i f) E σ H) : tAug i (tOf K C W f) rExt2 E σ H := by
  obtain ⟨M0, env, F, r, h⟩ := h
  unfold extO at h
  split at h
  case h_2 => exact h.elim
  rename_i xs0 e0
  obtain ⟨v0, _, _, _, hσ, hv0, _, _⟩ := r.rep.at e0
  obtain ⟨l, vs0, _, rfl, hl0, _, _⟩ := hv0.lstR
  have same : σ.set i (some (.ref l)) = σ := by
    rcases Nat.lt_or_ge i σ.length with z | z
    · rw [List.getElem?_eq_getElem z] at hσ
      have := Option.some.inj hσ
      conv => lhs; rw [← this]
      exact List.set_getElem_self z
    · rw [List.getElem?_eq_none z] at hσ; cases hσ
  refine ⟨.ref l, hσ, M0, env, F, r, ?_⟩
  cases ef : f env with
  | no => rw [ef] at h; exact h
  | ex c ns ds e => rw [ef] at h; exact exS h
  | ok d e =>
    rw [ef] at h
    cases d <;> try exact h.elim
    rename_i oo zs
    intro v H1 F1 r1 s1
    simp only at h
    split at h
    case h_2 => exact h.elim
    rename_i xs ei
    split at h
    case isFalse => exact h.elim
    rename_i hz
    simp only [Bool.and_eq_true, decide_eq_true_eq] at hz
    obtain ⟨F2, r2, s2⟩ := r1.fz
    obtain ⟨F3, r3, s3, hv⟩ := r2.dataTop
    obtain ⟨v', F4, hσ', r4, s4⟩ := r3.take ei
    obtain rfl : v' = .ref l := by rw [hσ] at hσ'; simpa using hσ'.symm
    have hv2 := rep_mono (M' := orF M0 F4) (hide_mono (.refl _) fun b z => .inl (z.imp id (s4 b))) hv fun _ hb => absurd hb List.not_mem_nil
    obtain ⟨b, ws, Gz, rfl, hb, tz, _⟩ := hv2.lstR
    have tz := tz.nn (Rel.dup.noOwnL_fzL zs)
    have ez : D.fzL zs = zs := by
      have rr := r1.rep
      cases rr with
      | have_ hv _ =>
        obtain ⟨_, _, _, _, _, t, _⟩ := hv.lstR
        exact (fz_noOwnL t hz.1).2
    rw [ez] at tz
    obtain ⟨l', ys, _, el, hl, tl, _⟩ : ∃ a vs G, V.ref l = V.ref a ∧ H1 a = some (.lst vs) ∧ RepL K C (orF M0 F4) H1 vs xs G ∧ True := by
      have rr := r4.rep
      cases rr with
      | have_ hv _ => obtain ⟨a, vs, G, e, h1, t, _⟩ := hv.lstR; exact ⟨a, vs, G, e, h1, t, trivial⟩
    cases el
    obtain ⟨F5, r5, s5⟩ := Rel.lstNew (G0 := []) (xs' := xs ++ zs) (ws := ys ++ ws) r4 fun ys' G hl' t' => by
      rw [hl] at hl'
      obtain rfl : ys = ys' := by simpa using hl'
      exact ⟨G, by have := t'.app tz; rw [List.append_nil] at this; exact this, .refl _⟩
    obtain ⟨F6, r6, s6⟩ := r5.put (i := i) hσ
    rw [List.set_set] at r6
    refine ⟨l, b, ys, ws, rfl, rfl, hl, hb, by rw [tl.length, tz.length]; exact Nat.le_trans hz.2 (by rw [sizeLine_eq]; decide), ?_⟩
    show E.nx (List.set σ i (some (.ref l))) _
    rw [same]
    exact h σ _ F6 r6 (s1.trans ((Stp.subl s2).trans ((Stp.subl s3).trans ((Stp.sub s4).trans (s5.trans (.sub s6)))))) Kp.rfl
end
section
variable {X : Cx} {C : CT} {W : WX} {kp : List Nat} {f : J.Env → R D} {i : Nat}
theorem z_augL {st : Stmt} (h : PS X st (tAug i (T_ X C W f) rExt2)) : PS X st (S_ X C W kp (extO i f)) := h.imp fun _ _ _ q => i_augL q
end
end J
/-! an expression that reads alone and gives a new list of flat items: what is owned stays owned -/
namespace J
open PySem L2 PySem.Spec PyProof.Rows
def D.freshC : D → Bool
  | .lst true ds => D.flatTL ds
  | _ => false
def roC (f : J.Env → R D) : J.Env → R D := fun env => match f (fzE env) with
  | .ok d _ => if d.freshC then .ok d env else .no
  | _ => .no
section
variable {K : PySem.W.Frag} {C : CT} {W : Wish} {M0 : Addr → Prop} {H H1 : Hp} {σ : L2.St} {env e : J.Env} {F F1 : List Addr} {v : V} {d : D} {f : J.Env → R D} {Q : VK}
theorem Rel.unfrzC (r : Rel K C M0 H σ env F) (r1 : Rel K C M0 H1 (some v :: σ) (some d :: e) F1) (s1 : Stp [] H F1 H1) (hd : d.freshC = true) : ∃ F2, Rel K C M0 H1 (some v :: σ) (some d :: env) F2 ∧ Stp F H F2 H1 := by
  have st : Same H H1 := fun b o q => s1.keep b o (fun z => nomatch z) q
  cases d with
  | lst o ds =>
    cases o with
    | false => exact absurd hd (by simp [D.freshC])
    | true =>
      have hd : D.flatTL ds = true := hd
      have rr := r1.rep
      cases rr with
      | have_ hv t =>
        cases hv with
        | own hl tl =>
          rename_i Fb l vs Fa
          have hln : H l = none := by
            rcases s1.new l (List.mem_append_left _ (List.mem_cons_self ..)) with z | z
            · exact nomatch z
            · exact z
          have hm : ∀ b vs, hide (orF M0 (l :: Fa ++ Fb)) H1 b = some (.tup vs) → hide (orF M0 (l :: F)) H1 b = some (.tup vs) := fun b us q => by
            obtain ⟨h1, h2⟩ := hide_some q
            rw [hide_out (M := orF M0 (l :: F)) (fun z => ?_)]
            · exact h1
            · rcases z with z | z
              · exact h2 (.inl z)
              · rcases List.mem_cons.mp z with z | z
                · subst z; rw [hl] at h1; cases h1
                · obtain ⟨o, ho, no⟩ := repO_nt r.rep b z
                  rw [st b o ho] at h1
                  exact no us (Option.some.inj h1)
          have tl2 := repL_flat hm tl hd
          have nF : l ∉ F := fun z => (repO_alive r.rep l z).ne hln
          have rep2 : RepO K C (orF M0 (l :: F)) H1 σ env F := by
            refine repO_mono (hide_mono st fun b z => ?_) r.rep fun b _ o q => st b o q
            rcases z with z | z
            · exact .inl (.inl z)
            · rcases List.mem_cons.mp z with z | z
              · subst z; exact .inr hln
              · exact .inl (.inr z)
          refine ⟨l :: F, ⟨.have_ (F := [l]) (G := F) (.own hl tl2) rep2, List.nodup_cons.mpr ⟨nF, r.nd⟩, fun b hb z => ?_, fun b z => (r.al b z).same st, r.zd.mono (hide_mono st fun b z => ?_)⟩, .same st fun b hb => ?_⟩
          · rcases List.mem_cons.mp hb with q | q
            · subst q; exact (r.al b z).ne hln
            · exact r.dj b q z
          · rcases z with z | z
            · exact .inl (.inl z)
            · rcases List.mem_cons.mp z with z | z
              · subst z; exact .inr hln
              · exact .inl (.inr z)
          · rcases List.mem_cons.mp hb with q | q
            · subst q; exact .inr hln
            · exact .inl q
  | _ => exact absurd hd (by simp [D.freshC])
theorem i_roC (h : tOf K C W (roC f) σ H Q) : tOf K C W f σ H Q := by
  obtain ⟨M0, env, F, r, h⟩ := h
  refine ⟨M0, fzE env, [], r.frzAll, ?_⟩
  unfold roC at h
  cases ef : f (fzE env) with
  | no => rw [ef] at h; exact h.elim
  | ex c ns ds e => rw [ef] at h; exact h.elim
  | ok d e =>
    rw [ef] at h
    dsimp only at h
    split at h
    case isFalse => exact h.elim
    rename_i hd
    intro v H1 F1 r1 s1
    obtain ⟨F2, r2, s2⟩ := r.unfrzC r1 s1 hd
    exact h v H1 F2 r2 s2
end
theorem q_roC {X : Cx} {C : CT} {W : WX} {a : Expr} {f : J.Env → R D} (h : PE X a (T_ X C W f)) : PE X a (T_ X C W (roC f)) := h.imp fun _ _ _ q => i_roC q
section
variable {f : J.Env → R D} {env e : J.Env} {QD : D → J.Env → Prop} {X : XQ} {d : D}
def roCQ (QD : D → J.Env → Prop) (env : J.Env) : D → J.Env → Prop := fun d _ => d.freshC = true ∧ QD d env
theorem wz_roC : Wr (roC f env) QD X ↔ Wr (f (fzE env)) (roCQ QD env) noX := by
  unfold roC
  generalize f (fzE env) = z
  cases z with
  | ok d e =>
    have e1 : Wr (R.ok d e) (roCQ QD env) noX ↔ (d.freshC = true ∧ QD d env) := Iff.rfl
    rw [e1]
    dsimp only
    by_cases h : d.freshC = true
    · rw [if_pos h]; exact ⟨fun z => ⟨h, z⟩, fun z => z.2⟩
    · rw [if_neg h]; exact ⟨fun z => False.elim z, fun z => absurd z.1 h⟩
  | ex => exact Iff.rfl
  | no => exact Iff.rfl
theorem wz_roCQ : roCQ QD env d e ↔ d.freshC = true ∧ QD d env := Iff.rfl
end
end J
/-! The law's own promise out of its pure run. -/
namespace J
open PySem L2 PySem.Spec PyProof.Rows
def spLaw (K : PySem.W.Frag) : Sp := fun vs H Q _ => ∃ (a : Addr) (ns : List Int), vs = [.ref a] ∧ SqL K H a (ns.map V.int) ∧ ns.length ≤ 63 ∧ ∀ H', Q (.bl true) H'
theorem law_fng {P : Program} {w : World} {K : PySem.W.Frag} {mg : Str → Option Value} {base : Heap} {C : CT} {k : Nat} {f : Addr} {fd : FuncData} {ps : List Str} {run : List D → R D} (hz : C.z = none)
    (h : ∀ ns : List Int, ns.length ≤ 63 → ∃ outs, run [.scr (ns.map .int)] = .ok (.bl true) outs) (F : FnU P w K mg base k f fd ps (spP K C 1 run)) : FnG P w K mg base k f fd ps (spLaw K) := by
  have key : ∀ (vs : List V) (H : Hp) (Q : VK) (E : XK), spLaw K vs H Q E → spP K C 1 run vs H Q E0 := by
    rintro vs H Q E ⟨a, ns, rfl, hs, hl, hq⟩
    obtain ⟨outs, er⟩ := h ns hl
    refine ⟨rfl, fun _ => False, [.scr (ns.map .int)], [], ⟨?_, .nil, fun b hb => absurd hb List.not_mem_nil, fun b z => z.elim, fun z e => by rw [hz] at e; cases e⟩, ?_⟩
    · have eh : hide (orF (fun _ => False) []) H = H := by
        funext b
        exact hide_out fun z => z.elim id fun q => absurd q List.not_mem_nil
      exact .have_ (F := []) (G := []) (.scr (by rw [eh]; exact hs)) .nil
    · rw [er]
      intro v H' F' r _
      have rr := r.rep
      cases rr with
      | have_ hv _ => cases hv; exact hq H'
  refine ⟨fun vs H Q E q => F.len vs H Q E0 (key vs H Q E q), fun A hg outer s H args us vs Q E hr e0 hb r q => ?_⟩
  refine codeAny_mono (F.run A hg outer s H args us vs Q E0 hr e0 hb r (key vs H Q E q)) fun rr s' z => ?_
  match rr, z with
  | .ok (.ret u), z => exact z
  | .ok .next, z => exact z.elim
  | .ok .brk, z => exact z.elim
  | .ok .cont, z => exact z.elim
  | .error e, z =>
    obtain ⟨_, _, _, _, _, _, _, _, _, _, _, _, z⟩ := z
    exact z.elim
end J
namespace J
open PySem L2 PySem.Spec PyProof.Rows
def topS (i : Nat) : Stmt := PySem.Challenge.pw_jointoll_k08_whole_rotations_link_trees.main.body.getD i (.Pass ⟨0, 0, 0, 0⟩)
/-- what the module leaves alone, and its constants -/
structure Bi (mg : Str → Option Value) : Prop where
  n_all : mg "all" = none
  n_bool : mg "bool" = none
  n_enumerate : mg "enumerate" = none
  n_int : mg "int" = none
  n_isinstance : mg "isinstance" = none
  n_len : mg "len" = none
  n_list : mg "list" = none
  n_max : mg "max" = none
  n_range : mg "range" = none
  n_set : mg "set" = none
  n_str : mg "str" = none
  n_tuple : mg "tuple" = none
  n_ValueError : mg "ValueError" = none
  k_MOST_ITEMS : ∃ t, mg "MOST_ITEMS" = some (.int 8 t)
section
variable {P : Program} {w : World} {K : PySem.W.Frag} {mg : Str → Option Value} {base : Heap}
abbrev s_TollError___init__ : Stmt := inClass (topS 1) 0
abbrev N_TollError___init__ : List Str := ["self", "why"]
abbrev P_TollError___init__ : List Str := ["self", "why"]
theorem sc_TollError___init__ : FnScope N_TollError___init__ P_TollError___init__ (defScope s_TollError___init__) := ⟨rfl, rfl, rfl, by decide +kernel, rfl, by decide +kernel, by decide +kernel⟩
theorem ok_TollError___init__ {f : Addr} {fd : FuncData} (F : FunD K "__init__" "TollError.__init__" (defArgs s_TollError___init__) (defBody s_TollError___init__) (defScope s_TollError___init__) [.str "invalid"] [] f fd) (B : Bi mg) (V_VE : VeI K) : FnOk P w K mg base CX0 1 f fd P_TollError___init__ (spTE K) := by
  refine F.ok sc_TollError___init__ (fun vs H Q E h => ?_) (fun cdv A outer s H vs Q E hr h => ?_)
  · obtain ⟨a, D, y, rfl, ox, nw, ha, q⟩ := h; rfl
  obtain ⟨a, D, y, rfl, ox, nw, ha, q⟩ := h
  refine ⟨_, (pss_cons (ps_expr (pe_veinit (by rfl) B.n_ValueError V_VE (pa_cons (pv 0) (pa_cons (pv 1) pa_nil))))
      (pss_one (ps_ost (pv 0) (pv 1)))), ?_⟩
  refine ⟨_, rfl, _, rfl, a, D, [.str y], rfl, by show 1 ≤ 1000; decide, ox, ha, ?_⟩
  exact ⟨_, rfl, _, rfl, a, D, rfl, ox, nw, .inl ⟨ha, fun dx n ne => q dx n ne⟩⟩
theorem binds_TollError___init__ {f : Addr} {fd : FuncData} (F : FunD K "__init__" "TollError.__init__" (defArgs s_TollError___init__) (defBody s_TollError___init__) (defScope s_TollError___init__) [.str "invalid"] [] f fd) : Binds K fd P_TollError___init__ [] := by
  obtain ⟨ds, r, b⟩ := F.binds1 (ps := P_TollError___init__) 2 1 (by simp) rfl (fun T kV doc pm an cdv ct us its hl hi => by
    match us, its, hl, hi with
    | [a, c], [d], _, _ => exact ⟨_, rfl, rfl⟩)
  cases r
  exact b
end
section
variable {P : Program} {w : World} {K : PySem.W.Frag} {mg : Str → Option Value} {base : Heap} {C : CT}
abbrev s_is_integer : Stmt := topS 14
abbrev N_is_integer : List Str := ["value"]
abbrev P_is_integer : List Str := ["value"]
theorem sc_is_integer : FnScope N_is_integer P_is_integer (defScope s_is_integer) := ⟨rfl, rfl, rfl, by decide +kernel, rfl, by decide +kernel, by decide +kernel⟩
def bk_is_integer_0 : J.Env → Out := (retO (ofB (andB (asB (lift1 (isiD "int") (rdF 0))) (notB (asB (lift1 (isiD "bool") (rdF 0)))))))
def run_is_integer : List D → R D := defF 1 [0] 0
    bk_is_integer_0
theorem ok_is_integer {f : Addr} {fd : FuncData} (F : Fun K "is_integer" "is_integer" s_is_integer f fd) (B : Bi mg)  : FnU P w K mg base 1 f fd P_is_integer (spP K C 1 run_is_integer) := by
  refine okP F sc_is_integer rfl rfl (by decide) fun cdv A outer s H E hG hr => ?_
  have tk : Takes (cxOf (L2.CX P w) P w K mg base N_is_integer "is_integer" (defScope s_is_integer) f cdv A outer s H E) (fun cls d _ H => E cls d H) := takes_of rfl rfl rfl rfl
  exact (st_one (s_ret (v_and (v_ofB (z_isi (by decide) (pe_callB (id := "isinstance") call_isi (by rfl) B.n_isinstance (by decide +kernel) (pa_cons (q_name (pv 0)) (pa_cons (pe_bltn (by rfl) B.n_int (by decide +kernel) (v := .ty "int") rfl) pa_nil))))) (v_one (v_not (v_ofB (z_isi (by decide) (pe_callB (id := "isinstance") call_isi (by rfl) B.n_isinstance (by decide +kernel) (pa_cons (q_name (pv 0)) (pa_cons (pe_bltn (by rfl) B.n_bool (by decide +kernel) (v := .ty "bool") rfl) pa_nil))))))))))
theorem ws_is_integer : ∀ (ds : List D) (Q : D → J.Env → Prop) (X : XQ), Wr (run_is_integer ds) Q X ↔ Wo (bk_is_integer_0 (ds.map some ++ List.replicate 0 none)) (defQ 1 [0] Q X) := fun _ _ _ => wz_def
theorem wb_is_integer : (∀ (env : J.Env) (Q : Out → Prop), Wo (bk_is_integer_0 env) Q ↔ Wo ((retO (ofB (andB (asB (lift1 (isiD "int") (rdF 0))) (notB (asB (lift1 (isiD "bool") (rdF 0))))))) env) Q)
  ∧ (∀ e : J.Env, outsOf 1 [0] e = [(e[0]?).join]) := ⟨fun _ _ => Iff.rfl, fun _ => rfl⟩
end
section
variable {P : Program} {w : World} {K : PySem.W.Frag} {mg : Str → Option Value} {base : Heap} {C : CT}
abbrev s_is_between : Stmt := topS 15
abbrev N_is_between : List Str := ["value", "low", "high"]
abbrev P_is_between : List Str := ["value", "low", "high"]
theorem sc_is_between : FnScope N_is_between P_is_between (defScope s_is_between) := ⟨rfl, rfl, rfl, by decide +kernel, rfl, by decide +kernel, by decide +kernel⟩
def bk_is_between_0 : J.Env → Out := (retO (ofB (andB (asB (callF run_is_integer [] (argV (rdF 0) args0))) (asB (chainF leI leI (rdF 1) (rdF 0) (rdF 2))))))
def run_is_between : List D → R D := defF 3 [0, 1, 2] 0
    bk_is_between_0
theorem ok_is_between {f : Addr} {fd : FuncData} (F : Fun K "is_between" "is_between" s_is_between f fd) (B : Bi mg) (c_is_integer : CalU P w K mg base C "is_integer" 1 P_is_integer 1 run_is_integer) : FnU P w K mg base 2 f fd P_is_between (spP K C 3 run_is_between) := by
  refine okP F sc_is_between rfl rfl (by decide) fun cdv A outer s H E hG hr => ?_
  have tk : Takes (cxOf (L2.CX P w) P w K mg base N_is_between "is_between" (defScope s_is_between) f cdv A outer s H E) (fun cls d _ H => E cls d H) := takes_of rfl rfl rfl rfl
  exact (st_one (s_ret (v_and (v_ofB (z_call c_is_integer.pu (AL.val AL.nil) (pe_callU c_is_integer.ok hG (hr.mono (by decide)) (by rfl) c_is_integer.g c_is_integer.kp c_is_integer.b .nil tk (z_av (pa_cons (q_name (pv 0)) a_nil))))) (v_one (v_ofB (q_chain op_le op_le (q_name (pv 1)) (q_name (pv 0)) (q_name (pv 2))))))))
theorem ws_is_between : ∀ (ds : List D) (Q : D → J.Env → Prop) (X : XQ), Wr (run_is_between ds) Q X ↔ Wo (bk_is_between_0 (ds.map some ++ List.replicate 0 none)) (defQ 3 [0, 1, 2] Q X) := fun _ _ _ => wz_def
theorem wb_is_between : (∀ (env : J.Env) (Q : Out → Prop), Wo (bk_is_between_0 env) Q ↔ Wo ((retO (ofB (andB (asB (callF run_is_integer [] (argV (rdF 0) args0))) (asB (chainF leI leI (rdF 1) (rdF 0) (rdF 2)))))) env) Q)
  ∧ (∀ e : J.Env, outsOf 3 [0, 1, 2] e = [(e[0]?).join, (e[1]?).join, (e[2]?).join]) := ⟨fun _ _ => Iff.rfl, fun _ => rfl⟩
end
section
variable {P : Program} {w : World} {K : PySem.W.Frag} {mg : Str → Option Value} {base : Heap} {C : CT}
abbrev s_leaves_of : Stmt := topS 18
abbrev N_leaves_of : List Str := ["tree", "waiting", "found", "part"]
abbrev P_leaves_of : List Str := ["tree"]
theorem sc_leaves_of : FnScope N_leaves_of P_leaves_of (defScope s_leaves_of) := ⟨rfl, rfl, rfl, by decide +kernel, rfl, by decide +kernel, by decide +kernel⟩
def bk_leaves_of_0 : J.Env → Out := (extO 1 (lstF (argV (lift2 ixF (rdF 3) (okC (.int 1))) (argV (lift2 ixF (rdF 3) (okC (.int 0))) args0))))
def bk_leaves_of_1 : J.Env → Out := (ifO (asB (lift2 eqW (lift1 lenD (rdF 3)) (okC (.int 2)))) bk_leaves_of_0 (retO (okC .non)))
def bk_leaves_of_2 : J.Env → Out := (ifO (notB (asB (lift1 (isiD "tuple") (rdF 3)))) (appO 2 (rdF 3)) bk_leaves_of_1)
def bk_leaves_of_3 : J.Env → Out := (seqO (asgO (popF 1) (setG 3)) bk_leaves_of_2)
abbrev lb_leaves_of_0 : J.Env → Out := bk_leaves_of_3
def bk_leaves_of_4 : J.Env → Out := (seqO (whileL (andB (truBB (rdB 1)) (asB (lift2 (cmpD leI) (toT (bop1 lenD (rdB 2))) (okC (.int 8))))) lb_leaves_of_0 1000000) (retO (rdM 2)))
def bk_leaves_of_5 : J.Env → Out := (seqO (asgO (lstF args0) (setG 2)) bk_leaves_of_4)
def bk_leaves_of_6 : J.Env → Out := (seqO (asgO (lstF (argV (rdF 0) args0)) (setG 1)) bk_leaves_of_5)
def run_leaves_of : List D → R D := defF 1 [0] 3
    bk_leaves_of_6
theorem ok_leaves_of {f : Addr} {fd : FuncData} (F : Fun K "leaves_of" "leaves_of" s_leaves_of f fd) (B : Bi mg)  : FnU P w K mg base 1 f fd P_leaves_of (spP K C 1 run_leaves_of) := by
  refine okP F sc_leaves_of rfl rfl (by decide) fun cdv A outer s H E hG hr => ?_
  have tk : Takes (cxOf (L2.CX P w) P w K mg base N_leaves_of "leaves_of" (defScope s_leaves_of) f cdv A outer s H E) (fun cls d _ H => E cls d H) := takes_of rfl rfl rfl rfl
  exact (st_seq (z_set (by decide) (ps_set (i := 1) sc_leaves_of.nd rfl (Or.inl rfl) (z_lst (pe_lst (z_av (pa_cons (q_name (pv 0)) a_nil))))))
      (st_seq (z_set (by decide) (ps_set (i := 2) sc_leaves_of.nd rfl (Or.inl rfl) (z_lst (pe_lst a_nil))))
      (st_seq (z_while (n := 1000000) (ps_while (passes_of rfl) (PW.pt (w_and (t_truB (qb_name (pv 1)) (by intro _; rfl)) (w_and1 (t_cmp op_le p_cmp (q_b (zb_len (pe_callB (id := "len") call_len (by rfl) B.n_len (by decide +kernel) (pa_cons (qb_name (pv 2)) pa_nil)))) (q_c (.int _) (pe_gint B.k_MOST_ITEMS)) (nomark _))))) (st_seq (z_set (by decide) (ps_set (i := 3) sc_leaves_of.nd rfl (Or.inl rfl) (z_pop (pe_bm0 PySem.F.plainAttrs_list PySem.F.slot_list_pop PySem.F.type_list_pop mt_pop (pv 1)))))
      (st_one (s_if (t_not (t_val (z_isi (by decide) (pe_callB (id := "isinstance") call_isi (by rfl) B.n_isinstance (by decide +kernel) (pa_cons (q_name (pv 3)) (pa_cons (pe_bltn (by rfl) B.n_tuple (by decide +kernel) (v := .ty "tuple") rfl) pa_nil)))))) (st_one (z_app (ps_expr (pe_bm PySem.F.plainAttrs_list PySem.F.slot_list_append PySem.F.type_list_append mt_append (pv 2) (pa_cons (q_name (pv 3)) pa_nil))))) (st_one (s_if (t_cmp (op_or (op_eqD hr.units) (op_eqX (room65 hr))) (p_or p_eqD p_eqX) (z_len (pe_callB (id := "len") call_len (by rfl) B.n_len (by decide +kernel) (pa_cons (q_name (pv 3)) pa_nil))) (q_c (.int _) pe_int) (nomark _)) (st_one (z_ext (ps_expr (pe_bm PySem.F.plainAttrs_list PySem.F.slot_list_extend PySem.F.type_list_extend mt_extend (pv 1) (pa_cons (z_lst (pe_lst (z_av (pa_cons (q_ix (q_name (pv 3)) (q_c (.int _) pe_int) (fun _ _ => rfl)) (z_av (pa_cons (q_ix (q_name (pv 3)) (q_c (.int _) pe_int) (fun _ _ => rfl)) a_nil)))))) pa_nil))))) (st_one (s_ret (q_c .non pe_non))))))))))
      (st_one (s_ret (q_move (pv 2)))))))
theorem ws_leaves_of : ∀ (ds : List D) (Q : D → J.Env → Prop) (X : XQ), Wr (run_leaves_of ds) Q X ↔ Wo (bk_leaves_of_6 (ds.map some ++ List.replicate 3 none)) (defQ 1 [0] Q X) := fun _ _ _ => wz_def
theorem wb_leaves_of : (∀ (env : J.Env) (Q : Out → Prop), Wo (bk_leaves_of_0 env) Q ↔ Wo ((extO 1 (lstF (argV (lift2 ixF (rdF 3) (okC (.int 1))) (argV (lift2 ixF (rdF 3) (okC (.int 0))) args0)))) env) Q)
  ∧ (∀ (env : J.Env) (Q : Out → Prop), Wo (bk_leaves_of_1 env) Q ↔ Wo ((ifO (asB (lift2 eqW (lift1 lenD (rdF 3)) (okC (.int 2)))) bk_leaves_of_0 (retO (okC .non))) env) Q)
  ∧ (∀ (env : J.Env) (Q : Out → Prop), Wo (bk_leaves_of_2 env) Q ↔ Wo ((ifO (notB (asB (lift1 (isiD "tuple") (rdF 3)))) (appO 2 (rdF 3)) bk_leaves_of_1) env) Q)
  ∧ (∀ (env : J.Env) (Q : Out → Prop), Wo (bk_leaves_of_3 env) Q ↔ Wo ((seqO (asgO (popF 1) (setG 3)) bk_leaves_of_2) env) Q)
  ∧ (∀ (env : J.Env) (Q : Out → Prop), Wo (bk_leaves_of_4 env) Q ↔ Wo ((seqO (whileL (andB (truBB (rdB 1)) (asB (lift2 (cmpD leI) (toT (bop1 lenD (rdB 2))) (okC (.int 8))))) lb_leaves_of_0 1000000) (retO (rdM 2))) env) Q)
  ∧ (∀ (env : J.Env) (Q : Out → Prop), Wo (bk_leaves_of_5 env) Q ↔ Wo ((seqO (asgO (lstF args0) (setG 2)) bk_leaves_of_4) env) Q)
  ∧ (∀ (env : J.Env) (Q : Out → Prop), Wo (bk_leaves_of_6 env) Q ↔ Wo ((seqO (asgO (lstF (argV (rdF 0) args0)) (setG 1)) bk_leaves_of_5) env) Q)
  ∧ (∀ e : J.Env, outsOf 1 [0] e = [(e[0]?).join]) := ⟨fun _ _ => Iff.rfl, fun _ _ => Iff.rfl, fun _ _ => Iff.rfl, fun _ _ => Iff.rfl, fun _ _ => Iff.rfl, fun _ _ => Iff.rfl, fun _ _ => Iff.rfl, fun _ => rfl⟩
end
section
variable {P : Program} {w : World} {K : PySem.W.Frag} {mg : Str → Option Value} {base : Heap} {C : CT}
abbrev s_is_tree : Stmt := topS 19
abbrev N_is_tree : List Str := ["value", "leaves", "at", "leaf"]
abbrev P_is_tree : List Str := ["value"]
theorem sc_is_tree : FnScope N_is_tree P_is_tree (defScope s_is_tree) := ⟨rfl, rfl, rfl, by decide +kernel, rfl, by decide +kernel, by decide +kernel⟩
def bk_is_tree_0 : J.Env → Out := (retO (lift1 allD (compO (enumI 0 (argV (rdF 1) args0)) (tupG 2 (consG (setG 2) (consG (setG 3) nilG))) yesB (callF run_is_between [] (argApp (argV (rdF 3) args0) (argV (rdF 2) (argV (rdF 2) args0)))) [2, 3])))
def bk_is_tree_1 : J.Env → Out := (seqO (ifO (orB (asB (lift2 isNonD (rdF 1) (okC .non))) (notB (asB (chainF leI leI (okC (.int 1)) (lift1 lenD (rdF 1)) (okC (.int 8)))))) (retO (okC (.bl false))) nilO) bk_is_tree_0)
def bk_is_tree_2 : J.Env → Out := (seqO (asgO (callF run_leaves_of [] (argV (rdF 0) args0)) (setG 1)) bk_is_tree_1)
def run_is_tree : List D → R D := defF 1 [0] 3
    bk_is_tree_2
theorem ok_is_tree {f : Addr} {fd : FuncData} (F : Fun K "is_tree" "is_tree" s_is_tree f fd) (B : Bi mg) (c_leaves_of : CalU P w K mg base C "leaves_of" 1 P_leaves_of 1 run_leaves_of) (c_is_between : CalKU P w K mg base C "is_between" 2 P_is_between ["low", "high"] 3 run_is_between (gapp 1) (gapp 1)) : FnU P w K mg base 3 f fd P_is_tree (spP K C 1 run_is_tree) := by
  refine okP F sc_is_tree rfl rfl (by decide) fun cdv A outer s H E hG hr => ?_
  have tk : Takes (cxOf (L2.CX P w) P w K mg base N_is_tree "is_tree" (defScope s_is_tree) f cdv A outer s H E) (fun cls d _ H => E cls d H) := takes_of rfl rfl rfl rfl
  exact (st_seq (z_set (by decide) (ps_set (i := 1) sc_is_tree.nd rfl (Or.inl rfl) (z_call c_leaves_of.pu (AL.val AL.nil) (pe_callU c_leaves_of.ok hG (hr.mono (by decide)) (by rfl) c_leaves_of.g c_leaves_of.kp c_leaves_of.b .nil tk (z_av (pa_cons (q_name (pv 0)) a_nil))))))
      (st_seq (s_if (PW.pt (w_or (t_cmp op_isN p_isN (q_name (pv 1)) (q_c .non pe_non) (nomark _)) (w_or1 (t_not (t_chain op_le op_le (q_c (.int _) pe_int) (z_len (pe_callB (id := "len") call_len (by rfl) B.n_len (by decide +kernel) (pa_cons (q_name (pv 1)) pa_nil))) (q_c (.int _) (pe_gint B.k_MOST_ITEMS))))))) (st_one (s_ret (q_c (.bl _) pe_bl))) st_nil)
      (st_one (s_ret (z_cb1 p_all (pe_callB (id := "all") (cr_all rfl) (by rfl) B.n_all (by decide +kernel) (pa_cons (z_lc 4 rfl (kp := [0, 1]) (by decide) (GL.tup (GLs.cons GL.set (GLs.cons GL.set GLs.nil))) (pe_lc (own := [("at", 2), ("leaf", 3)]) rfl sc_is_tree.nd (z_enum (pi_enum (by rfl) B.n_enumerate (z_av (pa_cons (q_name (pv 1)) a_nil)))) (blkOk_by (own := [("at", 2), ("leaf", 3)]) (N := N_is_tree) (sc := defScope s_is_tree) (by decide +kernel)) (fun _ _ _ _ _ => (z_gtup (pg_tup rfl (z_gcons (pgs_cons (g_name (by decide) (pg_name (i := 2) sc_is_tree.nd rfl (Or.inl rfl))) (z_gcons (pgs_cons (g_name (by decide) (pg_name (i := 3) sc_is_tree.nd rfl (Or.inl rfl))) gs_nil))))))) (fun _ _ _ _ _ => z_pt0) (fun _ _ _ _ _ => (z_callK c_is_between.pu (AL.val AL.nil) (AL.val (AL.val AL.nil)) (by decide) gapp_V (pe_callKU c_is_between.ok hG (hr.mono (by decide)) (by rfl) c_is_between.g c_is_between.kp c_is_between.b takes0 (z_av (pa_cons (q_name (pv 3)) a_nil)) (z_kv (pk_cons (q_name (pv 2)) (z_kv (pk_cons (q_name (pv 2)) k_nil))))))))) pa_nil)))))))
theorem ws_is_tree : ∀ (ds : List D) (Q : D → J.Env → Prop) (X : XQ), Wr (run_is_tree ds) Q X ↔ Wo (bk_is_tree_2 (ds.map some ++ List.replicate 3 none)) (defQ 1 [0] Q X) := fun _ _ _ => wz_def
theorem wb_is_tree : (∀ (env : J.Env) (Q : Out → Prop), Wo (bk_is_tree_0 env) Q ↔ Wo ((retO (lift1 allD (compO (enumI 0 (argV (rdF 1) args0)) (tupG 2 (consG (setG 2) (consG (setG 3) nilG))) yesB (callF run_is_between [] (argApp (argV (rdF 3) args0) (argV (rdF 2) (argV (rdF 2) args0)))) [2, 3]))) env) Q)
  ∧ (∀ (env : J.Env) (Q : Out → Prop), Wo (bk_is_tree_1 env) Q ↔ Wo ((seqO (ifO (orB (asB (lift2 isNonD (rdF 1) (okC .non))) (notB (asB (chainF leI leI (okC (.int 1)) (lift1 lenD (rdF 1)) (okC (.int 8)))))) (retO (okC (.bl false))) nilO) bk_is_tree_0) env) Q)
  ∧ (∀ (env : J.Env) (Q : Out → Prop), Wo (bk_is_tree_2 env) Q ↔ Wo ((seqO (asgO (callF run_leaves_of [] (argV (rdF 0) args0)) (setG 1)) bk_is_tree_1) env) Q)
  ∧ (∀ e : J.Env, outsOf 1 [0] e = [(e[0]?).join]) := ⟨fun _ _ => Iff.rfl, fun _ _ => Iff.rfl, fun _ _ => Iff.rfl, fun _ => rfl⟩
end
section
variable {P : Program} {w : World} {K : PySem.W.Frag} {mg : Str → Option Value} {base : Heap} {C : CT}
abbrev s_check_tree : Stmt := topS 20
abbrev N_check_tree : List Str := ["tree"]
abbrev P_check_tree : List Str := ["tree"]
theorem sc_check_tree : FnScope N_check_tree P_check_tree (defScope s_check_tree) := ⟨rfl, rfl, rfl, by decide +kernel, rfl, by decide +kernel, by decide +kernel⟩
def bk_check_tree_0 : J.Env → Out := (raiseO 15 ["why"] gW (argV (okC (.str "tree")) args0))
def bk_check_tree_1 : J.Env → Out := (ifO (notB (asB (callF run_is_tree [] (argV (rdF 0) args0)))) bk_check_tree_0 nilO)
def run_check_tree : List D → R D := defF 1 [0] 0
    bk_check_tree_1
theorem ok_check_tree {f : Addr} {fd : FuncData} (F : Fun K "check_tree" "check_tree" s_check_tree f fd) (B : Bi mg) (c_is_tree : CalU P w K mg base C "is_tree" 3 P_is_tree 1 run_is_tree) (x_BadTree : XCalU P w K mg base C 15 "BadTree" 1 P_TollError___init__ okvW ["why"] id [] []) : FnU P w K mg base 6 f fd P_check_tree (spP K C 1 run_check_tree) := by
  refine okP F sc_check_tree rfl rfl (by decide) fun cdv A outer s H E hG hr => ?_
  have tk : Takes (cxOf (L2.CX P w) P w K mg base N_check_tree "check_tree" (defScope s_check_tree) f cdv A outer s H E) (fun cls d _ H => E cls d H) := takes_of rfl rfl rfl rfl
  exact (st_one (s_if (t_not (t_val (z_call c_is_tree.pu (AL.val AL.nil) (pe_callU c_is_tree.ok hG (hr.mono (by decide)) (by rfl) c_is_tree.g c_is_tree.kp c_is_tree.b .nil tk (z_av (pa_cons (q_name (pv 0)) a_nil)))))) (st_one (z_raise rfl tk rfl rfl rfl rfl x_BadTree (hr.mono (by decide)) (by rfl) xg_W (z_av (pa_cons (q_c (.str _) pe_str) a_nil)))) st_nil))
theorem ws_check_tree : ∀ (ds : List D) (Q : D → J.Env → Prop) (X : XQ), Wr (run_check_tree ds) Q X ↔ Wo (bk_check_tree_1 (ds.map some ++ List.replicate 0 none)) (defQ 1 [0] Q X) := fun _ _ _ => wz_def
theorem wb_check_tree : (∀ (env : J.Env) (Q : Out → Prop), Wo (bk_check_tree_0 env) Q ↔ Wo ((raiseO 15 ["why"] gW (argV (okC (.str "tree")) args0)) env) Q)
  ∧ (∀ (env : J.Env) (Q : Out → Prop), Wo (bk_check_tree_1 env) Q ↔ Wo ((ifO (notB (asB (callF run_is_tree [] (argV (rdF 0) args0)))) bk_check_tree_0 nilO) env) Q)
  ∧ (∀ e : J.Env, outsOf 1 [0] e = [(e[0]?).join]) := ⟨fun _ _ => Iff.rfl, fun _ _ => Iff.rfl, fun _ => rfl⟩
end
section
variable {P : Program} {w : World} {K : PySem.W.Frag} {mg : Str → Option Value} {base : Heap} {C : CT}
abbrev s_turned : Stmt := topS 21
abbrev N_turned : List Str := ["tree", "found", "left", "right", "other"]
abbrev P_turned : List Str := ["tree"]
theorem sc_turned : FnScope N_turned P_turned (defScope s_turned) := ⟨rfl, rfl, rfl, by decide +kernel, rfl, by decide +kernel, by decide +kernel⟩
def bk_turned_0 (rec_ : List D → R D) : J.Env → Out := (appO 1 (tupF (argV (lift2 ixF (rdF 2) (okC (.int 0))) (argV (tupF (argV (lift2 ixF (rdF 2) (okC (.int 1))) (argV (rdF 3) args0))) args0))))
def bk_turned_1 (rec_ : List D → R D) : J.Env → Out := (appO 1 (tupF (argV (tupF (argV (rdF 2) (argV (lift2 ixF (rdF 3) (okC (.int 0))) args0))) (argV (lift2 ixF (rdF 3) (okC (.int 1))) args0))))
def bk_turned_2 (rec_ : List D → R D) : J.Env → Out := (retO (lift2 addD (rdF 1) (compO (lstI (callF rec_ [] (argV (rdF 3) args0))) (setG 4) yesB (tupF (argV (rdF 2) (argV (rdF 4) args0))) [4])))
def bk_turned_3 (rec_ : List D → R D) : J.Env → Out := (seqO (extO 1 (compO (lstI (callF rec_ [] (argV (rdF 2) args0))) (setG 4) yesB (tupF (argV (rdF 4) (argV (rdF 3) args0))) [4])) (bk_turned_2 rec_))
def bk_turned_4 (rec_ : List D → R D) : J.Env → Out := (seqO (ifO (asB (lift1 (isiD "tuple") (rdF 3))) (bk_turned_1 rec_) nilO) (bk_turned_3 rec_))
def bk_turned_5 (rec_ : List D → R D) : J.Env → Out := (seqO (ifO (asB (lift1 (isiD "tuple") (rdF 2))) (bk_turned_0 rec_) nilO) (bk_turned_4 rec_))
def bk_turned_6 (rec_ : List D → R D) : J.Env → Out := (seqO (asgO (lstF args0) (setG 1)) (bk_turned_5 rec_))
def bk_turned_7 (rec_ : List D → R D) : J.Env → Out := (seqO (asgO (rdF 0) (tupG 2 (consG (setG 2) (consG (setG 3) nilG)))) (bk_turned_6 rec_))
def bk_turned_8 (rec_ : List D → R D) : J.Env → Out := (seqO (ifO (notB (asB (lift1 (isiD "tuple") (rdF 0)))) (retO (lstF args0)) nilO) (bk_turned_7 rec_))
def run_turned : Nat → List D → R D
  | 0 => fun _ => .no
  | d_ + 1 => defF 1 [0] 4
    (bk_turned_8 (run_turned d_))
theorem pu_turned : ∀ d, Pure 1 (run_turned d)
  | 0 => Pure.no
  | d + 1 => Pure.defF
theorem ok_turned {f : Addr} {fd : FuncData} (F : Fun K "turned" "turned" s_turned f fd) (gF : mg "turned" = some (.ref f)) (kF : PySem.W.keepIn K (.ref f) = true) (bF : Binds K fd P_turned []) (B : Bi mg)  : ∀ d_, FnU P w K mg base (1 + d_) f fd P_turned (spP K C 1 (run_turned d_)) := by
  intro d_
  induction d_ with
  | zero => exact FnU.no rfl
  | succ d_ ih =>
  let c_turned : CalU P w K mg base C "turned" (1 + d_) P_turned 1 (run_turned d_) := ⟨f, fd, ih, gF, kF, bF, pu_turned d_⟩
  refine okP (k := 1 + d_) F sc_turned rfl rfl (by decide) fun cdv A outer s H E hG hr => ?_
  have tk : Takes (cxOf (L2.CX P w) P w K mg base N_turned "turned" (defScope s_turned) f cdv A outer s H E) (fun cls d _ H => E cls d H) := takes_of rfl rfl rfl rfl
  exact (st_seq (s_if (t_not (t_val (z_isi (by decide) (pe_callB (id := "isinstance") call_isi (by rfl) B.n_isinstance (by decide +kernel) (pa_cons (q_name (pv 0)) (pa_cons (pe_bltn (by rfl) B.n_tuple (by decide +kernel) (v := .ty "tuple") rfl) pa_nil)))))) (st_one (s_ret (z_lst (pe_lst a_nil)))) st_nil)
      (st_seq (z_asg (ps_asg (q_name (pv 0)) (z_gtup (pg_tup rfl (z_gcons (pgs_cons (g_name (by decide) (pg_name (i := 2) sc_turned.nd rfl (Or.inr rfl))) (z_gcons (pgs_cons (g_name (by decide) (pg_name (i := 3) sc_turned.nd rfl (Or.inr rfl))) gs_nil))))))))
      (st_seq (z_set (by decide) (ps_set (i := 1) sc_turned.nd rfl (Or.inl rfl) (z_lst (pe_lst a_nil))))
      (st_seq (s_if (t_val (z_isi (by decide) (pe_callB (id := "isinstance") call_isi (by rfl) B.n_isinstance (by decide +kernel) (pa_cons (q_name (pv 2)) (pa_cons (pe_bltn (by rfl) B.n_tuple (by decide +kernel) (v := .ty "tuple") rfl) pa_nil))))) (st_one (z_app (ps_expr (pe_bm PySem.F.plainAttrs_list PySem.F.slot_list_append PySem.F.type_list_append mt_append (pv 1) (pa_cons (z_tup (pe_tup (z_av (pa_cons (q_ix (q_name (pv 2)) (q_c (.int _) pe_int) (fun _ _ => rfl)) (z_av (pa_cons (z_tup (pe_tup (z_av (pa_cons (q_ix (q_name (pv 2)) (q_c (.int _) pe_int) (fun _ _ => rfl)) (z_av (pa_cons (q_name (pv 3)) a_nil)))))) a_nil)))))) pa_nil))))) st_nil)
      (st_seq (s_if (t_val (z_isi (by decide) (pe_callB (id := "isinstance") call_isi (by rfl) B.n_isinstance (by decide +kernel) (pa_cons (q_name (pv 3)) (pa_cons (pe_bltn (by rfl) B.n_tuple (by decide +kernel) (v := .ty "tuple") rfl) pa_nil))))) (st_one (z_app (ps_expr (pe_bm PySem.F.plainAttrs_list PySem.F.slot_list_append PySem.F.type_list_append mt_append (pv 1) (pa_cons (z_tup (pe_tup (z_av (pa_cons (z_tup (pe_tup (z_av (pa_cons (q_name (pv 2)) (z_av (pa_cons (q_ix (q_name (pv 3)) (q_c (.int _) pe_int) (fun _ _ => rfl)) a_nil)))))) (z_av (pa_cons (q_ix (q_name (pv 3)) (q_c (.int _) pe_int) (fun _ _ => rfl)) a_nil)))))) pa_nil))))) st_nil)
      (st_seq (z_augL (ps_aug (i := 1) sc_turned.nd rfl (Or.inl rfl) (z_lc 5 rfl (kp := [0, 1, 2, 3]) (by decide) GL.set (pe_lc (own := [("other", 4)]) rfl sc_turned.nd (y_list (z_call c_turned.pu (AL.val AL.nil) (pe_callU c_turned.ok hG (hr.mono (by omega)) (by rfl) c_turned.g c_turned.kp c_turned.b .nil tk (z_av (pa_cons (q_name (pv 2)) a_nil))))) (blkOk_by (own := [("other", 4)]) (N := N_turned) (sc := defScope s_turned) (by decide +kernel)) (fun _ _ _ _ _ => (g_name (by decide) (pg_name (i := 4) sc_turned.nd rfl (Or.inl rfl)))) (fun _ _ _ _ _ => z_pt0) (fun _ _ _ _ _ => (z_tup (pe_tup (z_av (pa_cons (q_name (pv 4)) (z_av (pa_cons (q_name (pv 3)) a_nil))))))))) iop_ext))
      (st_one (s_ret (q_add (q_name (pv 1)) (z_lc 5 rfl (kp := [0, 1, 2, 3]) (by decide) GL.set (pe_lc (own := [("other", 4)]) rfl sc_turned.nd (y_list (z_call c_turned.pu (AL.val AL.nil) (pe_callU c_turned.ok hG (hr.mono (by omega)) (by rfl) c_turned.g c_turned.kp c_turned.b .nil tk (z_av (pa_cons (q_name (pv 3)) a_nil))))) (blkOk_by (own := [("other", 4)]) (N := N_turned) (sc := defScope s_turned) (by decide +kernel)) (fun _ _ _ _ _ => (g_name (by decide) (pg_name (i := 4) sc_turned.nd rfl (Or.inl rfl)))) (fun _ _ _ _ _ => z_pt0) (fun _ _ _ _ _ => (z_tup (pe_tup (z_av (pa_cons (q_name (pv 2)) (z_av (pa_cons (q_name (pv 4)) a_nil))))))))))))))))))
theorem ws_turned : ∀ (d_ : Nat) (ds : List D) (Q : D → J.Env → Prop) (X : XQ), Wr (run_turned (d_ + 1) ds) Q X ↔ Wo ((bk_turned_8 (run_turned d_)) (ds.map some ++ List.replicate 4 none)) (defQ 1 [0] Q X) := fun _ _ _ _ => wz_def
theorem wb_turned : (∀ (rec_ : List D → R D) (env : J.Env) (Q : Out → Prop), Wo ((bk_turned_0 rec_) env) Q ↔ Wo ((appO 1 (tupF (argV (lift2 ixF (rdF 2) (okC (.int 0))) (argV (tupF (argV (lift2 ixF (rdF 2) (okC (.int 1))) (argV (rdF 3) args0))) args0)))) env) Q)
  ∧ (∀ (rec_ : List D → R D) (env : J.Env) (Q : Out → Prop), Wo ((bk_turned_1 rec_) env) Q ↔ Wo ((appO 1 (tupF (argV (tupF (argV (rdF 2) (argV (lift2 ixF (rdF 3) (okC (.int 0))) args0))) (argV (lift2 ixF (rdF 3) (okC (.int 1))) args0)))) env) Q)
  ∧ (∀ (rec_ : List D → R D) (env : J.Env) (Q : Out → Prop), Wo ((bk_turned_2 rec_) env) Q ↔ Wo ((retO (lift2 addD (rdF 1) (compO (lstI (callF rec_ [] (argV (rdF 3) args0))) (setG 4) yesB (tupF (argV (rdF 2) (argV (rdF 4) args0))) [4]))) env) Q)
  ∧ (∀ (rec_ : List D → R D) (env : J.Env) (Q : Out → Prop), Wo ((bk_turned_3 rec_) env) Q ↔ Wo ((seqO (extO 1 (compO (lstI (callF rec_ [] (argV (rdF 2) args0))) (setG 4) yesB (tupF (argV (rdF 4) (argV (rdF 3) args0))) [4])) (bk_turned_2 rec_)) env) Q)
  ∧ (∀ (rec_ : List D → R D) (env : J.Env) (Q : Out → Prop), Wo ((bk_turned_4 rec_) env) Q ↔ Wo ((seqO (ifO (asB (lift1 (isiD "tuple") (rdF 3))) (bk_turned_1 rec_) nilO) (bk_turned_3 rec_)) env) Q)
  ∧ (∀ (rec_ : List D → R D) (env : J.Env) (Q : Out → Prop), Wo ((bk_turned_5 rec_) env) Q ↔ Wo ((seqO (ifO (asB (lift1 (isiD "tuple") (rdF 2))) (bk_turned_0 rec_) nilO) (bk_turned_4 rec_)) env) Q)
  ∧ (∀ (rec_ : List D → R D) (env : J.Env) (Q : Out → Prop), Wo ((bk_turned_6 rec_) env) Q ↔ Wo ((seqO (asgO (lstF args0) (setG 1)) (bk_turned_5 rec_)) env) Q)
  ∧ (∀ (rec_ : List D → R D) (env : J.Env) (Q : Out → Prop), Wo ((bk_turned_7 rec_) env) Q ↔ Wo ((seqO (asgO (rdF 0) (tupG 2 (consG (setG 2) (consG (setG 3) nilG)))) (bk_turned_6 rec_)) env) Q)
  ∧ (∀ (rec_ : List D → R D) (env : J.Env) (Q : Out → Prop), Wo ((bk_turned_8 rec_) env) Q ↔ Wo ((seqO (ifO (notB (asB (lift1 (isiD "tuple") (rdF 0)))) (retO (lstF args0)) nilO) (bk_turned_7 rec_)) env) Q)
  ∧ (∀ e : J.Env, outsOf 1 [0] e = [(e[0]?).join]) := ⟨fun _ _ _ => Iff.rfl, fun _ _ _ => Iff.rfl, fun _ _ _ => Iff.rfl, fun _ _ _ => Iff.rfl, fun _ _ _ => Iff.rfl, fun _ _ _ => Iff.rfl, fun _ _ _ => Iff.rfl, fun _ _ _ => Iff.rfl, fun _ _ _ => Iff.rfl, fun _ => rfl⟩
end
section
variable {P : Program} {w : World} {K : PySem.W.Frag} {mg : Str → Option Value} {base : Heap} {C : CT}
abbrev s_rotations : Stmt := topS 22
abbrev N_rotations : List Str := ["tree"]
abbrev P_rotations : List Str := ["tree"]
theorem sc_rotations : FnScope N_rotations P_rotations (defScope s_rotations) := ⟨rfl, rfl, rfl, by decide +kernel, rfl, by decide +kernel, by decide +kernel⟩
def bk_rotations_0 : J.Env → Out := (retO (callF (run_turned 12) [] (argV (rdF 0) args0)))
def bk_rotations_1 : J.Env → Out := (seqO (dropO (callF run_check_tree [] (argV (rdF 0) args0))) bk_rotations_0)
def run_rotations : List D → R D := defF 1 [0] 0
    bk_rotations_1
theorem ok_rotations {f : Addr} {fd : FuncData} (F : Fun K "rotations" "rotations" s_rotations f fd) (B : Bi mg) (c_check_tree : CalU P w K mg base C "check_tree" 6 P_check_tree 1 run_check_tree) (c_turned : CalU P w K mg base C "turned" (1 + 12) P_turned 1 (run_turned 12)) : FnU P w K mg base 14 f fd P_rotations (spP K C 1 run_rotations) := by
  refine okP F sc_rotations rfl rfl (by decide) fun cdv A outer s H E hG hr => ?_
  have tk : Takes (cxOf (L2.CX P w) P w K mg base N_rotations "rotations" (defScope s_rotations) f cdv A outer s H E) (fun cls d _ H => E cls d H) := takes_of rfl rfl rfl rfl
  exact (st_seq (z_drop (ps_expr (z_call c_check_tree.pu (AL.val AL.nil) (pe_callU c_check_tree.ok hG (hr.mono (by decide)) (by rfl) c_check_tree.g c_check_tree.kp c_check_tree.b .nil tk (z_av (pa_cons (q_name (pv 0)) a_nil))))))
      (st_one (s_ret (z_call c_turned.pu (AL.val AL.nil) (pe_callU c_turned.ok hG (hr.mono (by decide)) (by rfl) c_turned.g c_turned.kp c_turned.b .nil tk (z_av (pa_cons (q_name (pv 0)) a_nil)))))))
theorem ws_rotations : ∀ (ds : List D) (Q : D → J.Env → Prop) (X : XQ), Wr (run_rotations ds) Q X ↔ Wo (bk_rotations_1 (ds.map some ++ List.replicate 0 none)) (defQ 1 [0] Q X) := fun _ _ _ => wz_def
theorem wb_rotations : (∀ (env : J.Env) (Q : Out → Prop), Wo (bk_rotations_0 env) Q ↔ Wo ((retO (callF (run_turned 12) [] (argV (rdF 0) args0))) env) Q)
  ∧ (∀ (env : J.Env) (Q : Out → Prop), Wo (bk_rotations_1 env) Q ↔ Wo ((seqO (dropO (callF run_check_tree [] (argV (rdF 0) args0))) bk_rotations_0) env) Q)
  ∧ (∀ e : J.Env, outsOf 1 [0] e = [(e[0]?).join]) := ⟨fun _ _ => Iff.rfl, fun _ _ => Iff.rfl, fun _ => rfl⟩
end
section
variable {P : Program} {w : World} {K : PySem.W.Frag} {mg : Str → Option Value} {base : Heap} {C : CT}
abbrev s_to_left : Stmt := topS 23
abbrev N_to_left : List Str := ["tree", "left", "right", "other"]
abbrev P_to_left : List Str := ["tree"]
theorem sc_to_left : FnScope N_to_left P_to_left (defScope s_to_left) := ⟨rfl, rfl, rfl, by decide +kernel, rfl, by decide +kernel, by decide +kernel⟩
def bk_to_left_0 (rec_ : List D → R D) : J.Env → Out := (retO (lstF (argV (rdF 0) args0)))
def bk_to_left_1 (rec_ : List D → R D) : J.Env → Out := (retO (lift2 addD (lstF (argV (rdF 0) args0)) (callF rec_ [] (argV (tupF (argV (tupF (argV (rdF 1) (argV (lift2 ixF (rdF 2) (okC (.int 0))) args0))) (argV (lift2 ixF (rdF 2) (okC (.int 1))) args0))) args0))))
def bk_to_left_2 (rec_ : List D → R D) : J.Env → Out := (retO (compO (lstI (callF rec_ [] (argV (rdF 1) args0))) (setG 3) yesB (tupF (argV (rdF 3) (argV (rdF 2) args0))) [3]))
def bk_to_left_3 (rec_ : List D → R D) : J.Env → Out := (seqO (ifO (asB (lift1 (isiD "tuple") (rdF 2))) (bk_to_left_1 rec_) nilO) (bk_to_left_2 rec_))
def bk_to_left_4 (rec_ : List D → R D) : J.Env → Out := (seqO (asgO (rdF 0) (tupG 2 (consG (setG 1) (consG (setG 2) nilG)))) (bk_to_left_3 rec_))
def bk_to_left_5 (rec_ : List D → R D) : J.Env → Out := (seqO (ifO (notB (asB (lift1 (isiD "tuple") (rdF 0)))) (bk_to_left_0 rec_) nilO) (bk_to_left_4 rec_))
def run_to_left : Nat → List D → R D
  | 0 => fun _ => .no
  | d_ + 1 => defF 1 [0] 3
    (bk_to_left_5 (run_to_left d_))
theorem pu_to_left : ∀ d, Pure 1 (run_to_left d)
  | 0 => Pure.no
  | d + 1 => Pure.defF
theorem ok_to_left {f : Addr} {fd : FuncData} (F : Fun K "to_left" "to_left" s_to_left f fd) (gF : mg "to_left" = some (.ref f)) (kF : PySem.W.keepIn K (.ref f) = true) (bF : Binds K fd P_to_left []) (B : Bi mg)  : ∀ d_, FnU P w K mg base (1 + d_) f fd P_to_left (spP K C 1 (run_to_left d_)) := by
  intro d_
  induction d_ with
  | zero => exact FnU.no rfl
  | succ d_ ih =>
  let c_to_left : CalU P w K mg base C "to_left" (1 + d_) P_to_left 1 (run_to_left d_) := ⟨f, fd, ih, gF, kF, bF, pu_to_left d_⟩
  refine okP (k := 1 + d_) F sc_to_left rfl rfl (by decide) fun cdv A outer s H E hG hr => ?_
  have tk : Takes (cxOf (L2.CX P w) P w K mg base N_to_left "to_left" (defScope s_to_left) f cdv A outer s H E) (fun cls d _ H => E cls d H) := takes_of rfl rfl rfl rfl
  exact (st_seq (s_if (t_not (t_val (z_isi (by decide) (pe_callB (id := "isinstance") call_isi (by rfl) B.n_isinstance (by decide +kernel) (pa_cons (q_name (pv 0)) (pa_cons (pe_bltn (by rfl) B.n_tuple (by decide +kernel) (v := .ty "tuple") rfl) pa_nil)))))) (st_one (s_ret (z_lst (pe_lst (z_av (pa_cons (q_name (pv 0)) a_nil)))))) st_nil)
      (st_seq (z_asg (ps_asg (q_name (pv 0)) (z_gtup (pg_tup rfl (z_gcons (pgs_cons (g_name (by decide) (pg_name (i := 1) sc_to_left.nd rfl (Or.inl rfl))) (z_gcons (pgs_cons (g_name (by decide) (pg_name (i := 2) sc_to_left.nd rfl (Or.inr rfl))) gs_nil))))))))
      (st_seq (s_if (t_val (z_isi (by decide) (pe_callB (id := "isinstance") call_isi (by rfl) B.n_isinstance (by decide +kernel) (pa_cons (q_name (pv 2)) (pa_cons (pe_bltn (by rfl) B.n_tuple (by decide +kernel) (v := .ty "tuple") rfl) pa_nil))))) (st_one (s_ret (q_add (z_lst (pe_lst (z_av (pa_cons (q_name (pv 0)) a_nil)))) (z_call c_to_left.pu (AL.val AL.nil) (pe_callU c_to_left.ok hG (hr.mono (by omega)) (by rfl) c_to_left.g c_to_left.kp c_to_left.b .nil tk (z_av (pa_cons (z_tup (pe_tup (z_av (pa_cons (z_tup (pe_tup (z_av (pa_cons (q_name (pv 1)) (z_av (pa_cons (q_ix (q_name (pv 2)) (q_c (.int _) pe_int) (fun _ _ => rfl)) a_nil)))))) (z_av (pa_cons (q_ix (q_name (pv 2)) (q_c (.int _) pe_int) (fun _ _ => rfl)) a_nil)))))) a_nil))))))) st_nil)
      (st_one (s_ret (z_lc 4 rfl (kp := [0, 1, 2]) (by decide) GL.set (pe_lc (own := [("other", 3)]) rfl sc_to_left.nd (y_list (z_call c_to_left.pu (AL.val AL.nil) (pe_callU c_to_left.ok hG (hr.mono (by omega)) (by rfl) c_to_left.g c_to_left.kp c_to_left.b .nil tk (z_av (pa_cons (q_name (pv 1)) a_nil))))) (blkOk_by (own := [("other", 3)]) (N := N_to_left) (sc := defScope s_to_left) (by decide +kernel)) (fun _ _ _ _ _ => (g_name (by decide) (pg_name (i := 3) sc_to_left.nd rfl (Or.inl rfl)))) (fun _ _ _ _ _ => z_pt0) (fun _ _ _ _ _ => (z_tup (pe_tup (z_av (pa_cons (q_name (pv 3)) (z_av (pa_cons (q_name (pv 2)) a_nil))))))))))))))
theorem ws_to_left : ∀ (d_ : Nat) (ds : List D) (Q : D → J.Env → Prop) (X : XQ), Wr (run_to_left (d_ + 1) ds) Q X ↔ Wo ((bk_to_left_5 (run_to_left d_)) (ds.map some ++ List.replicate 3 none)) (defQ 1 [0] Q X) := fun _ _ _ _ => wz_def
theorem wb_to_left : (∀ (rec_ : List D → R D) (env : J.Env) (Q : Out → Prop), Wo ((bk_to_left_0 rec_) env) Q ↔ Wo ((retO (lstF (argV (rdF 0) args0))) env) Q)
  ∧ (∀ (rec_ : List D → R D) (env : J.Env) (Q : Out → Prop), Wo ((bk_to_left_1 rec_) env) Q ↔ Wo ((retO (lift2 addD (lstF (argV (rdF 0) args0)) (callF rec_ [] (argV (tupF (argV (tupF (argV (rdF 1) (argV (lift2 ixF (rdF 2) (okC (.int 0))) args0))) (argV (lift2 ixF (rdF 2) (okC (.int 1))) args0))) args0)))) env) Q)
  ∧ (∀ (rec_ : List D → R D) (env : J.Env) (Q : Out → Prop), Wo ((bk_to_left_2 rec_) env) Q ↔ Wo ((retO (compO (lstI (callF rec_ [] (argV (rdF 1) args0))) (setG 3) yesB (tupF (argV (rdF 3) (argV (rdF 2) args0))) [3])) env) Q)
  ∧ (∀ (rec_ : List D → R D) (env : J.Env) (Q : Out → Prop), Wo ((bk_to_left_3 rec_) env) Q ↔ Wo ((seqO (ifO (asB (lift1 (isiD "tuple") (rdF 2))) (bk_to_left_1 rec_) nilO) (bk_to_left_2 rec_)) env) Q)
  ∧ (∀ (rec_ : List D → R D) (env : J.Env) (Q : Out → Prop), Wo ((bk_to_left_4 rec_) env) Q ↔ Wo ((seqO (asgO (rdF 0) (tupG 2 (consG (setG 1) (consG (setG 2) nilG)))) (bk_to_left_3 rec_)) env) Q)
  ∧ (∀ (rec_ : List D → R D) (env : J.Env) (Q : Out → Prop), Wo ((bk_to_left_5 rec_) env) Q ↔ Wo ((seqO (ifO (notB (asB (lift1 (isiD "tuple") (rdF 0)))) (bk_to_left_0 rec_) nilO) (bk_to_left_4 rec_)) env) Q)
  ∧ (∀ e : J.Env, outsOf 1 [0] e = [(e[0]?).join]) := ⟨fun _ _ _ => Iff.rfl, fun _ _ _ => Iff.rfl, fun _ _ _ => Iff.rfl, fun _ _ _ => Iff.rfl, fun _ _ _ => Iff.rfl, fun _ _ _ => Iff.rfl, fun _ => rfl⟩
end
section
variable {P : Program} {w : World} {K : PySem.W.Frag} {mg : Str → Option Value} {base : Heap} {C : CT}
abbrev s_linked : Stmt := topS 24
abbrev N_linked : List Str := ["one", "other", "ahead", "back"]
abbrev P_linked : List Str := ["one", "other"]
theorem sc_linked : FnScope N_linked P_linked (defScope s_linked) := ⟨rfl, rfl, rfl, by decide +kernel, rfl, by decide +kernel, by decide +kernel⟩
def bk_linked_0 : J.Env → Out := (raiseO 18 ["why"] gW (argV (okC (.str "sizes")) args0))
def bk_linked_1 : J.Env → Out := (seqO (dropO (popF 2)) (dropO (popF 3)))
abbrev lb_linked_0 : J.Env → Out := bk_linked_1
def bk_linked_2 : J.Env → Out := (retO (lift2 addD (rdF 2) (lift1 revD (slF (rdF 3) (okC .non) (asI (lift1 negD (okC (.int 1))))))))
def bk_linked_3 : J.Env → Out := (seqO (whileL (andB (asB (lift2 (cmpD gtI) (toT (bop1 lenD (rdB 2))) (okC (.int 1)))) (andB (asB (lift2 (cmpD gtI) (toT (bop1 lenD (rdB 3))) (okC (.int 1)))) (asB (lift2 eqW (toT (bop2 ixD (rdB 2) (bop1 negD (fun _ => some (.int 2))))) (toT (bop2 ixD (rdB 3) (bop1 negD (fun _ => some (.int 2))))))))) lb_linked_0 1000000) bk_linked_2)
def bk_linked_4 : J.Env → Out := (seqO (ifO (asB (lift2 neW (toT (bop2 ixD (rdB 2) (bop1 negD (fun _ => some (.int 1))))) (toT (bop2 ixD (rdB 3) (bop1 negD (fun _ => some (.int 1))))))) bk_linked_0 nilO) bk_linked_3)
def bk_linked_5 : J.Env → Out := (seqO (parO 2 3 (argV (callF (run_to_left 80) [] (argV (rdF 0) args0)) (argV (callF (run_to_left 80) [] (argV (rdF 1) args0)) args0))) bk_linked_4)
def bk_linked_6 : J.Env → Out := (seqO (dropO (callF run_check_tree [] (argV (rdF 1) args0))) bk_linked_5)
def bk_linked_7 : J.Env → Out := (seqO (dropO (callF run_check_tree [] (argV (rdF 0) args0))) bk_linked_6)
def run_linked : List D → R D := defF 2 [0, 1] 2
    bk_linked_7
theorem ok_linked {f : Addr} {fd : FuncData} (F : Fun K "linked" "linked" s_linked f fd) (B : Bi mg) (c_check_tree : CalU P w K mg base C "check_tree" 6 P_check_tree 1 run_check_tree) (c_to_left : CalU P w K mg base C "to_left" (1 + 80) P_to_left 1 (run_to_left 80)) (x_Unlike : XCalU P w K mg base C 18 "Unlike" 1 P_TollError___init__ okvW ["why"] id [] []) : FnU P w K mg base 82 f fd P_linked (spP K C 2 run_linked) := by
  refine okP F sc_linked rfl rfl (by decide) fun cdv A outer s H E hG hr => ?_
  have tk : Takes (cxOf (L2.CX P w) P w K mg base N_linked "linked" (defScope s_linked) f cdv A outer s H E) (fun cls d _ H => E cls d H) := takes_of rfl rfl rfl rfl
  exact (st_seq (z_drop (ps_expr (z_call c_check_tree.pu (AL.val AL.nil) (pe_callU c_check_tree.ok hG (hr.mono (by decide)) (by rfl) c_check_tree.g c_check_tree.kp c_check_tree.b .nil tk (z_av (pa_cons (q_name (pv 0)) a_nil))))))
      (st_seq (z_drop (ps_expr (z_call c_check_tree.pu (AL.val AL.nil) (pe_callU c_check_tree.ok hG (hr.mono (by decide)) (by rfl) c_check_tree.g c_check_tree.kp c_check_tree.b .nil tk (z_av (pa_cons (q_name (pv 1)) a_nil))))))
      (st_seq (z_par (by decide) (by decide) (ps_par (i := 2) (j := 3) rfl sc_linked.nd rfl rfl (by decide) rfl rfl (z_av (pa_cons (z_call c_to_left.pu (AL.val AL.nil) (pe_callU c_to_left.ok hG (hr.mono (by decide)) (by rfl) c_to_left.g c_to_left.kp c_to_left.b .nil tk (z_av (pa_cons (q_name (pv 0)) a_nil)))) (z_av (pa_cons (z_call c_to_left.pu (AL.val AL.nil) (pe_callU c_to_left.ok hG (hr.mono (by decide)) (by rfl) c_to_left.g c_to_left.kp c_to_left.b .nil tk (z_av (pa_cons (q_name (pv 1)) a_nil)))) a_nil)))) (by rfl)))
      (st_seq (s_if (t_cmp (op_or (op_neD hr.units) op_neS) (p_or p_neD p_neS) (q_b (qb_ix (qb_name (pv 2)) (qb_neg (qb_c (.int _) pe_int)) (fun _ _ => rfl))) (q_b (qb_ix (qb_name (pv 3)) (qb_neg (qb_c (.int _) pe_int)) (fun _ _ => rfl))) (nomark _)) (st_one (z_raise rfl tk rfl rfl rfl rfl x_Unlike (hr.mono (by decide)) (by rfl) xg_W (z_av (pa_cons (q_c (.str _) pe_str) a_nil)))) st_nil)
      (st_seq (z_while (n := 1000000) (ps_while (passes_of rfl) (PW.pt (w_and (t_cmp op_gt p_cmp (q_b (zb_len (pe_callB (id := "len") call_len (by rfl) B.n_len (by decide +kernel) (pa_cons (qb_name (pv 2)) pa_nil)))) (q_c (.int _) pe_int) (nomark _)) (w_and (t_cmp op_gt p_cmp (q_b (zb_len (pe_callB (id := "len") call_len (by rfl) B.n_len (by decide +kernel) (pa_cons (qb_name (pv 3)) pa_nil)))) (q_c (.int _) pe_int) (nomark _)) (w_and1 (t_cmp (op_or (op_eqD hr.units) (op_eqX (room65 hr))) (p_or p_eqD p_eqX) (q_b (qb_ix (qb_name (pv 2)) (qb_neg (qb_c (.int _) pe_int)) (fun _ _ => rfl))) (q_b (qb_ix (qb_name (pv 3)) (qb_neg (qb_c (.int _) pe_int)) (fun _ _ => rfl))) (nomark _)))))) (st_seq (z_drop (ps_expr (z_pop (pe_bm0 PySem.F.plainAttrs_list PySem.F.slot_list_pop PySem.F.type_list_pop mt_pop (pv 2)))))
      (st_one (z_drop (ps_expr (z_pop (pe_bm0 PySem.F.plainAttrs_list PySem.F.slot_list_pop PySem.F.type_list_pop mt_pop (pv 3)))))))))
      (st_one (s_ret (q_add (q_name (pv 2)) (z_rev (pe_revL (q_slice (q_name (pv 3)) o_none (o_some (q_neg (q_c (.int _) pe_int))))))))))))))
theorem ws_linked : ∀ (ds : List D) (Q : D → J.Env → Prop) (X : XQ), Wr (run_linked ds) Q X ↔ Wo (bk_linked_7 (ds.map some ++ List.replicate 2 none)) (defQ 2 [0, 1] Q X) := fun _ _ _ => wz_def
theorem wb_linked : (∀ (env : J.Env) (Q : Out → Prop), Wo (bk_linked_0 env) Q ↔ Wo ((raiseO 18 ["why"] gW (argV (okC (.str "sizes")) args0)) env) Q)
  ∧ (∀ (env : J.Env) (Q : Out → Prop), Wo (bk_linked_1 env) Q ↔ Wo ((seqO (dropO (popF 2)) (dropO (popF 3))) env) Q)
  ∧ (∀ (env : J.Env) (Q : Out → Prop), Wo (bk_linked_2 env) Q ↔ Wo ((retO (lift2 addD (rdF 2) (lift1 revD (slF (rdF 3) (okC .non) (asI (lift1 negD (okC (.int 1)))))))) env) Q)
  ∧ (∀ (env : J.Env) (Q : Out → Prop), Wo (bk_linked_3 env) Q ↔ Wo ((seqO (whileL (andB (asB (lift2 (cmpD gtI) (toT (bop1 lenD (rdB 2))) (okC (.int 1)))) (andB (asB (lift2 (cmpD gtI) (toT (bop1 lenD (rdB 3))) (okC (.int 1)))) (asB (lift2 eqW (toT (bop2 ixD (rdB 2) (bop1 negD (fun _ => some (.int 2))))) (toT (bop2 ixD (rdB 3) (bop1 negD (fun _ => some (.int 2))))))))) lb_linked_0 1000000) bk_linked_2) env) Q)
  ∧ (∀ (env : J.Env) (Q : Out → Prop), Wo (bk_linked_4 env) Q ↔ Wo ((seqO (ifO (asB (lift2 neW (toT (bop2 ixD (rdB 2) (bop1 negD (fun _ => some (.int 1))))) (toT (bop2 ixD (rdB 3) (bop1 negD (fun _ => some (.int 1))))))) bk_linked_0 nilO) bk_linked_3) env) Q)
  ∧ (∀ (env : J.Env) (Q : Out → Prop), Wo (bk_linked_5 env) Q ↔ Wo ((seqO (parO 2 3 (argV (callF (run_to_left 80) [] (argV (rdF 0) args0)) (argV (callF (run_to_left 80) [] (argV (rdF 1) args0)) args0))) bk_linked_4) env) Q)
  ∧ (∀ (env : J.Env) (Q : Out → Prop), Wo (bk_linked_6 env) Q ↔ Wo ((seqO (dropO (callF run_check_tree [] (argV (rdF 1) args0))) bk_linked_5) env) Q)
  ∧ (∀ (env : J.Env) (Q : Out → Prop), Wo (bk_linked_7 env) Q ↔ Wo ((seqO (dropO (callF run_check_tree [] (argV (rdF 0) args0))) bk_linked_6) env) Q)
  ∧ (∀ e : J.Env, outsOf 2 [0, 1] e = [(e[0]?).join, (e[1]?).join]) := ⟨fun _ _ => Iff.rfl, fun _ _ => Iff.rfl, fun _ _ => Iff.rfl, fun _ _ => Iff.rfl, fun _ _ => Iff.rfl, fun _ _ => Iff.rfl, fun _ _ => Iff.rfl, fun _ _ => Iff.rfl, fun _ => rfl⟩
end
section
variable {P : Program} {w : World} {K : PySem.W.Frag} {mg : Str → Option Value} {base : Heap} {C : CT}
abbrev s_Lcell_at : Stmt := topS 26
abbrev N_Lcell_at : List Str := ["_law_script", "_law_k"]
abbrev P_Lcell_at : List Str := ["_law_script", "_law_k"]
theorem sc_Lcell_at : FnScope N_Lcell_at P_Lcell_at (defScope s_Lcell_at) := ⟨rfl, rfl, rfl, by decide +kernel, rfl, by decide +kernel, by decide +kernel⟩
def bk_Lcell_at_0 : J.Env → Out := (retO (lift2 ixF (rdF 0) (rdF 1)))
def bk_Lcell_at_1 : J.Env → Out := (seqO (ifO (asB (lift2 (cmpD ltI) (rdF 1) (lift1 lenD (rdF 0)))) bk_Lcell_at_0 nilO) (retO (okC (.int 0))))
def run_Lcell_at : List D → R D := defF 2 [0, 1] 0
    bk_Lcell_at_1
theorem ok_Lcell_at {f : Addr} {fd : FuncData} (F : Fun K "_law_cell_at" "_law_cell_at" s_Lcell_at f fd) (B : Bi mg)  : FnU P w K mg base 1 f fd P_Lcell_at (spP K C 2 run_Lcell_at) := by
  refine okP F sc_Lcell_at rfl rfl (by decide) fun cdv A outer s H E hG hr => ?_
  have tk : Takes (cxOf (L2.CX P w) P w K mg base N_Lcell_at "_law_cell_at" (defScope s_Lcell_at) f cdv A outer s H E) (fun cls d _ H => E cls d H) := takes_of rfl rfl rfl rfl
  exact (st_seq (s_if (t_cmp op_lt p_cmp (q_name (pv 1)) (z_len (pe_callB (id := "len") call_len (by rfl) B.n_len (by decide +kernel) (pa_cons (q_name (pv 0)) pa_nil))) (nomark _)) (st_one (s_ret (q_ix (q_name (pv 0)) (q_name (pv 1)) (fun _ _ => rfl)))) st_nil)
      (st_one (s_ret (q_c (.int _) pe_int))))
theorem ws_Lcell_at : ∀ (ds : List D) (Q : D → J.Env → Prop) (X : XQ), Wr (run_Lcell_at ds) Q X ↔ Wo (bk_Lcell_at_1 (ds.map some ++ List.replicate 0 none)) (defQ 2 [0, 1] Q X) := fun _ _ _ => wz_def
theorem wb_Lcell_at : (∀ (env : J.Env) (Q : Out → Prop), Wo (bk_Lcell_at_0 env) Q ↔ Wo ((retO (lift2 ixF (rdF 0) (rdF 1))) env) Q)
  ∧ (∀ (env : J.Env) (Q : Out → Prop), Wo (bk_Lcell_at_1 env) Q ↔ Wo ((seqO (ifO (asB (lift2 (cmpD ltI) (rdF 1) (lift1 lenD (rdF 0)))) bk_Lcell_at_0 nilO) (retO (okC (.int 0)))) env) Q)
  ∧ (∀ e : J.Env, outsOf 2 [0, 1] e = [(e[0]?).join, (e[1]?).join]) := ⟨fun _ _ => Iff.rfl, fun _ _ => Iff.rfl, fun _ => rfl⟩
end
section
variable {P : Program} {w : World} {K : PySem.W.Frag} {mg : Str → Option Value} {base : Heap} {C : CT}
abbrev s_Lwell : Stmt := topS 27
abbrev N_Lwell : List Str := ["_law_cell"]
abbrev P_Lwell : List Str := ["_law_cell"]
theorem sc_Lwell : FnScope N_Lwell P_Lwell (defScope s_Lwell) := ⟨rfl, rfl, rfl, by decide +kernel, rfl, by decide +kernel, by decide +kernel⟩
def bk_Lwell_0 : J.Env → Out := (retO (lstF (argV (lift2 ixF (lstF (argV (okC (.int 0)) (argV (rdF 0) args0))) (lift1 intD (lift2 (cmpD geI) (rdF 0) (lift2 powD (okC (.int 10)) (okC (.int 18)))))) (argV (rdF 0) (argV (okC (.int 0)) args0)))))
def run_Lwell : List D → R D := defF 1 [0] 0
    bk_Lwell_0
theorem ok_Lwell {f : Addr} {fd : FuncData} (F : Fun K "_law_well" "_law_well" s_Lwell f fd) (B : Bi mg)  : FnU P w K mg base 1 f fd P_Lwell (spP K C 1 run_Lwell) := by
  refine okP F sc_Lwell rfl rfl (by decide) fun cdv A outer s H E hG hr => ?_
  have tk : Takes (cxOf (L2.CX P w) P w K mg base N_Lwell "_law_well" (defScope s_Lwell) f cdv A outer s H E) (fun cls d _ H => E cls d H) := takes_of rfl rfl rfl rfl
  exact (st_one (s_ret (z_lst (pe_lst (z_av (pa_cons (q_ix (z_lst (pe_lst (z_av (pa_cons (q_c (.int _) pe_int) (z_av (pa_cons (q_name (pv 0)) a_nil)))))) (z_cb1 p_int (pe_callTy (T := "int") call_int1 (by rfl) B.n_int (by decide +kernel) (pa_cons (q_cmp op_ge p_cmp (q_name (pv 0)) (q_pow (q_c (.int _) pe_int) (q_c (.int _) pe_int)) (nomark _)) pa_nil))) (fun _ _ => rfl)) (z_av (pa_cons (q_name (pv 0)) (z_av (pa_cons (q_c (.int _) pe_int) a_nil))))))))))
theorem ws_Lwell : ∀ (ds : List D) (Q : D → J.Env → Prop) (X : XQ), Wr (run_Lwell ds) Q X ↔ Wo (bk_Lwell_0 (ds.map some ++ List.replicate 0 none)) (defQ 1 [0] Q X) := fun _ _ _ => wz_def
theorem wb_Lwell : (∀ (env : J.Env) (Q : Out → Prop), Wo (bk_Lwell_0 env) Q ↔ Wo ((retO (lstF (argV (lift2 ixF (lstF (argV (okC (.int 0)) (argV (rdF 0) args0))) (lift1 intD (lift2 (cmpD geI) (rdF 0) (lift2 powD (okC (.int 10)) (okC (.int 18)))))) (argV (rdF 0) (argV (okC (.int 0)) args0))))) env) Q)
  ∧ (∀ e : J.Env, outsOf 1 [0] e = [(e[0]?).join]) := ⟨fun _ _ => Iff.rfl, fun _ => rfl⟩
end
section
variable {P : Program} {w : World} {K : PySem.W.Frag} {mg : Str → Option Value} {base : Heap} {C : CT}
abbrev s_Ldraw : Stmt := topS 28
abbrev N_Ldraw : List Str := ["_law_well_here", "_law_many", "_law_salt", "_law_number", "_law_found"]
abbrev P_Ldraw : List Str := ["_law_well_here", "_law_many"]
theorem sc_Ldraw : FnScope N_Ldraw P_Ldraw (defScope s_Ldraw) := ⟨rfl, rfl, rfl, by decide +kernel, rfl, by decide +kernel, by decide +kernel⟩
def bk_Ldraw_0 : J.Env → Out := (seqO (asgO (lift2 divD (toT (bop2 ixD (rdB 0) (fun _ => some (.int 0)))) (rdF 1)) (put1G 0 (fun _ => some (.int 0)))) (retO (rdM 4)))
def bk_Ldraw_1 : J.Env → Out := (seqO (asgO (lift2 modD (toT (bop2 ixD (rdB 0) (fun _ => some (.int 0)))) (rdF 1)) (setG 4)) bk_Ldraw_0)
def bk_Ldraw_2 : J.Env → Out := (retO (lift2 modD (lift2 modD (lift2 mulD (rdF 3) (lift2 addD (lift2 divD (rdF 3) (okC (.int 2003))) (okC (.int 40692)))) (okC (.int 2147483399))) (rdF 1)))
def bk_Ldraw_3 : J.Env → Out := (seqO (asgO (lift2 modD (lift2 mulD (rdF 3) (lift2 addD (lift2 addD (lift2 divD (rdF 3) (okC (.int 1009))) (okC (.int 69621))) (toT (bop2 ixD (rdB 0) (fun _ => some (.int 2)))))) (okC (.int 2147483629))) (setG 3)) bk_Ldraw_2)
def bk_Ldraw_4 : J.Env → Out := (seqO (asgO (lift2 modD (lift2 powD (lift2 addD (lift2 addD (lift2 addD (lift2 modD (toT (bop2 ixD (rdB 0) (fun _ => some (.int 1)))) (okC (.int 2147483629))) (lift2 mulD (okC (.int 7919)) (toT (bop2 ixD (rdB 0) (fun _ => some (.int 2)))))) (rdF 2)) (okC (.int 1))) (okC (.int 5))) (okC (.int 2147483647))) (setG 3)) bk_Ldraw_3)
def bk_Ldraw_5 : J.Env → Out := (seqO (asgO (lift2 modD (lift2 divD (toT (bop2 ixD (rdB 0) (fun _ => some (.int 1)))) (okC (.int 2147483629))) (okC (.int 65521))) (setG 2)) bk_Ldraw_4)
def bk_Ldraw_6 : J.Env → Out := (seqO (asgO (lift2 addD (toT (bop2 ixD (rdB 0) (fun _ => some (.int 2)))) (okC (.int 1))) (put1G 0 (fun _ => some (.int 2)))) bk_Ldraw_5)
def bk_Ldraw_7 : J.Env → Out := (seqO (ifO (asB (lift2 (cmpD gtI) (toT (bop2 ixD (rdB 0) (fun _ => some (.int 0)))) (okC (.int 0)))) bk_Ldraw_1 nilO) bk_Ldraw_6)
def run_Ldraw : List D → R D := defF 2 [0, 1] 3
    bk_Ldraw_7
theorem ok_Ldraw {f : Addr} {fd : FuncData} (F : Fun K "_law_draw" "_law_draw" s_Ldraw f fd) (B : Bi mg)  : FnU P w K mg base 1 f fd P_Ldraw (spP K C 2 run_Ldraw) := by
  refine okP F sc_Ldraw rfl rfl (by decide) fun cdv A outer s H E hG hr => ?_
  have tk : Takes (cxOf (L2.CX P w) P w K mg base N_Ldraw "_law_draw" (defScope s_Ldraw) f cdv A outer s H E) (fun cls d _ H => E cls d H) := takes_of rfl rfl rfl rfl
  exact (st_seq (s_if (t_cmp op_gt p_cmp (q_b (qb_ix (qb_name (pv 0)) (qb_c (.int _) pe_int) (fun _ _ => rfl))) (q_c (.int _) pe_int) (nomark _)) (st_seq (z_set (by decide) (ps_set (i := 4) sc_Ldraw.nd rfl (Or.inl rfl) (q_mod (q_b (qb_ix (qb_name (pv 0)) (qb_c (.int _) pe_int) (fun _ _ => rfl))) (q_name (pv 1)))))
      (st_seq (z_asg (ps_asg (q_div (q_b (qb_ix (qb_name (pv 0)) (qb_c (.int _) pe_int) (fun _ _ => rfl))) (q_name (pv 1))) (z_put1 (pg_sub (pv 0) (qb_c (.int _) pe_int) set_list))))
      (st_one (s_ret (q_move (pv 4)))))) st_nil)
      (st_seq (z_asg (ps_asg (q_add (q_b (qb_ix (qb_name (pv 0)) (qb_c (.int _) pe_int) (fun _ _ => rfl))) (q_c (.int _) pe_int)) (z_put1 (pg_sub (pv 0) (qb_c (.int _) pe_int) set_list))))
      (st_seq (z_set (by decide) (ps_set (i := 2) sc_Ldraw.nd rfl (Or.inl rfl) (q_mod (q_div (q_b (qb_ix (qb_name (pv 0)) (qb_c (.int _) pe_int) (fun _ _ => rfl))) (q_c (.int _) pe_int)) (q_c (.int _) pe_int))))
      (st_seq (z_set (by decide) (ps_set (i := 3) sc_Ldraw.nd rfl (Or.inl rfl) (q_mod (q_pow (q_add (q_add (q_add (q_mod (q_b (qb_ix (qb_name (pv 0)) (qb_c (.int _) pe_int) (fun _ _ => rfl))) (q_c (.int _) pe_int)) (q_mul (q_c (.int _) pe_int) (q_b (qb_ix (qb_name (pv 0)) (qb_c (.int _) pe_int) (fun _ _ => rfl))))) (q_name (pv 2))) (q_c (.int _) pe_int)) (q_c (.int _) pe_int)) (q_c (.int _) pe_int))))
      (st_seq (z_set (by decide) (ps_set (i := 3) sc_Ldraw.nd rfl (Or.inl rfl) (q_mod (q_mul (q_name (pv 3)) (q_add (q_add (q_div (q_name (pv 3)) (q_c (.int _) pe_int)) (q_c (.int _) pe_int)) (q_b (qb_ix (qb_name (pv 0)) (qb_c (.int _) pe_int) (fun _ _ => rfl))))) (q_c (.int _) pe_int))))
      (st_one (s_ret (q_mod (q_mod (q_mul (q_name (pv 3)) (q_add (q_div (q_name (pv 3)) (q_c (.int _) pe_int)) (q_c (.int _) pe_int))) (q_c (.int _) pe_int)) (q_name (pv 1))))))))))
end
section
variable {P : Program} {w : World} {K : PySem.W.Frag} {mg : Str → Option Value} {base : Heap} {C : CT}
abbrev s_Lone : Stmt := topS 29
abbrev N_Lone : List Str := ["_law_well_here", "_law_some"]
abbrev P_Lone : List Str := ["_law_well_here", "_law_some"]
theorem sc_Lone : FnScope N_Lone P_Lone (defScope s_Lone) := ⟨rfl, rfl, rfl, by decide +kernel, rfl, by decide +kernel, by decide +kernel⟩
def bk_Lone_0 : J.Env → Out := (retO (lift2 ixF (rdF 1) (callF run_Ldraw [(0, 0)] (argR 0 (argV (lift1 lenD (rdF 1)) args0)))))
def run_Lone : List D → R D := defF 2 [0, 1] 0
    bk_Lone_0
theorem ok_Lone {f : Addr} {fd : FuncData} (F : Fun K "_law_one" "_law_one" s_Lone f fd) (B : Bi mg) (c_Ldraw : CalU P w K mg base C "_law_draw" 1 P_Ldraw 2 run_Ldraw) : FnU P w K mg base 2 f fd P_Lone (spP K C 2 run_Lone) := by
  refine okP F sc_Lone rfl rfl (by decide) fun cdv A outer s H E hG hr => ?_
  have tk : Takes (cxOf (L2.CX P w) P w K mg base N_Lone "_law_one" (defScope s_Lone) f cdv A outer s H E) (fun cls d _ H => E cls d H) := takes_of rfl rfl rfl rfl
  exact (st_one (s_ret (q_ix (q_name (pv 1)) (z_call c_Ldraw.pu (AL.ref (AL.val AL.nil)) (pe_callU c_Ldraw.ok hG (hr.mono (by decide)) (by rfl) c_Ldraw.g c_Ldraw.kp c_Ldraw.b .nil tk (z_ar (pa_cons (pv 0) (z_av (pa_cons (z_len (pe_callB (id := "len") call_len (by rfl) B.n_len (by decide +kernel) (pa_cons (q_name (pv 1)) pa_nil))) a_nil)))))) (fun _ _ => rfl))))
theorem ws_Lone : ∀ (ds : List D) (Q : D → J.Env → Prop) (X : XQ), Wr (run_Lone ds) Q X ↔ Wo (bk_Lone_0 (ds.map some ++ List.replicate 0 none)) (defQ 2 [0, 1] Q X) := fun _ _ _ => wz_def
theorem wb_Lone : (∀ (env : J.Env) (Q : Out → Prop), Wo (bk_Lone_0 env) Q ↔ Wo ((retO (lift2 ixF (rdF 1) (callF run_Ldraw [(0, 0)] (argR 0 (argV (lift1 lenD (rdF 1)) args0))))) env) Q)
  ∧ (∀ e : J.Env, outsOf 2 [0, 1] e = [(e[0]?).join, (e[1]?).join]) := ⟨fun _ _ => Iff.rfl, fun _ => rfl⟩
end
section
variable {P : Program} {w : World} {K : PySem.W.Frag} {mg : Str → Option Value} {base : Heap} {C : CT}
abbrev s_Ltree : Stmt := topS 30
abbrev N_Ltree : List Str := ["_law_well_here", "_law_first", "_law_last", "_law_middle", "_law_left"]
abbrev P_Ltree : List Str := ["_law_well_here", "_law_first", "_law_last"]
theorem sc_Ltree : FnScope N_Ltree P_Ltree (defScope s_Ltree) := ⟨rfl, rfl, rfl, by decide +kernel, rfl, by decide +kernel, by decide +kernel⟩
def bk_Ltree_0 (rec_ : List D → R D) : J.Env → Out := (retO (tupF (argV (rdM 4) (argV (callF rec_ [(0, 0)] (argR 0 (argV (rdF 3) (argV (rdF 2) args0)))) args0))))
def bk_Ltree_1 (rec_ : List D → R D) : J.Env → Out := (seqO (asgO (callF rec_ [(0, 0)] (argR 0 (argV (rdF 1) (argV (rdF 3) args0)))) (setG 4)) (bk_Ltree_0 rec_))
def bk_Ltree_2 (rec_ : List D → R D) : J.Env → Out := (seqO (asgO (lift2 addD (lift2 addD (rdF 1) (okC (.int 1))) (callF run_Ldraw [(0, 0)] (argR 0 (argV (lift2 subD (lift2 subD (rdF 2) (rdF 1)) (okC (.int 1))) args0)))) (setG 3)) (bk_Ltree_1 rec_))
def bk_Ltree_3 (rec_ : List D → R D) : J.Env → Out := (seqO (ifO (asB (lift2 eqW (lift2 subD (rdF 2) (rdF 1)) (okC (.int 1)))) (retO (rdF 1)) nilO) (bk_Ltree_2 rec_))
def run_Ltree : Nat → List D → R D
  | 0 => fun _ => .no
  | d_ + 1 => defF 3 [0, 1, 2] 2
    (bk_Ltree_3 (run_Ltree d_))
theorem pu_Ltree : ∀ d, Pure 3 (run_Ltree d)
  | 0 => Pure.no
  | d + 1 => Pure.defF
theorem ok_Ltree {f : Addr} {fd : FuncData} (F : Fun K "_law_tree" "_law_tree" s_Ltree f fd) (gF : mg "_law_tree" = some (.ref f)) (kF : PySem.W.keepIn K (.ref f) = true) (bF : Binds K fd P_Ltree []) (B : Bi mg) (c_Ldraw : CalU P w K mg base C "_law_draw" 1 P_Ldraw 2 run_Ldraw) : ∀ d_, FnU P w K mg base (2 + d_) f fd P_Ltree (spP K C 3 (run_Ltree d_)) := by
  intro d_
  induction d_ with
  | zero => exact FnU.no rfl
  | succ d_ ih =>
  let c_Ltree : CalU P w K mg base C "_law_tree" (2 + d_) P_Ltree 3 (run_Ltree d_) := ⟨f, fd, ih, gF, kF, bF, pu_Ltree d_⟩
  refine okP (k := 2 + d_) F sc_Ltree rfl rfl (by decide) fun cdv A outer s H E hG hr => ?_
  have tk : Takes (cxOf (L2.CX P w) P w K mg base N_Ltree "_law_tree" (defScope s_Ltree) f cdv A outer s H E) (fun cls d _ H => E cls d H) := takes_of rfl rfl rfl rfl
  exact (st_seq (s_if (t_cmp (op_or (op_eqD hr.units) (op_eqX (room65 hr))) (p_or p_eqD p_eqX) (q_sub (q_name (pv 2)) (q_name (pv 1))) (q_c (.int _) pe_int) (nomark _)) (st_one (s_ret (q_name (pv 1)))) st_nil)
      (st_seq (z_set (by decide) (ps_set (i := 3) sc_Ltree.nd rfl (Or.inl rfl) (q_add (q_add (q_name (pv 1)) (q_c (.int _) pe_int)) (z_call c_Ldraw.pu (AL.ref (AL.val AL.nil)) (pe_callU c_Ldraw.ok hG (hr.mono (by omega)) (by rfl) c_Ldraw.g c_Ldraw.kp c_Ldraw.b .nil tk (z_ar (pa_cons (pv 0) (z_av (pa_cons (q_sub (q_sub (q_name (pv 2)) (q_name (pv 1))) (q_c (.int _) pe_int)) a_nil)))))))))
      (st_seq (z_set (by decide) (ps_set (i := 4) sc_Ltree.nd rfl (Or.inl rfl) (z_call c_Ltree.pu (AL.ref (AL.val (AL.val AL.nil))) (pe_callU c_Ltree.ok hG (hr.mono (by omega)) (by rfl) c_Ltree.g c_Ltree.kp c_Ltree.b .nil tk (z_ar (pa_cons (pv 0) (z_av (pa_cons (q_name (pv 1)) (z_av (pa_cons (q_name (pv 3)) a_nil))))))))))
      (st_one (s_ret (z_tup (pe_tup (z_av (pa_cons (q_move (pv 4)) (z_av (pa_cons (z_call c_Ltree.pu (AL.ref (AL.val (AL.val AL.nil))) (pe_callU c_Ltree.ok hG (hr.mono (by omega)) (by rfl) c_Ltree.g c_Ltree.kp c_Ltree.b .nil tk (z_ar (pa_cons (pv 0) (z_av (pa_cons (q_name (pv 3)) (z_av (pa_cons (q_name (pv 2)) a_nil)))))))) a_nil)))))))))))
theorem ws_Ltree : ∀ (d_ : Nat) (ds : List D) (Q : D → J.Env → Prop) (X : XQ), Wr (run_Ltree (d_ + 1) ds) Q X ↔ Wo ((bk_Ltree_3 (run_Ltree d_)) (ds.map some ++ List.replicate 2 none)) (defQ 3 [0, 1, 2] Q X) := fun _ _ _ _ => wz_def
theorem wb_Ltree : (∀ (rec_ : List D → R D) (env : J.Env) (Q : Out → Prop), Wo ((bk_Ltree_0 rec_) env) Q ↔ Wo ((retO (tupF (argV (rdM 4) (argV (callF rec_ [(0, 0)] (argR 0 (argV (rdF 3) (argV (rdF 2) args0)))) args0)))) env) Q)
  ∧ (∀ (rec_ : List D → R D) (env : J.Env) (Q : Out → Prop), Wo ((bk_Ltree_1 rec_) env) Q ↔ Wo ((seqO (asgO (callF rec_ [(0, 0)] (argR 0 (argV (rdF 1) (argV (rdF 3) args0)))) (setG 4)) (bk_Ltree_0 rec_)) env) Q)
  ∧ (∀ (rec_ : List D → R D) (env : J.Env) (Q : Out → Prop), Wo ((bk_Ltree_2 rec_) env) Q ↔ Wo ((seqO (asgO (lift2 addD (lift2 addD (rdF 1) (okC (.int 1))) (callF run_Ldraw [(0, 0)] (argR 0 (argV (lift2 subD (lift2 subD (rdF 2) (rdF 1)) (okC (.int 1))) args0)))) (setG 3)) (bk_Ltree_1 rec_)) env) Q)
  ∧ (∀ (rec_ : List D → R D) (env : J.Env) (Q : Out → Prop), Wo ((bk_Ltree_3 rec_) env) Q ↔ Wo ((seqO (ifO (asB (lift2 eqW (lift2 subD (rdF 2) (rdF 1)) (okC (.int 1)))) (retO (rdF 1)) nilO) (bk_Ltree_2 rec_)) env) Q)
  ∧ (∀ e : J.Env, outsOf 3 [0, 1, 2] e = [(e[0]?).join, (e[1]?).join, (e[2]?).join]) := ⟨fun _ _ _ => Iff.rfl, fun _ _ _ => Iff.rfl, fun _ _ _ => Iff.rfl, fun _ _ _ => Iff.rfl, fun _ => rfl⟩
end
section
variable {P : Program} {w : World} {K : PySem.W.Frag} {mg : Str → Option Value} {base : Heap} {C : CT}
abbrev s_Lleaves : Stmt := topS 31
abbrev N_Lleaves : List Str := ["_law_tree_here"]
abbrev P_Lleaves : List Str := ["_law_tree_here"]
theorem sc_Lleaves : FnScope N_Lleaves P_Lleaves (defScope s_Lleaves) := ⟨rfl, rfl, rfl, by decide +kernel, rfl, by decide +kernel, by decide +kernel⟩
def bk_Lleaves_0 (rec_ : List D → R D) : J.Env → Out := (retO (lift2 addD (callF rec_ [] (argV (lift2 ixF (rdF 0) (okC (.int 0))) args0)) (callF rec_ [] (argV (lift2 ixF (rdF 0) (okC (.int 1))) args0))))
def bk_Lleaves_1 (rec_ : List D → R D) : J.Env → Out := (retO (lstF (argV (rdF 0) args0)))
def bk_Lleaves_2 (rec_ : List D → R D) : J.Env → Out := (seqO (ifO (asB (lift1 (isiD "tuple") (rdF 0))) (bk_Lleaves_0 rec_) nilO) (bk_Lleaves_1 rec_))
def run_Lleaves : Nat → List D → R D
  | 0 => fun _ => .no
  | d_ + 1 => defF 1 [0] 0
    (bk_Lleaves_2 (run_Lleaves d_))
theorem pu_Lleaves : ∀ d, Pure 1 (run_Lleaves d)
  | 0 => Pure.no
  | d + 1 => Pure.defF
theorem ok_Lleaves {f : Addr} {fd : FuncData} (F : Fun K "_law_leaves" "_law_leaves" s_Lleaves f fd) (gF : mg "_law_leaves" = some (.ref f)) (kF : PySem.W.keepIn K (.ref f) = true) (bF : Binds K fd P_Lleaves []) (B : Bi mg)  : ∀ d_, FnU P w K mg base (1 + d_) f fd P_Lleaves (spP K C 1 (run_Lleaves d_)) := by
  intro d_
  induction d_ with
  | zero => exact FnU.no rfl
  | succ d_ ih =>
  let c_Lleaves : CalU P w K mg base C "_law_leaves" (1 + d_) P_Lleaves 1 (run_Lleaves d_) := ⟨f, fd, ih, gF, kF, bF, pu_Lleaves d_⟩
  refine okP (k := 1 + d_) F sc_Lleaves rfl rfl (by decide) fun cdv A outer s H E hG hr => ?_
  have tk : Takes (cxOf (L2.CX P w) P w K mg base N_Lleaves "_law_leaves" (defScope s_Lleaves) f cdv A outer s H E) (fun cls d _ H => E cls d H) := takes_of rfl rfl rfl rfl
  exact (st_seq (s_if (t_val (z_isi (by decide) (pe_callB (id := "isinstance") call_isi (by rfl) B.n_isinstance (by decide +kernel) (pa_cons (q_name (pv 0)) (pa_cons (pe_bltn (by rfl) B.n_tuple (by decide +kernel) (v := .ty "tuple") rfl) pa_nil))))) (st_one (s_ret (q_add (z_call c_Lleaves.pu (AL.val AL.nil) (pe_callU c_Lleaves.ok hG (hr.mono (by omega)) (by rfl) c_Lleaves.g c_Lleaves.kp c_Lleaves.b .nil tk (z_av (pa_cons (q_ix (q_name (pv 0)) (q_c (.int _) pe_int) (fun _ _ => rfl)) a_nil)))) (z_call c_Lleaves.pu (AL.val AL.nil) (pe_callU c_Lleaves.ok hG (hr.mono (by omega)) (by rfl) c_Lleaves.g c_Lleaves.kp c_Lleaves.b .nil tk (z_av (pa_cons (q_ix (q_name (pv 0)) (q_c (.int _) pe_int) (fun _ _ => rfl)) a_nil))))))) st_nil)
      (st_one (s_ret (z_lst (pe_lst (z_av (pa_cons (q_name (pv 0)) a_nil)))))))
theorem ws_Lleaves : ∀ (d_ : Nat) (ds : List D) (Q : D → J.Env → Prop) (X : XQ), Wr (run_Lleaves (d_ + 1) ds) Q X ↔ Wo ((bk_Lleaves_2 (run_Lleaves d_)) (ds.map some ++ List.replicate 0 none)) (defQ 1 [0] Q X) := fun _ _ _ _ => wz_def
theorem wb_Lleaves : (∀ (rec_ : List D → R D) (env : J.Env) (Q : Out → Prop), Wo ((bk_Lleaves_0 rec_) env) Q ↔ Wo ((retO (lift2 addD (callF rec_ [] (argV (lift2 ixF (rdF 0) (okC (.int 0))) args0)) (callF rec_ [] (argV (lift2 ixF (rdF 0) (okC (.int 1))) args0)))) env) Q)
  ∧ (∀ (rec_ : List D → R D) (env : J.Env) (Q : Out → Prop), Wo ((bk_Lleaves_1 rec_) env) Q ↔ Wo ((retO (lstF (argV (rdF 0) args0))) env) Q)
  ∧ (∀ (rec_ : List D → R D) (env : J.Env) (Q : Out → Prop), Wo ((bk_Lleaves_2 rec_) env) Q ↔ Wo ((seqO (ifO (asB (lift1 (isiD "tuple") (rdF 0))) (bk_Lleaves_0 rec_) nilO) (bk_Lleaves_1 rec_)) env) Q)
  ∧ (∀ e : J.Env, outsOf 1 [0] e = [(e[0]?).join]) := ⟨fun _ _ _ => Iff.rfl, fun _ _ _ => Iff.rfl, fun _ _ _ => Iff.rfl, fun _ => rfl⟩
end
section
variable {P : Program} {w : World} {K : PySem.W.Frag} {mg : Str → Option Value} {base : Heap} {C : CT}
abbrev s_Lturned : Stmt := topS 32
abbrev N_Lturned : List Str := ["_law_tree_here", "_law_found", "_law_left", "_law_right", "_law_other"]
abbrev P_Lturned : List Str := ["_law_tree_here"]
theorem sc_Lturned : FnScope N_Lturned P_Lturned (defScope s_Lturned) := ⟨rfl, rfl, rfl, by decide +kernel, rfl, by decide +kernel, by decide +kernel⟩
def bk_Lturned_0 (rec_ : List D → R D) : J.Env → Out := (appO 1 (tupF (argV (lift2 ixF (rdF 2) (okC (.int 0))) (argV (tupF (argV (lift2 ixF (rdF 2) (okC (.int 1))) (argV (rdF 3) args0))) args0))))
def bk_Lturned_1 (rec_ : List D → R D) : J.Env → Out := (appO 1 (tupF (argV (tupF (argV (rdF 2) (argV (lift2 ixF (rdF 3) (okC (.int 0))) args0))) (argV (lift2 ixF (rdF 3) (okC (.int 1))) args0))))
def bk_Lturned_2 (rec_ : List D → R D) : J.Env → Out := (retO (lift2 addD (rdF 1) (compO (lstI (callF rec_ [] (argV (rdF 3) args0))) (setG 4) yesB (tupF (argV (rdF 2) (argV (rdF 4) args0))) [4])))
def bk_Lturned_3 (rec_ : List D → R D) : J.Env → Out := (seqO (asgO (lift2 addD (rdF 1) (compO (lstI (callF rec_ [] (argV (rdF 2) args0))) (setG 4) yesB (tupF (argV (rdF 4) (argV (rdF 3) args0))) [4])) (setG 1)) (bk_Lturned_2 rec_))
def bk_Lturned_4 (rec_ : List D → R D) : J.Env → Out := (seqO (ifO (asB (lift1 (isiD "tuple") (rdF 3))) (bk_Lturned_1 rec_) nilO) (bk_Lturned_3 rec_))
def bk_Lturned_5 (rec_ : List D → R D) : J.Env → Out := (seqO (ifO (asB (lift1 (isiD "tuple") (rdF 2))) (bk_Lturned_0 rec_) nilO) (bk_Lturned_4 rec_))
def bk_Lturned_6 (rec_ : List D → R D) : J.Env → Out := (seqO (asgO (lstF args0) (setG 1)) (bk_Lturned_5 rec_))
def bk_Lturned_7 (rec_ : List D → R D) : J.Env → Out := (seqO (asgO (rdF 0) (tupG 2 (consG (setG 2) (consG (setG 3) nilG)))) (bk_Lturned_6 rec_))
def bk_Lturned_8 (rec_ : List D → R D) : J.Env → Out := (seqO (ifO (notB (asB (lift1 (isiD "tuple") (rdF 0)))) (retO (lstF args0)) nilO) (bk_Lturned_7 rec_))
def run_Lturned : Nat → List D → R D
  | 0 => fun _ => .no
  | d_ + 1 => defF 1 [0] 4
    (bk_Lturned_8 (run_Lturned d_))
theorem pu_Lturned : ∀ d, Pure 1 (run_Lturned d)
  | 0 => Pure.no
  | d + 1 => Pure.defF
theorem ok_Lturned {f : Addr} {fd : FuncData} (F : Fun K "_law_turned" "_law_turned" s_Lturned f fd) (gF : mg "_law_turned" = some (.ref f)) (kF : PySem.W.keepIn K (.ref f) = true) (bF : Binds K fd P_Lturned []) (B : Bi mg)  : ∀ d_, FnU P w K mg base (1 + d_) f fd P_Lturned (spP K C 1 (run_Lturned d_)) := by
  intro d_
  induction d_ with
  | zero => exact FnU.no rfl
  | succ d_ ih =>
  let c_Lturned : CalU P w K mg base C "_law_turned" (1 + d_) P_Lturned 1 (run_Lturned d_) := ⟨f, fd, ih, gF, kF, bF, pu_Lturned d_⟩
  refine okP (k := 1 + d_) F sc_Lturned rfl rfl (by decide) fun cdv A outer s H E hG hr => ?_
  have tk : Takes (cxOf (L2.CX P w) P w K mg base N_Lturned "_law_turned" (defScope s_Lturned) f cdv A outer s H E) (fun cls d _ H => E cls d H) := takes_of rfl rfl rfl rfl
  exact (st_seq (s_if (t_not (t_val (z_isi (by decide) (pe_callB (id := "isinstance") call_isi (by rfl) B.n_isinstance (by decide +kernel) (pa_cons (q_name (pv 0)) (pa_cons (pe_bltn (by rfl) B.n_tuple (by decide +kernel) (v := .ty "tuple") rfl) pa_nil)))))) (st_one (s_ret (z_lst (pe_lst a_nil)))) st_nil)
      (st_seq (z_asg (ps_asg (q_name (pv 0)) (z_gtup (pg_tup rfl (z_gcons (pgs_cons (g_name (by decide) (pg_name (i := 2) sc_Lturned.nd rfl (Or.inr rfl))) (z_gcons (pgs_cons (g_name (by decide) (pg_name (i := 3) sc_Lturned.nd rfl (Or.inr rfl))) gs_nil))))))))
      (st_seq (z_set (by decide) (ps_set (i := 1) sc_Lturned.nd rfl (Or.inl rfl) (z_lst (pe_lst a_nil))))
      (st_seq (s_if (t_val (z_isi (by decide) (pe_callB (id := "isinstance") call_isi (by rfl) B.n_isinstance (by decide +kernel) (pa_cons (q_name (pv 2)) (pa_cons (pe_bltn (by rfl) B.n_tuple (by decide +kernel) (v := .ty "tuple") rfl) pa_nil))))) (st_one (z_app (ps_expr (pe_bm PySem.F.plainAttrs_list PySem.F.slot_list_append PySem.F.type_list_append mt_append (pv 1) (pa_cons (z_tup (pe_tup (z_av (pa_cons (q_ix (q_name (pv 2)) (q_c (.int _) pe_int) (fun _ _ => rfl)) (z_av (pa_cons (z_tup (pe_tup (z_av (pa_cons (q_ix (q_name (pv 2)) (q_c (.int _) pe_int) (fun _ _ => rfl)) (z_av (pa_cons (q_name (pv 3)) a_nil)))))) a_nil)))))) pa_nil))))) st_nil)
      (st_seq (s_if (t_val (z_isi (by decide) (pe_callB (id := "isinstance") call_isi (by rfl) B.n_isinstance (by decide +kernel) (pa_cons (q_name (pv 3)) (pa_cons (pe_bltn (by rfl) B.n_tuple (by decide +kernel) (v := .ty "tuple") rfl) pa_nil))))) (st_one (z_app (ps_expr (pe_bm PySem.F.plainAttrs_list PySem.F.slot_list_append PySem.F.type_list_append mt_append (pv 1) (pa_cons (z_tup (pe_tup (z_av (pa_cons (z_tup (pe_tup (z_av (pa_cons (q_name (pv 2)) (z_av (pa_cons (q_ix (q_name (pv 3)) (q_c (.int _) pe_int) (fun _ _ => rfl)) a_nil)))))) (z_av (pa_cons (q_ix (q_name (pv 3)) (q_c (.int _) pe_int) (fun _ _ => rfl)) a_nil)))))) pa_nil))))) st_nil)
      (st_seq (z_set (by decide) (ps_set (i := 1) sc_Lturned.nd rfl (Or.inl rfl) (q_add (q_name (pv 1)) (z_lc 5 rfl (kp := [0, 1, 2, 3]) (by decide) GL.set (pe_lc (own := [("_law_other", 4)]) rfl sc_Lturned.nd (y_list (z_call c_Lturned.pu (AL.val AL.nil) (pe_callU c_Lturned.ok hG (hr.mono (by omega)) (by rfl) c_Lturned.g c_Lturned.kp c_Lturned.b .nil tk (z_av (pa_cons (q_name (pv 2)) a_nil))))) (blkOk_by (own := [("_law_other", 4)]) (N := N_Lturned) (sc := defScope s_Lturned) (by decide +kernel)) (fun _ _ _ _ _ => (g_name (by decide) (pg_name (i := 4) sc_Lturned.nd rfl (Or.inl rfl)))) (fun _ _ _ _ _ => z_pt0) (fun _ _ _ _ _ => (z_tup (pe_tup (z_av (pa_cons (q_name (pv 4)) (z_av (pa_cons (q_name (pv 3)) a_nil))))))))))))
      (st_one (s_ret (q_add (q_name (pv 1)) (z_lc 5 rfl (kp := [0, 1, 2, 3]) (by decide) GL.set (pe_lc (own := [("_law_other", 4)]) rfl sc_Lturned.nd (y_list (z_call c_Lturned.pu (AL.val AL.nil) (pe_callU c_Lturned.ok hG (hr.mono (by omega)) (by rfl) c_Lturned.g c_Lturned.kp c_Lturned.b .nil tk (z_av (pa_cons (q_name (pv 3)) a_nil))))) (blkOk_by (own := [("_law_other", 4)]) (N := N_Lturned) (sc := defScope s_Lturned) (by decide +kernel)) (fun _ _ _ _ _ => (g_name (by decide) (pg_name (i := 4) sc_Lturned.nd rfl (Or.inl rfl)))) (fun _ _ _ _ _ => z_pt0) (fun _ _ _ _ _ => (z_tup (pe_tup (z_av (pa_cons (q_name (pv 2)) (z_av (pa_cons (q_name (pv 4)) a_nil))))))))))))))))))
theorem ws_Lturned : ∀ (d_ : Nat) (ds : List D) (Q : D → J.Env → Prop) (X : XQ), Wr (run_Lturned (d_ + 1) ds) Q X ↔ Wo ((bk_Lturned_8 (run_Lturned d_)) (ds.map some ++ List.replicate 4 none)) (defQ 1 [0] Q X) := fun _ _ _ _ => wz_def
theorem wb_Lturned : (∀ (rec_ : List D → R D) (env : J.Env) (Q : Out → Prop), Wo ((bk_Lturned_0 rec_) env) Q ↔ Wo ((appO 1 (tupF (argV (lift2 ixF (rdF 2) (okC (.int 0))) (argV (tupF (argV (lift2 ixF (rdF 2) (okC (.int 1))) (argV (rdF 3) args0))) args0)))) env) Q)
  ∧ (∀ (rec_ : List D → R D) (env : J.Env) (Q : Out → Prop), Wo ((bk_Lturned_1 rec_) env) Q ↔ Wo ((appO 1 (tupF (argV (tupF (argV (rdF 2) (argV (lift2 ixF (rdF 3) (okC (.int 0))) args0))) (argV (lift2 ixF (rdF 3) (okC (.int 1))) args0)))) env) Q)
  ∧ (∀ (rec_ : List D → R D) (env : J.Env) (Q : Out → Prop), Wo ((bk_Lturned_2 rec_) env) Q ↔ Wo ((retO (lift2 addD (rdF 1) (compO (lstI (callF rec_ [] (argV (rdF 3) args0))) (setG 4) yesB (tupF (argV (rdF 2) (argV (rdF 4) args0))) [4]))) env) Q)
  ∧ (∀ (rec_ : List D → R D) (env : J.Env) (Q : Out → Prop), Wo ((bk_Lturned_3 rec_) env) Q ↔ Wo ((seqO (asgO (lift2 addD (rdF 1) (compO (lstI (callF rec_ [] (argV (rdF 2) args0))) (setG 4) yesB (tupF (argV (rdF 4) (argV (rdF 3) args0))) [4])) (setG 1)) (bk_Lturned_2 rec_)) env) Q)
  ∧ (∀ (rec_ : List D → R D) (env : J.Env) (Q : Out → Prop), Wo ((bk_Lturned_4 rec_) env) Q ↔ Wo ((seqO (ifO (asB (lift1 (isiD "tuple") (rdF 3))) (bk_Lturned_1 rec_) nilO) (bk_Lturned_3 rec_)) env) Q)
  ∧ (∀ (rec_ : List D → R D) (env : J.Env) (Q : Out → Prop), Wo ((bk_Lturned_5 rec_) env) Q ↔ Wo ((seqO (ifO (asB (lift1 (isiD "tuple") (rdF 2))) (bk_Lturned_0 rec_) nilO) (bk_Lturned_4 rec_)) env) Q)
  ∧ (∀ (rec_ : List D → R D) (env : J.Env) (Q : Out → Prop), Wo ((bk_Lturned_6 rec_) env) Q ↔ Wo ((seqO (asgO (lstF args0) (setG 1)) (bk_Lturned_5 rec_)) env) Q)
  ∧ (∀ (rec_ : List D → R D) (env : J.Env) (Q : Out → Prop), Wo ((bk_Lturned_7 rec_) env) Q ↔ Wo ((seqO (asgO (rdF 0) (tupG 2 (consG (setG 2) (consG (setG 3) nilG)))) (bk_Lturned_6 rec_)) env) Q)
  ∧ (∀ (rec_ : List D → R D) (env : J.Env) (Q : Out → Prop), Wo ((bk_Lturned_8 rec_) env) Q ↔ Wo ((seqO (ifO (notB (asB (lift1 (isiD "tuple") (rdF 0)))) (retO (lstF args0)) nilO) (bk_Lturned_7 rec_)) env) Q)
  ∧ (∀ e : J.Env, outsOf 1 [0] e = [(e[0]?).join]) := ⟨fun _ _ _ => Iff.rfl, fun _ _ _ => Iff.rfl, fun _ _ _ => Iff.rfl, fun _ _ _ => Iff.rfl, fun _ _ _ => Iff.rfl, fun _ _ _ => Iff.rfl, fun _ _ _ => Iff.rfl, fun _ _ _ => Iff.rfl, fun _ _ _ => Iff.rfl, fun _ => rfl⟩
end
section
variable {P : Program} {w : World} {K : PySem.W.Frag} {mg : Str → Option Value} {base : Heap} {C : CT}
abbrev s_Lpairs_in : Stmt := topS 33
abbrev N_Lpairs_in : List Str := ["_law_tree_here"]
abbrev P_Lpairs_in : List Str := ["_law_tree_here"]
theorem sc_Lpairs_in : FnScope N_Lpairs_in P_Lpairs_in (defScope s_Lpairs_in) := ⟨rfl, rfl, rfl, by decide +kernel, rfl, by decide +kernel, by decide +kernel⟩
def bk_Lpairs_in_0 : J.Env → Out := (retO (lift2 subD (lift1 lenD (callF (run_Lleaves 12) [] (argV (rdF 0) args0))) (okC (.int 1))))
def run_Lpairs_in : List D → R D := defF 1 [0] 0
    bk_Lpairs_in_0
theorem ok_Lpairs_in {f : Addr} {fd : FuncData} (F : Fun K "_law_pairs_in" "_law_pairs_in" s_Lpairs_in f fd) (B : Bi mg) (c_Lleaves : CalU P w K mg base C "_law_leaves" (1 + 12) P_Lleaves 1 (run_Lleaves 12)) : FnU P w K mg base 14 f fd P_Lpairs_in (spP K C 1 run_Lpairs_in) := by
  refine okP F sc_Lpairs_in rfl rfl (by decide) fun cdv A outer s H E hG hr => ?_
  have tk : Takes (cxOf (L2.CX P w) P w K mg base N_Lpairs_in "_law_pairs_in" (defScope s_Lpairs_in) f cdv A outer s H E) (fun cls d _ H => E cls d H) := takes_of rfl rfl rfl rfl
  exact (st_one (s_ret (q_sub (z_len (pe_callB (id := "len") call_len (by rfl) B.n_len (by decide +kernel) (pa_cons (z_call c_Lleaves.pu (AL.val AL.nil) (pe_callU c_Lleaves.ok hG (hr.mono (by decide)) (by rfl) c_Lleaves.g c_Lleaves.kp c_Lleaves.b .nil tk (z_av (pa_cons (q_name (pv 0)) a_nil)))) pa_nil))) (q_c (.int _) pe_int))))
theorem ws_Lpairs_in : ∀ (ds : List D) (Q : D → J.Env → Prop) (X : XQ), Wr (run_Lpairs_in ds) Q X ↔ Wo (bk_Lpairs_in_0 (ds.map some ++ List.replicate 0 none)) (defQ 1 [0] Q X) := fun _ _ _ => wz_def
theorem wb_Lpairs_in : (∀ (env : J.Env) (Q : Out → Prop), Wo (bk_Lpairs_in_0 env) Q ↔ Wo ((retO (lift2 subD (lift1 lenD (callF (run_Lleaves 12) [] (argV (rdF 0) args0))) (okC (.int 1)))) env) Q)
  ∧ (∀ e : J.Env, outsOf 1 [0] e = [(e[0]?).join]) := ⟨fun _ _ => Iff.rfl, fun _ => rfl⟩
end
section
variable {P : Program} {w : World} {K : PySem.W.Frag} {mg : Str → Option Value} {base : Heap} {C : CT}
abbrev s_Llink_right : Stmt := topS 34
abbrev N_Llink_right : List Str := ["_law_one_here", "_law_other", "_law_link", "_law_k"]
abbrev P_Llink_right : List Str := ["_law_one_here", "_law_other", "_law_link"]
theorem sc_Llink_right : FnScope N_Llink_right P_Llink_right (defScope s_Llink_right) := ⟨rfl, rfl, rfl, by decide +kernel, rfl, by decide +kernel, by decide +kernel⟩
def bk_Llink_right_0 : J.Env → Out := (ifO (orB (asB (lift2 notInLW (lift2 ixF (rdF 2) (rdF 3)) (callF (run_Lturned 12) [] (argV (lift2 ixF (rdF 2) (lift2 subD (rdF 3) (okC (.int 1)))) args0)))) (notB (asB (callF run_is_tree [] (argV (lift2 ixF (rdF 2) (rdF 3)) args0))))) (retO (okC (.bl false))) nilO)
abbrev lb_Llink_right_0 : J.Env → Out := bk_Llink_right_0
def bk_Llink_right_1 : J.Env → Out := (retO (lift2 eqW (lift1 lenSetW (rdF 2)) (lift1 lenD (rdF 2))))
def bk_Llink_right_2 : J.Env → Out := (seqO (forO (rng2I (argV (okC (.int 1)) (argV (lift1 lenD (rdF 2)) args0))) (setG 3) lb_Llink_right_0) bk_Llink_right_1)
def bk_Llink_right_3 : J.Env → Out := (seqO (ifO (orB (notB (asB (lift1 (isiD "list") (rdF 2)))) (orB (asB (lift2 neW (lift2 ixF (rdF 2) (okC (.int 0))) (rdF 0))) (asB (lift2 neW (lift2 ixF (rdF 2) (lift1 negD (okC (.int 1)))) (rdF 1))))) (retO (okC (.bl false))) nilO) bk_Llink_right_2)
def run_Llink_right : List D → R D := defF 3 [0, 1, 2] 1
    bk_Llink_right_3
theorem ok_Llink_right {f : Addr} {fd : FuncData} (F : Fun K "_law_link_right" "_law_link_right" s_Llink_right f fd) (B : Bi mg) (c_Lturned : CalU P w K mg base C "_law_turned" (1 + 12) P_Lturned 1 (run_Lturned 12)) (c_is_tree : CalU P w K mg base C "is_tree" 3 P_is_tree 1 run_is_tree) : FnU P w K mg base 14 f fd P_Llink_right (spP K C 3 run_Llink_right) := by
  refine okP F sc_Llink_right rfl rfl (by decide) fun cdv A outer s H E hG hr => ?_
  have tk : Takes (cxOf (L2.CX P w) P w K mg base N_Llink_right "_law_link_right" (defScope s_Llink_right) f cdv A outer s H E) (fun cls d _ H => E cls d H) := takes_of rfl rfl rfl rfl
  exact (st_seq (s_if (PW.pt (w_or (t_not (t_val (z_isi (by decide) (pe_callB (id := "isinstance") call_isi (by rfl) B.n_isinstance (by decide +kernel) (pa_cons (q_name (pv 2)) (pa_cons (pe_bltn (by rfl) B.n_list (by decide +kernel) (v := .ty "list") rfl) pa_nil)))))) (w_or (t_cmp (op_or (op_neD hr.units) op_neS) (p_or p_neD p_neS) (q_ix (q_name (pv 2)) (q_c (.int _) pe_int) (fun _ _ => rfl)) (q_name (pv 0)) (nomark _)) (w_or1 (t_cmp (op_or (op_neD hr.units) op_neS) (p_or p_neD p_neS) (q_ix (q_name (pv 2)) (q_neg (q_c (.int _) pe_int)) (fun _ _ => rfl)) (q_name (pv 1)) (nomark _)))))) (st_one (s_ret (q_c (.bl _) pe_bl))) st_nil)
      (st_seq (z_for (ps_for (passes_of rfl) rfl (z_rng2 (pi_range2 (by rfl) B.n_range (z_av (pa_cons (q_c (.int _) pe_int) (z_av (pa_cons (z_len (pe_callB (id := "len") call_len (by rfl) B.n_len (by decide +kernel) (pa_cons (q_name (pv 2)) pa_nil))) a_nil)))))) (g_name (by decide) (pg_name (i := 3) sc_Llink_right.nd rfl (Or.inl rfl))) (st_one (s_if (PW.pt (w_or (t_cmp (op_or (op_notInD (room65 hr)) (op_notInX (room65 hr))) (p_or p_notInL p_inX) (q_ix (q_name (pv 2)) (q_name (pv 3)) (fun _ _ => rfl)) (z_call c_Lturned.pu (AL.val AL.nil) (pe_callU c_Lturned.ok hG (hr.mono (by decide)) (by rfl) c_Lturned.g c_Lturned.kp c_Lturned.b .nil tk (z_av (pa_cons (q_ix (q_name (pv 2)) (q_sub (q_name (pv 3)) (q_c (.int _) pe_int)) (fun _ _ => rfl)) a_nil)))) rfl) (w_or1 (t_not (t_val (z_call c_is_tree.pu (AL.val AL.nil) (pe_callU c_is_tree.ok hG (hr.mono (by decide)) (by rfl) c_is_tree.g c_is_tree.kp c_is_tree.b .nil tk (z_av (pa_cons (q_ix (q_name (pv 2)) (q_name (pv 3)) (fun _ _ => rfl)) a_nil))))))))) (st_one (s_ret (q_c (.bl _) pe_bl))) st_nil))))
      (st_one (s_ret (q_cmp (op_or (op_eqD hr.units) (op_eqX (room65 hr))) (p_or p_eqD p_eqX) (z_lenSetW (z_cb1 p_lenSetI (pe_lenSetN rfl (by rfl) B.n_len (by rfl) B.n_set (q_name (pv 2)))) (z_lenSetK (pe_callB (id := "len") cr_lenK (by rfl) B.n_len (by decide +kernel) (pa_cons (pe_callTy (T := "set") (cr_setOfK rfl hr.units) (by rfl) B.n_set (by decide +kernel) (pa_cons (q_name (pv 2)) pa_nil)) pa_nil)))) (z_len (pe_callB (id := "len") call_len (by rfl) B.n_len (by decide +kernel) (pa_cons (q_name (pv 2)) pa_nil))) (nomark _))))))
theorem ws_Llink_right : ∀ (ds : List D) (Q : D → J.Env → Prop) (X : XQ), Wr (run_Llink_right ds) Q X ↔ Wo (bk_Llink_right_3 (ds.map some ++ List.replicate 1 none)) (defQ 3 [0, 1, 2] Q X) := fun _ _ _ => wz_def
theorem wb_Llink_right : (∀ (env : J.Env) (Q : Out → Prop), Wo (bk_Llink_right_0 env) Q ↔ Wo ((ifO (orB (asB (lift2 notInLW (lift2 ixF (rdF 2) (rdF 3)) (callF (run_Lturned 12) [] (argV (lift2 ixF (rdF 2) (lift2 subD (rdF 3) (okC (.int 1)))) args0)))) (notB (asB (callF run_is_tree [] (argV (lift2 ixF (rdF 2) (rdF 3)) args0))))) (retO (okC (.bl false))) nilO) env) Q)
  ∧ (∀ (env : J.Env) (Q : Out → Prop), Wo (bk_Llink_right_1 env) Q ↔ Wo ((retO (lift2 eqW (lift1 lenSetW (rdF 2)) (lift1 lenD (rdF 2)))) env) Q)
  ∧ (∀ (env : J.Env) (Q : Out → Prop), Wo (bk_Llink_right_2 env) Q ↔ Wo ((seqO (forO (rng2I (argV (okC (.int 1)) (argV (lift1 lenD (rdF 2)) args0))) (setG 3) lb_Llink_right_0) bk_Llink_right_1) env) Q)
  ∧ (∀ (env : J.Env) (Q : Out → Prop), Wo (bk_Llink_right_3 env) Q ↔ Wo ((seqO (ifO (orB (notB (asB (lift1 (isiD "list") (rdF 2)))) (orB (asB (lift2 neW (lift2 ixF (rdF 2) (okC (.int 0))) (rdF 0))) (asB (lift2 neW (lift2 ixF (rdF 2) (lift1 negD (okC (.int 1)))) (rdF 1))))) (retO (okC (.bl false))) nilO) bk_Llink_right_2) env) Q)
  ∧ (∀ e : J.Env, outsOf 3 [0, 1, 2] e = [(e[0]?).join, (e[1]?).join, (e[2]?).join]) := ⟨fun _ _ => Iff.rfl, fun _ _ => Iff.rfl, fun _ _ => Iff.rfl, fun _ _ => Iff.rfl, fun _ => rfl⟩
end
section
variable {P : Program} {w : World} {K : PySem.W.Frag} {mg : Str → Option Value} {base : Heap} {C : CT}
abbrev s_Lclasses_of : Stmt := topS 35
abbrev N_Lclasses_of : List Str := ["_law_e", "_law_kinds"]
abbrev P_Lclasses_of : List Str := ["_law_e"]
theorem sc_Lclasses_of : FnScope N_Lclasses_of P_Lclasses_of (defScope s_Lclasses_of) := ⟨rfl, rfl, rfl, by decide +kernel, rfl, by decide +kernel, by decide +kernel⟩
def bk_Lclasses_of_0 (c_ : Nat) (ns_ : List Str) (ds_ : List D) : J.Env → Out := (retO (lift2 addD (lift2 addD (lift1 (cntB true) (rdF 1)) (lift1 intD (ofB (notB (asB (isxF 0 [(15, true), (18, true)] c_)))))) (lift1 intD (ofB (notB (asB (lift1 (isiD "str") (xfF 0 "why" ns_ ds_))))))))
def bk_Lclasses_of_1 (c_ : Nat) (ns_ : List Str) (ds_ : List D) : J.Env → Out := (seqO (asgO (lift2 addD (rdF 1) (lstF (argV (isxF 0 [(15, false), (18, false)] c_) (argV (isxF 0 [(15, false), (18, false)] c_) (argV (isxF 0 [(15, false), (18, true)] c_) args0))))) (setG 1)) (bk_Lclasses_of_0 c_ ns_ ds_))
def bk_Lclasses_of_2 (c_ : Nat) (ns_ : List Str) (ds_ : List D) : J.Env → Out := (seqO (asgO (lift2 addD (rdF 1) (lstF (argV (isxF 0 [(15, false), (18, false)] c_) (argV (isxF 0 [(15, false), (18, false)] c_) (argV (isxF 0 [(15, true), (18, false)] c_) (argV (isxF 0 [(15, false), (18, false)] c_) args0)))))) (setG 1)) (bk_Lclasses_of_1 c_ ns_ ds_))
def bk_Lclasses_of_3 (c_ : Nat) (ns_ : List Str) (ds_ : List D) : J.Env → Out := (seqO (asgO (lstF (argV (isxF 0 [(15, false), (18, false)] c_) (argV (isxF 0 [(15, false), (18, false)] c_) (argV (isxF 0 [(15, false), (18, false)] c_) (argV (isxF 0 [(15, false), (18, false)] c_) args0))))) (setG 1)) (bk_Lclasses_of_2 c_ ns_ ds_))
def run_Lclasses_of (c_ : Nat) (ns_ : List Str) (ds_ : List D) : List D → R D := defF 1 [0] 1
    (bk_Lclasses_of_3 c_ ns_ ds_)
theorem ok_Lclasses_of {f : Addr} {fd : FuncData} (F : Fun K "_law_classes_of" "_law_classes_of" s_Lclasses_of f fd) (B : Bi mg) (ng_BadModulus : mg "BadModulus" = some (.ref (C 20))) (ki_BadModulus : ∀ (k : Nat) (b : Bool), ([(15, false), (18, false)] : List (Nat × Bool)).lookup k = some b → PySem.W.kitOne K (.ref (C k)) (.ref (C 20)) = some b) (ng_BadOrder : mg "BadOrder" = some (.ref (C 14))) (ki_BadOrder : ∀ (k : Nat) (b : Bool), ([(15, false), (18, false)] : List (Nat × Bool)).lookup k = some b → PySem.W.kitOne K (.ref (C k)) (.ref (C 14)) = some b) (ng_BadReports : mg "BadReports" = some (.ref (C 21))) (ki_BadReports : ∀ (k : Nat) (b : Bool), ([(15, false), (18, false)] : List (Nat × Bool)).lookup k = some b → PySem.W.kitOne K (.ref (C k)) (.ref (C 21)) = some b) (ng_BadRow : mg "BadRow" = some (.ref (C 13))) (ki_BadRow : ∀ (k : Nat) (b : Bool), ([(15, false), (18, false)] : List (Nat × Bool)).lookup k = some b → PySem.W.kitOne K (.ref (C k)) (.ref (C 13)) = some b) (ng_BadStep : mg "BadStep" = some (.ref (C 16))) (ki_BadStep : ∀ (k : Nat) (b : Bool), ([(15, false), (18, false)] : List (Nat × Bool)).lookup k = some b → PySem.W.kitOne K (.ref (C k)) (.ref (C 16)) = some b) (ng_BadTable : mg "BadTable" = some (.ref (C 11))) (ki_BadTable : ∀ (k : Nat) (b : Bool), ([(15, false), (18, false)] : List (Nat × Bool)).lookup k = some b → PySem.W.kitOne K (.ref (C k)) (.ref (C 11)) = some b) (ng_BadTree : mg "BadTree" = some (.ref (C 15))) (ki_BadTree : ∀ (k : Nat) (b : Bool), ([(15, true), (18, false)] : List (Nat × Bool)).lookup k = some b → PySem.W.kitOne K (.ref (C k)) (.ref (C 15)) = some b) (ng_NoKind : mg "NoKind" = some (.ref (C 12))) (ki_NoKind : ∀ (k : Nat) (b : Bool), ([(15, false), (18, false)] : List (Nat × Bool)).lookup k = some b → PySem.W.kitOne K (.ref (C k)) (.ref (C 12)) = some b) (ng_NotFirm : mg "NotFirm" = some (.ref (C 17))) (ki_NotFirm : ∀ (k : Nat) (b : Bool), ([(15, false), (18, false)] : List (Nat × Bool)).lookup k = some b → PySem.W.kitOne K (.ref (C k)) (.ref (C 17)) = some b) (ng_TooLarge : mg "TooLarge" = some (.ref (C 19))) (ki_TooLarge : ∀ (k : Nat) (b : Bool), ([(15, false), (18, false)] : List (Nat × Bool)).lookup k = some b → PySem.W.kitOne K (.ref (C k)) (.ref (C 19)) = some b) (ng_Unlike : mg "Unlike" = some (.ref (C 18))) (ki_Unlike : ∀ (k : Nat) (b : Bool), ([(15, false), (18, true)] : List (Nat × Bool)).lookup k = some b → PySem.W.kitOne K (.ref (C k)) (.ref (C 18)) = some b) (ng_TollError : mg "TollError" = some (.ref (C 10))) (ki_TollError : ∀ (k : Nat) (b : Bool), ([(15, true), (18, true)] : List (Nat × Bool)).lookup k = some b → PySem.W.kitOne K (.ref (C k)) (.ref (C 10)) = some b) : ∀ (z : ZT) (oe : Obj), ZOk K C ["why"] z oe → FnE P w K mg base 1 f fd P_Lclasses_of (z.a, oe) (spP K (C.hold z) 1 (run_Lclasses_of z.c z.ns z.ds)) := by
  intro z oe Z
  refine okPE F sc_Lclasses_of rfl rfl (by decide) fun cdv A outer s H E hr => ?_
  have tk : Takes (L2H.cxH (L2.CX P w) P w K mg base N_Lclasses_of "_law_classes_of" (defScope s_Lclasses_of) f cdv A outer s H E (z.a, oe)) (fun cls d _ H => E cls d H) := takes_of rfl rfl rfl rfl
  exact (st_seq (z_set (by decide) (ps_set (i := 1) sc_Lclasses_of.nd rfl (Or.inl rfl) (z_lst (pe_lst (z_av (pa_cons (q_isP Z (List.mem_cons_self ..) (pv 0) (by rfl) B.n_isinstance (by rfl) ng_BadModulus ki_BadModulus) (z_av (pa_cons (q_isP Z (List.mem_cons_self ..) (pv 0) (by rfl) B.n_isinstance (by rfl) ng_BadOrder ki_BadOrder) (z_av (pa_cons (q_isP Z (List.mem_cons_self ..) (pv 0) (by rfl) B.n_isinstance (by rfl) ng_BadReports ki_BadReports) (z_av (pa_cons (q_isP Z (List.mem_cons_self ..) (pv 0) (by rfl) B.n_isinstance (by rfl) ng_BadRow ki_BadRow) a_nil))))))))))))
      (st_seq (z_set (by decide) (ps_set (i := 1) sc_Lclasses_of.nd rfl (Or.inl rfl) (q_add (q_name (pv 1)) (z_lst (pe_lst (z_av (pa_cons (q_isP Z (List.mem_cons_self ..) (pv 0) (by rfl) B.n_isinstance (by rfl) ng_BadStep ki_BadStep) (z_av (pa_cons (q_isP Z (List.mem_cons_self ..) (pv 0) (by rfl) B.n_isinstance (by rfl) ng_BadTable ki_BadTable) (z_av (pa_cons (q_isP Z (List.mem_cons_self ..) (pv 0) (by rfl) B.n_isinstance (by rfl) ng_BadTree ki_BadTree) (z_av (pa_cons (q_isP Z (List.mem_cons_self ..) (pv 0) (by rfl) B.n_isinstance (by rfl) ng_NoKind ki_NoKind) a_nil)))))))))))))
      (st_seq (z_set (by decide) (ps_set (i := 1) sc_Lclasses_of.nd rfl (Or.inl rfl) (q_add (q_name (pv 1)) (z_lst (pe_lst (z_av (pa_cons (q_isP Z (List.mem_cons_self ..) (pv 0) (by rfl) B.n_isinstance (by rfl) ng_NotFirm ki_NotFirm) (z_av (pa_cons (q_isP Z (List.mem_cons_self ..) (pv 0) (by rfl) B.n_isinstance (by rfl) ng_TooLarge ki_TooLarge) (z_av (pa_cons (q_isP Z (List.mem_cons_self ..) (pv 0) (by rfl) B.n_isinstance (by rfl) ng_Unlike ki_Unlike) a_nil)))))))))))
      (st_one (s_ret (q_add (q_add (z_cnt (pe_bm PySem.F.plainAttrs_list PySem.F.slot_list_count PySem.F.type_list_count (mt_countD (room65H hr :)) (q_name (pv 1)) (pa_cons pe_bl pa_nil))) (z_cb1 p_int (pe_callTy (T := "int") call_int1 (by rfl) B.n_int (by decide +kernel) (pa_cons (v_not (v_ofB (q_isP Z (List.mem_cons_self ..) (pv 0) (by rfl) B.n_isinstance (by rfl) ng_TollError ki_TollError))) pa_nil)))) (z_cb1 p_int (pe_callTy (T := "int") call_int1 (by rfl) B.n_int (by decide +kernel) (pa_cons (v_not (v_ofB (z_isi (by decide) (pe_callB (id := "isinstance") call_isi (by rfl) B.n_isinstance (by decide +kernel) (pa_cons (q_xfP Z (List.mem_cons_self ..) (by simp) (pv 0)) (pa_cons (pe_bltn (by rfl) B.n_str (by decide +kernel) (v := .ty "str") rfl) pa_nil)))))) pa_nil)))))))))
theorem ws_Lclasses_of : ∀ (c_ : Nat) (ns_ : List Str) (ds_ : List D) (ds : List D) (Q : D → J.Env → Prop) (X : XQ), Wr (run_Lclasses_of c_ ns_ ds_ ds) Q X ↔ Wo ((bk_Lclasses_of_3 c_ ns_ ds_) (ds.map some ++ List.replicate 1 none)) (defQ 1 [0] Q X) := fun _ _ _ _ _ _ => wz_def
theorem wb_Lclasses_of : (∀ (c_ : Nat) (ns_ : List Str) (ds_ : List D) (env : J.Env) (Q : Out → Prop), Wo ((bk_Lclasses_of_0 c_ ns_ ds_) env) Q ↔ Wo ((retO (lift2 addD (lift2 addD (lift1 (cntB true) (rdF 1)) (lift1 intD (ofB (notB (asB (isxF 0 [(15, true), (18, true)] c_)))))) (lift1 intD (ofB (notB (asB (lift1 (isiD "str") (xfF 0 "why" ns_ ds_)))))))) env) Q)
  ∧ (∀ (c_ : Nat) (ns_ : List Str) (ds_ : List D) (env : J.Env) (Q : Out → Prop), Wo ((bk_Lclasses_of_1 c_ ns_ ds_) env) Q ↔ Wo ((seqO (asgO (lift2 addD (rdF 1) (lstF (argV (isxF 0 [(15, false), (18, false)] c_) (argV (isxF 0 [(15, false), (18, false)] c_) (argV (isxF 0 [(15, false), (18, true)] c_) args0))))) (setG 1)) (bk_Lclasses_of_0 c_ ns_ ds_)) env) Q)
  ∧ (∀ (c_ : Nat) (ns_ : List Str) (ds_ : List D) (env : J.Env) (Q : Out → Prop), Wo ((bk_Lclasses_of_2 c_ ns_ ds_) env) Q ↔ Wo ((seqO (asgO (lift2 addD (rdF 1) (lstF (argV (isxF 0 [(15, false), (18, false)] c_) (argV (isxF 0 [(15, false), (18, false)] c_) (argV (isxF 0 [(15, true), (18, false)] c_) (argV (isxF 0 [(15, false), (18, false)] c_) args0)))))) (setG 1)) (bk_Lclasses_of_1 c_ ns_ ds_)) env) Q)
  ∧ (∀ (c_ : Nat) (ns_ : List Str) (ds_ : List D) (env : J.Env) (Q : Out → Prop), Wo ((bk_Lclasses_of_3 c_ ns_ ds_) env) Q ↔ Wo ((seqO (asgO (lstF (argV (isxF 0 [(15, false), (18, false)] c_) (argV (isxF 0 [(15, false), (18, false)] c_) (argV (isxF 0 [(15, false), (18, false)] c_) (argV (isxF 0 [(15, false), (18, false)] c_) args0))))) (setG 1)) (bk_Lclasses_of_2 c_ ns_ ds_)) env) Q)
  ∧ (∀ e : J.Env, outsOf 1 [0] e = [(e[0]?).join]) := ⟨fun _ _ _ _ _ => Iff.rfl, fun _ _ _ _ _ => Iff.rfl, fun _ _ _ _ _ => Iff.rfl, fun _ _ _ _ _ => Iff.rfl, fun _ => rfl⟩
end
section
variable {P : Program} {w : World} {K : PySem.W.Frag} {mg : Str → Option Value} {base : Heap} {C : CT}
abbrev s_Lraised : Stmt := topS 36
abbrev N_Lraised : List Str := ["_law_way", "_law_one_here", "_law_other", "_law_e"]
abbrev P_Lraised : List Str := ["_law_way", "_law_one_here", "_law_other"]
theorem sc_Lraised : FnScope N_Lraised P_Lraised (defScope s_Lraised) := ⟨rfl, rfl, rfl, by decide +kernel, rfl, by decide +kernel, by decide +kernel⟩
def bk_Lraised_0 : J.Env → Out := (dropO (callF run_rotations [] (argV (rdF 1) args0)))
def bk_Lraised_1 : J.Env → Out := (dropO (callF run_linked [] (argV (rdF 1) (argV (rdF 2) args0))))
def bk_Lraised_2 : J.Env → Out := (ifO (asB (lift2 eqW (rdF 0) (okC (.int 0)))) bk_Lraised_0 bk_Lraised_1)
def bk_Lraised_3 : J.Env → Out := (seqO (tryAsO [(15, false), (18, true)] 3 (tryAsO [(15, true), (18, false)] 3 bk_Lraised_2 (fun c_ ns_ ds_ => (retO (lift2 ixF (lstF (argV (okC (.str "tree")) (argV (okC (.str "more")) args0))) (lift1 intD (lift2 neW (callF (run_Lclasses_of c_ ns_ ds_) [] (argV (rdF 3) args0)) (okC (.int 1)))))))) (fun c_ ns_ ds_ => (retO (lift2 ixF (lstF (argV (xfF 3 "why" ns_ ds_) (argV (okC (.str "more")) args0))) (lift1 intD (lift2 neW (callF (run_Lclasses_of c_ ns_ ds_) [] (argV (rdF 3) args0)) (okC (.int 1)))))))) (retO (okC .non)))
def run_Lraised : List D → R D := defF 3 [0, 1, 2] 1
    bk_Lraised_3
theorem ok_Lraised {f : Addr} {fd : FuncData} (F : Fun K "_law_raised" "_law_raised" s_Lraised f fd) (B : Bi mg) (c_rotations : CalU P w K mg base C "rotations" 14 P_rotations 1 run_rotations) (c_linked : CalU P w K mg base C "linked" 82 P_linked 2 run_linked) (c_Lclasses_of : CalE P w K mg base C ["why"] "_law_classes_of" 1 P_Lclasses_of 1 run_Lclasses_of) (ec_BadTree : ∀ (k : Nat), ([(15, true), (18, false)] : List (Nat × Bool)).lookup k = some true → ExcC K (C k)) (ec_Unlike : ∀ (k : Nat), ([(15, false), (18, true)] : List (Nat × Bool)).lookup k = some true → ExcC K (C k)) (nx_BadTree : mg "BadTree" = some (.ref (C 15))) (em_BadTree : ∀ (k : Nat) (b : Bool), ([(15, true), (18, false)] : List (Nat × Bool)).lookup k = some b → PySem.W.exmOne K (.ref (C k)) (.ref (C 15)) = some b) (xf_BadTree : ∀ (k : Nat), ([(15, true), (18, false)] : List (Nat × Bool)).lookup k = some true → XfC K (C k) ∧ ∀ f ∈ (["why"] : List Str), PySem.W.findIn K (.ref (C k)) f = some none) (nx_Unlike : mg "Unlike" = some (.ref (C 18))) (em_Unlike : ∀ (k : Nat) (b : Bool), ([(15, false), (18, true)] : List (Nat × Bool)).lookup k = some b → PySem.W.exmOne K (.ref (C k)) (.ref (C 18)) = some b) (xf_Unlike : ∀ (k : Nat), ([(15, false), (18, true)] : List (Nat × Bool)).lookup k = some true → XfC K (C k) ∧ ∀ f ∈ (["why"] : List Str), PySem.W.findIn K (.ref (C k)) f = some none) : FnU P w K mg base 83 f fd P_Lraised (spP K C 3 run_Lraised) := by
  refine okP F sc_Lraised rfl rfl (by decide) fun cdv A outer s H E hG hr => ?_
  have tk : Takes (cxOf (L2.CX P w) P w K mg base N_Lraised "_law_raised" (defScope s_Lraised) f cdv A outer s H E) (fun cls d _ H => E cls d H) := takes_of rfl rfl rfl rfl
  exact (st_seq (z_tryAs2 (i := 3) (i2 := 3) (m := [(15, true), (18, false)]) (m2 := [(15, false), (18, true)]) (ph := fun c_ ns_ ds_ => (retO (lift2 ixF (lstF (argV (okC (.str "tree")) (argV (okC (.str "more")) args0))) (lift1 intD (lift2 neW (callF (run_Lclasses_of c_ ns_ ds_) [] (argV (rdF 3) args0)) (okC (.int 1))))))) (ph2 := fun c_ ns_ ds_ => (retO (lift2 ixF (lstF (argV (xfF 3 "why" ns_ ds_) (argV (okC (.str "more")) args0))) (lift1 intD (lift2 neW (callF (run_Lclasses_of c_ ns_ ds_) [] (argV (rdF 3) args0)) (okC (.int 1))))))) rfl rfl sc_Lraised.nd rfl rfl ⟨rfl, by decide, .inl nx_BadTree⟩ (by decide) rfl rfl ⟨rfl, by decide, .inl nx_Unlike⟩ (by decide) tk em_BadTree em_Unlike (fun W pn xe tk _ => (st_one (s_if (t_cmp (op_or (op_eqD hr.units) (op_eqX (room65 hr))) (p_or p_eqD p_eqX) (q_name (pv 0)) (q_c (.int _) pe_int) (nomark _)) (st_one (z_drop (ps_expr (z_call c_rotations.pu (AL.val AL.nil) (pe_callU c_rotations.ok hG (hr.mono (by decide)) (by rfl) c_rotations.g c_rotations.kp c_rotations.b .nil tk (z_av (pa_cons (q_name (pv 1)) a_nil))))))) (st_one (z_drop (ps_expr (z_call c_linked.pu (AL.val (AL.val AL.nil)) (pe_callU c_linked.ok hG (hr.mono (by decide)) (by rfl) c_linked.g c_linked.kp c_linked.b .nil tk (z_av (pa_cons (q_name (pv 1)) (z_av (pa_cons (q_name (pv 2)) a_nil)))))))))))) (fun a oe cls d pn z hz hf ha hc hd hl => (st_one (s_ret (q_ix (z_lst (pe_lst (z_av (pa_cons (q_c (.str _) pe_str) (z_av (pa_cons (q_c (.str _) pe_str) a_nil)))))) (z_cb1 p_int (pe_callTy (T := "int") call_int1 (by rfl) B.n_int (by decide +kernel) (pa_cons (q_cmp (op_or (op_neD (roomMark hr).units) op_neS) (p_or p_neD p_neS) (z_callEs ha hc hd hz hf (ec_BadTree _ hl) (xf_BadTree _ hl) c_Lclasses_of (hr.mono (by decide)) (AL.val AL.nil) (by rfl) (z_av (pa_cons (q_name (pv 3)) a_nil))) (q_c (.int _) pe_int) (nomark _)) pa_nil))) (fun _ _ => rfl))))) (fun a oe cls d pn z hz hf ha hc hd hl => (st_one (s_ret (q_ix (z_lst (pe_lst (z_av (pa_cons (q_xf ha hc hd (xf_Unlike _ hl).1 ((xf_Unlike _ hl).2 "why" (by simp)) hz hf (pv 3)) (z_av (pa_cons (q_c (.str _) pe_str) a_nil)))))) (z_cb1 p_int (pe_callTy (T := "int") call_int1 (by rfl) B.n_int (by decide +kernel) (pa_cons (q_cmp (op_or (op_neD (roomMark hr).units) op_neS) (p_or p_neD p_neS) (z_callEs ha hc hd hz hf (ec_Unlike _ hl) (xf_Unlike _ hl) c_Lclasses_of (hr.mono (by decide)) (AL.val AL.nil) (by rfl) (z_av (pa_cons (q_name (pv 3)) a_nil))) (q_c (.int _) pe_int) (nomark _)) pa_nil))) (fun _ _ => rfl))))))
      (st_one (s_ret (q_c .non pe_non))))
theorem ws_Lraised : ∀ (ds : List D) (Q : D → J.Env → Prop) (X : XQ), Wr (run_Lraised ds) Q X ↔ Wo (bk_Lraised_3 (ds.map some ++ List.replicate 1 none)) (defQ 3 [0, 1, 2] Q X) := fun _ _ _ => wz_def
theorem wb_Lraised : (∀ (env : J.Env) (Q : Out → Prop), Wo (bk_Lraised_0 env) Q ↔ Wo ((dropO (callF run_rotations [] (argV (rdF 1) args0))) env) Q)
  ∧ (∀ (env : J.Env) (Q : Out → Prop), Wo (bk_Lraised_1 env) Q ↔ Wo ((dropO (callF run_linked [] (argV (rdF 1) (argV (rdF 2) args0)))) env) Q)
  ∧ (∀ (env : J.Env) (Q : Out → Prop), Wo (bk_Lraised_2 env) Q ↔ Wo ((ifO (asB (lift2 eqW (rdF 0) (okC (.int 0)))) bk_Lraised_0 bk_Lraised_1) env) Q)
  ∧ (∀ (env : J.Env) (Q : Out → Prop), Wo (bk_Lraised_3 env) Q ↔ Wo ((seqO (tryAsO [(15, false), (18, true)] 3 (tryAsO [(15, true), (18, false)] 3 bk_Lraised_2 (fun c_ ns_ ds_ => (retO (lift2 ixF (lstF (argV (okC (.str "tree")) (argV (okC (.str "more")) args0))) (lift1 intD (lift2 neW (callF (run_Lclasses_of c_ ns_ ds_) [] (argV (rdF 3) args0)) (okC (.int 1)))))))) (fun c_ ns_ ds_ => (retO (lift2 ixF (lstF (argV (xfF 3 "why" ns_ ds_) (argV (okC (.str "more")) args0))) (lift1 intD (lift2 neW (callF (run_Lclasses_of c_ ns_ ds_) [] (argV (rdF 3) args0)) (okC (.int 1)))))))) (retO (okC .non))) env) Q)
  ∧ (∀ e : J.Env, outsOf 3 [0, 1, 2] e = [(e[0]?).join, (e[1]?).join, (e[2]?).join]) := ⟨fun _ _ => Iff.rfl, fun _ _ => Iff.rfl, fun _ _ => Iff.rfl, fun _ _ => Iff.rfl, fun _ => rfl⟩
end
section
variable {P : Program} {w : World} {K : PySem.W.Frag} {mg : Str → Option Value} {base : Heap} {C : CT}
abbrev s_law : Stmt := topS 37
abbrev N_law : List Str := ["_law_script", "_law_cell", "_law_well_here", "_law_size", "_law_due", "_law_told", "_law_odd", "_law_wide", "_law_one_here", "_law_other", "_law_first", "_law_second", "_law_link", "_law_kept", "_law_tree_here"]
abbrev P_law : List Str := ["_law_script"]
theorem sc_law : FnScope N_law P_law (defScope s_law) := ⟨rfl, rfl, rfl, by decide +kernel, rfl, by decide +kernel, by decide +kernel⟩
def bk_law_0 : J.Env → Out := (ifO (asB (lift2 neW (callF run_linked [] (argV (rdF 10) (argV (rdF 11) args0))) (rdF 13))) (retO (okC (.bl false))) nilO)
def bk_law_1 : J.Env → Out := (seqO (appO 12 (okC .non)) bk_law_0)
def bk_law_2 : J.Env → Out := (seqO (asgO (roC (lift1 listD (rdF 12))) (setG 13)) bk_law_1)
def bk_law_3 : J.Env → Out := (seqO (ifO (notB (asB (roF (callF run_Llink_right [] (argV (rdF 10) (argV (rdF 11) (argV (rdF 12) args0))))))) (retO (okC (.bl false))) nilO) bk_law_2)
def bk_law_4 : J.Env → Out := (seqO (asgO (callF run_linked [] (argV (rdF 10) (argV (rdF 11) args0))) (setG 12)) bk_law_3)
abbrev lb_law_0 : J.Env → Out := bk_law_4
def bk_law_5 : J.Env → Out := (ifO (andB (asB (lift2 neW (rdF 3) (lift2 addD (okC (.int 1)) (lift2 modD (rdF 3) (okC (.int 8)))))) (asB (lift2 neW (callF run_Lraised [] (argV (okC (.int 1)) (argV (rdF 8) (argV (rdF 7) args0)))) (okC (.str "sizes"))))) (retO (okC (.bl false))) nilO)
def bk_law_6 : J.Env → Out := (seqO (asgO (callF (run_Ltree 12) [(0, 2)] (argR 2 (argV (okC (.int 0)) (argV (lift2 addD (okC (.int 1)) (lift2 modD (rdF 3) (okC (.int 8)))) args0)))) (setG 7)) bk_law_5)
def bk_law_7 : J.Env → Out := (seqO (ifO (asB (lift2 neW (lstF (argV (callF run_Lraised [] (argV (okC (.int 0)) (argV (rdF 6) (argV (okC (.int 0)) args0)))) (argV (callF run_Lraised [] (argV (okC (.int 1)) (argV (rdF 6) (argV (okC .non) args0)))) (argV (callF run_Lraised [] (argV (okC (.int 1)) (argV (rdF 8) (argV (rdF 6) args0)))) args0)))) (lift2 mulD (lstF (argV (okC (.str "tree")) args0)) (okC (.int 3))))) (retO (okC (.bl false))) nilO) bk_law_6)
def bk_law_8 : J.Env → Out := (seqO (asgO (callF run_Lone [(0, 2)] (argL 2 (argV (lstF (argV (okC .non) (argV (okC (.bl true)) (argV (tupF (argV (okC (.int 0)) args0)) (argV (tupF (argV (okC (.int 1)) (argV (okC (.int 0)) args0))) (argV (lstF (argV (okC (.int 0)) (argV (okC (.int 1)) args0))) (argV (okC (.str "0")) (argV (tupF (argV (okC (.int 0)) (argV (okC (.int 1)) (argV (okC (.int 2)) args0)))) (argV (callF (run_Ltree 12) [(0, 2)] (argR 2 (argV (okC (.int 0)) (argV (okC (.int 9)) args0)))) (argV (tupF (argV (okC (.int 0)) (argV (okC (.bl true)) args0))) (argV dnewF args0))))))))))) args0))) (setG 6)) bk_law_7)
def bk_law_9 : J.Env → Out := (seqO (forO (tupI (tupF (argV (tupF (argV (rdF 8) (argV (rdF 9) args0))) (argV (tupF (argV (rdF 9) (argV (rdF 8) args0))) (argV (tupF (argV (rdF 8) (argV (rdF 8) args0))) args0))))) (tupG 2 (consG (setG 10) (consG (setG 11) nilG))) lb_law_0) bk_law_8)
def bk_law_10 : J.Env → Out := (seqO (ifO (asB (lift2 neW (callF run_rotations [] (argV (rdF 8) args0)) (rdF 4))) (retO (okC (.bl false))) nilO) bk_law_9)
def bk_law_11 : J.Env → Out := (seqO (appO 5 (okC (.int 0))) bk_law_10)
def bk_law_12 : J.Env → Out := (seqO (ifO (asB (lift2 neW (compO (lstI (rdF 4)) (setG 14) (asB (lift2 notInLW (rdF 8) (callF run_rotations [] (argV (rdF 14) args0)))) (rdF 14) [14]) (lstF args0))) (retO (okC (.bl false))) nilO) bk_law_11)
def bk_law_13 : J.Env → Out := (seqO (ifO (asB (lift2 neW (lift1 lenD (rdF 4)) (lift2 maxD (okC (.int 0)) (lift2 subD (callF run_Lpairs_in [] (argV (rdF 8) args0)) (okC (.int 1)))))) (retO (okC (.bl false))) nilO) bk_law_12)
def bk_law_14 : J.Env → Out := (seqO (ifO (orB (asB (toT (bop2 neD (rdB 5) (rdB 4)))) (orB (notB (asB (toT (bop1 (isiD "list") (rdB 5))))) (asB (lift2 neW (lift1 lenSetW (rdF 4)) (lift1 lenD (rdF 4)))))) (retO (okC (.bl false))) nilO) bk_law_13)
def bk_law_15 : J.Env → Out := (seqO (asgO (callF run_rotations [] (argV (rdF 8) args0)) (setG 5)) bk_law_14)
def bk_law_16 : J.Env → Out := (seqO (asgO (callF (run_Lturned 12) [] (argV (rdF 8) args0)) (setG 4)) bk_law_15)
def bk_law_17 : J.Env → Out := (seqO (asgO (tupF (argV (callF (run_Ltree 12) [(0, 2)] (argR 2 (argV (okC (.int 0)) (argV (rdF 3) args0)))) (argV (callF (run_Ltree 12) [(0, 2)] (argR 2 (argV (okC (.int 0)) (argV (rdF 3) args0)))) args0))) (tupG 2 (consG (setG 8) (consG (setG 9) nilG)))) bk_law_16)
def bk_law_18 : J.Env → Out := (seqO (asgO (lift2 addD (okC (.int 1)) (callF run_Ldraw [(0, 2)] (argR 2 (argV (okC (.int 8)) args0)))) (setG 3)) bk_law_17)
def bk_law_19 : J.Env → Out := (seqO (asgO (callF run_Lwell [] (argV (rdF 1) args0)) (setG 2)) bk_law_18)
abbrev lb_law_1 : J.Env → Out := bk_law_19
def bk_law_20 : J.Env → Out := (seqO (forO (lstI (lift2 addD (lstF (argV (callF run_Lcell_at [] (argV (rdF 0) (argV (okC (.int 0)) args0))) args0)) (slF (rdF 0) (asI (okC (.int 1))) (asI (okC (.int 6)))))) (setG 1) lb_law_1) (retO (okC (.bl true))))
def run_law : List D → R D := defF 1 [0] 14
    bk_law_20
theorem ok_law {f : Addr} {fd : FuncData} (F : Fun K "law" "law" s_law f fd) (B : Bi mg) (c_Lwell : CalU P w K mg base C "_law_well" 1 P_Lwell 1 run_Lwell) (c_Lturned : CalU P w K mg base C "_law_turned" (1 + 12) P_Lturned 1 (run_Lturned 12)) (c_rotations : CalU P w K mg base C "rotations" 14 P_rotations 1 run_rotations) (c_Lone : CalU P w K mg base C "_law_one" 2 P_Lone 2 run_Lone) (c_Ltree : CalU P w K mg base C "_law_tree" (2 + 12) P_Ltree 3 (run_Ltree 12)) (c_Lcell_at : CalU P w K mg base C "_law_cell_at" 1 P_Lcell_at 2 run_Lcell_at) (c_Ldraw : CalU P w K mg base C "_law_draw" 1 P_Ldraw 2 run_Ldraw) (c_linked : CalU P w K mg base C "linked" 82 P_linked 2 run_linked) (c_Llink_right : CalU P w K mg base C "_law_link_right" 14 P_Llink_right 3 run_Llink_right) (c_Lraised : CalU P w K mg base C "_law_raised" 83 P_Lraised 3 run_Lraised) (c_Lpairs_in : CalU P w K mg base C "_law_pairs_in" 14 P_Lpairs_in 1 run_Lpairs_in) : FnU P w K mg base 84 f fd P_law (spP K C 1 run_law) := by
  refine okP F sc_law rfl rfl (by decide) fun cdv A outer s H E hG hr => ?_
  have tk : Takes (cxOf (L2.CX P w) P w K mg base N_law "law" (defScope s_law) f cdv A outer s H E) (fun cls d _ H => E cls d H) := takes_of rfl rfl rfl rfl
  exact (st_seq (z_for (ps_for (passes_of rfl) rfl (y_list (q_add (z_lst (pe_lst (z_av (pa_cons (z_call c_Lcell_at.pu (AL.val (AL.val AL.nil)) (pe_callU c_Lcell_at.ok hG (hr.mono (by decide)) (by rfl) c_Lcell_at.g c_Lcell_at.kp c_Lcell_at.b .nil tk (z_av (pa_cons (q_name (pv 0)) (z_av (pa_cons (q_c (.int _) pe_int) a_nil)))))) a_nil)))) (q_slice (q_name (pv 0)) (o_some (q_c (.int _) pe_int)) (o_some (q_c (.int _) pe_int))))) (g_name (by decide) (pg_name (i := 1) sc_law.nd rfl (Or.inl rfl))) (st_seq (z_set (by decide) (ps_set (i := 2) sc_law.nd rfl (Or.inl rfl) (z_call c_Lwell.pu (AL.val AL.nil) (pe_callU c_Lwell.ok hG (hr.mono (by decide)) (by rfl) c_Lwell.g c_Lwell.kp c_Lwell.b .nil tk (z_av (pa_cons (q_name (pv 1)) a_nil))))))
      (st_seq (z_set (by decide) (ps_set (i := 3) sc_law.nd rfl (Or.inl rfl) (q_add (q_c (.int _) pe_int) (z_call c_Ldraw.pu (AL.ref (AL.val AL.nil)) (pe_callU c_Ldraw.ok hG (hr.mono (by decide)) (by rfl) c_Ldraw.g c_Ldraw.kp c_Ldraw.b .nil tk (z_ar (pa_cons (pv 2) (z_av (pa_cons (q_c (.int _) pe_int) a_nil)))))))))
      (st_seq (z_asg (ps_asg (z_tup (pe_tup (z_av (pa_cons (z_call c_Ltree.pu (AL.ref (AL.val (AL.val AL.nil))) (pe_callU c_Ltree.ok hG (hr.mono (by decide)) (by rfl) c_Ltree.g c_Ltree.kp c_Ltree.b .nil tk (z_ar (pa_cons (pv 2) (z_av (pa_cons (q_c (.int _) pe_int) (z_av (pa_cons (q_name (pv 3)) a_nil)))))))) (z_av (pa_cons (z_call c_Ltree.pu (AL.ref (AL.val (AL.val AL.nil))) (pe_callU c_Ltree.ok hG (hr.mono (by decide)) (by rfl) c_Ltree.g c_Ltree.kp c_Ltree.b .nil tk (z_ar (pa_cons (pv 2) (z_av (pa_cons (q_c (.int _) pe_int) (z_av (pa_cons (q_name (pv 3)) a_nil)))))))) a_nil)))))) (z_gtup (pg_tup rfl (z_gcons (pgs_cons (g_name (by decide) (pg_name (i := 8) sc_law.nd rfl (Or.inr rfl))) (z_gcons (pgs_cons (g_name (by decide) (pg_name (i := 9) sc_law.nd rfl (Or.inl rfl))) gs_nil))))))))
      (st_seq (z_set (by decide) (ps_set (i := 4) sc_law.nd rfl (Or.inl rfl) (z_call c_Lturned.pu (AL.val AL.nil) (pe_callU c_Lturned.ok hG (hr.mono (by decide)) (by rfl) c_Lturned.g c_Lturned.kp c_Lturned.b .nil tk (z_av (pa_cons (q_name (pv 8)) a_nil))))))
      (st_seq (z_set (by decide) (ps_set (i := 5) sc_law.nd rfl (Or.inl rfl) (z_call c_rotations.pu (AL.val AL.nil) (pe_callU c_rotations.ok hG (hr.mono (by decide)) (by rfl) c_rotations.g c_rotations.kp c_rotations.b .nil tk (z_av (pa_cons (q_name (pv 8)) a_nil))))))
      (st_seq (s_if (PW.pt (w_or (tb_ne hr.units (qb_name (pv 5)) (qb_name (pv 4)) (nomark _)) (w_or (t_not (t_val (q_b (zb_isi (by decide) (pe_callB (id := "isinstance") call_isi (by rfl) B.n_isinstance (by decide +kernel) (pa_cons (qb_name (pv 5)) (pa_cons (pe_bltn (by rfl) B.n_list (by decide +kernel) (v := .ty "list") rfl) pa_nil))))))) (w_or1 (t_cmp (op_or (op_neD hr.units) op_neS) (p_or p_neD p_neS) (z_lenSetW (z_cb1 p_lenSetI (pe_lenSetN rfl (by rfl) B.n_len (by rfl) B.n_set (q_name (pv 4)))) (z_lenSetK (pe_callB (id := "len") cr_lenK (by rfl) B.n_len (by decide +kernel) (pa_cons (pe_callTy (T := "set") (cr_setOfK rfl hr.units) (by rfl) B.n_set (by decide +kernel) (pa_cons (q_name (pv 4)) pa_nil)) pa_nil)))) (z_len (pe_callB (id := "len") call_len (by rfl) B.n_len (by decide +kernel) (pa_cons (q_name (pv 4)) pa_nil))) (nomark _)))))) (st_one (s_ret (q_c (.bl _) pe_bl))) st_nil)
      (st_seq (s_if (t_cmp (op_or (op_neD hr.units) op_neS) (p_or p_neD p_neS) (z_len (pe_callB (id := "len") call_len (by rfl) B.n_len (by decide +kernel) (pa_cons (q_name (pv 4)) pa_nil))) (z_cb2 p_max (pe_callB (id := "max") (call_max2 rfl) (by rfl) B.n_max (by decide +kernel) (pa_cons (q_c (.int _) pe_int) (pa_cons (q_sub (z_call c_Lpairs_in.pu (AL.val AL.nil) (pe_callU c_Lpairs_in.ok hG (hr.mono (by decide)) (by rfl) c_Lpairs_in.g c_Lpairs_in.kp c_Lpairs_in.b .nil tk (z_av (pa_cons (q_name (pv 8)) a_nil)))) (q_c (.int _) pe_int)) pa_nil)))) (nomark _)) (st_one (s_ret (q_c (.bl _) pe_bl))) st_nil)
      (st_seq (s_if (t_cmp (op_or (op_neD hr.units) op_neS) (p_or p_neD p_neS) (z_lc 15 rfl (kp := [0, 1, 2, 3, 4, 5, 6, 7, 8, 9, 10, 11, 12, 13]) (by decide) GL.set (pe_lc (own := [("_law_tree_here", 14)]) rfl sc_law.nd (y_list (q_name (pv 4))) (blkOk_by (own := [("_law_tree_here", 14)]) (N := N_law) (sc := defScope s_law) (by decide +kernel)) (fun _ _ _ _ _ => (g_name (by decide) (pg_name (i := 14) sc_law.nd rfl (Or.inl rfl)))) (fun _ _ _ _ _ => (z_pts (t_cmp (op_or (op_notInD (room65 hr)) (op_notInX (room65 hr))) (p_or p_notInL p_inX) (q_name (pv 8)) (z_call c_rotations.pu (AL.val AL.nil) (pe_callU c_rotations.ok hG (hr.mono (by decide)) (by rfl) c_rotations.g c_rotations.kp c_rotations.b .nil takes0 (z_av (pa_cons (q_name (pv 14)) a_nil)))) rfl))) (fun _ _ _ _ _ => (q_name (pv 14))))) (z_lst (pe_lst a_nil)) (nomark _)) (st_one (s_ret (q_c (.bl _) pe_bl))) st_nil)
      (st_seq (z_app (ps_expr (pe_bm PySem.F.plainAttrs_list PySem.F.slot_list_append PySem.F.type_list_append mt_append (pv 5) (pa_cons (q_c (.int _) pe_int) pa_nil))))
      (st_seq (s_if (t_cmp (op_or (op_neD hr.units) op_neS) (p_or p_neD p_neS) (z_call c_rotations.pu (AL.val AL.nil) (pe_callU c_rotations.ok hG (hr.mono (by decide)) (by rfl) c_rotations.g c_rotations.kp c_rotations.b .nil tk (z_av (pa_cons (q_name (pv 8)) a_nil)))) (q_name (pv 4)) (nomark _)) (st_one (s_ret (q_c (.bl _) pe_bl))) st_nil)
      (st_seq (z_for (ps_for (passes_of rfl) rfl (y_tup (z_tup (pe_tup (z_av (pa_cons (z_tup (pe_tup (z_av (pa_cons (q_name (pv 8)) (z_av (pa_cons (q_name (pv 9)) a_nil)))))) (z_av (pa_cons (z_tup (pe_tup (z_av (pa_cons (q_name (pv 9)) (z_av (pa_cons (q_name (pv 8)) a_nil)))))) (z_av (pa_cons (z_tup (pe_tup (z_av (pa_cons (q_name (pv 8)) (z_av (pa_cons (q_name (pv 8)) a_nil)))))) a_nil))))))))) (z_gtup (pg_tup rfl (z_gcons (pgs_cons (g_name (by decide) (pg_name (i := 10) sc_law.nd rfl (Or.inl rfl))) (z_gcons (pgs_cons (g_name (by decide) (pg_name (i := 11) sc_law.nd rfl (Or.inl rfl))) gs_nil)))))) (st_seq (z_set (by decide) (ps_set (i := 12) sc_law.nd rfl (Or.inl rfl) (z_call c_linked.pu (AL.val (AL.val AL.nil)) (pe_callU c_linked.ok hG (hr.mono (by decide)) (by rfl) c_linked.g c_linked.kp c_linked.b .nil tk (z_av (pa_cons (q_name (pv 10)) (z_av (pa_cons (q_name (pv 11)) a_nil))))))))
      (st_seq (s_if (t_not (t_val (q_ro (z_call c_Llink_right.pu (AL.val (AL.val (AL.val AL.nil))) (pe_callU c_Llink_right.ok hG (hr.mono (by decide)) (by rfl) c_Llink_right.g c_Llink_right.kp c_Llink_right.b .nil tk (z_av (pa_cons (q_name (pv 10)) (z_av (pa_cons (q_name (pv 11)) (z_av (pa_cons (q_name (pv 12)) a_nil))))))))))) (st_one (s_ret (q_c (.bl _) pe_bl))) st_nil)
      (st_seq (z_set (by decide) (ps_set (i := 13) sc_law.nd rfl (Or.inl rfl) (q_roC (z_cb1 p_list (pe_callTy (T := "list") call_list_of (by rfl) B.n_list (by decide +kernel) (pa_cons (q_name (pv 12)) pa_nil))))))
      (st_seq (z_app (ps_expr (pe_bm PySem.F.plainAttrs_list PySem.F.slot_list_append PySem.F.type_list_append mt_append (pv 12) (pa_cons (q_c .non pe_non) pa_nil))))
      (st_one (s_if (t_cmp (op_or (op_neD hr.units) op_neS) (p_or p_neD p_neS) (z_call c_linked.pu (AL.val (AL.val AL.nil)) (pe_callU c_linked.ok hG (hr.mono (by decide)) (by rfl) c_linked.g c_linked.kp c_linked.b .nil tk (z_av (pa_cons (q_name (pv 10)) (z_av (pa_cons (q_name (pv 11)) a_nil)))))) (q_name (pv 13)) (nomark _)) (st_one (s_ret (q_c (.bl _) pe_bl))) st_nil))))))))
      (st_seq (z_set (by decide) (ps_set (i := 6) sc_law.nd rfl (Or.inl rfl) (z_call c_Lone.pu (AL.late (AL.val AL.nil)) (pe_callU c_Lone.ok hG (hr.mono (by decide)) (by rfl) c_Lone.g c_Lone.kp c_Lone.b .nil tk (z_al (pa_cons (pv 2) (z_av (pa_cons (z_lst (pe_lst (z_av (pa_cons (q_c .non pe_non) (z_av (pa_cons (q_c (.bl _) pe_bl) (z_av (pa_cons (z_tup (pe_tup (z_av (pa_cons (q_c (.int _) pe_int) a_nil)))) (z_av (pa_cons (z_tup (pe_tup (z_av (pa_cons (q_c (.int _) pe_int) (z_av (pa_cons (q_c (.int _) pe_int) a_nil)))))) (z_av (pa_cons (z_lst (pe_lst (z_av (pa_cons (q_c (.int _) pe_int) (z_av (pa_cons (q_c (.int _) pe_int) a_nil)))))) (z_av (pa_cons (q_c (.str _) pe_str) (z_av (pa_cons (z_tup (pe_tup (z_av (pa_cons (q_c (.int _) pe_int) (z_av (pa_cons (q_c (.int _) pe_int) (z_av (pa_cons (q_c (.int _) pe_int) a_nil)))))))) (z_av (pa_cons (z_call c_Ltree.pu (AL.ref (AL.val (AL.val AL.nil))) (pe_callU c_Ltree.ok hG (hr.mono (by decide)) (by rfl) c_Ltree.g c_Ltree.kp c_Ltree.b .nil tk (z_ar (pa_cons (pv 2) (z_av (pa_cons (q_c (.int _) pe_int) (z_av (pa_cons (q_c (.int _) pe_int) a_nil)))))))) (z_av (pa_cons (z_tup (pe_tup (z_av (pa_cons (q_c (.int _) pe_int) (z_av (pa_cons (q_c (.bl _) pe_bl) a_nil)))))) (z_av (pa_cons z_dnew a_nil)))))))))))))))))))))) a_nil))))))))
      (st_seq (s_if (t_cmp (op_or (op_neD hr.units) op_neS) (p_or p_neD p_neS) (z_lst (pe_lst (z_av (pa_cons (z_call c_Lraised.pu (AL.val (AL.val (AL.val AL.nil))) (pe_callU c_Lraised.ok hG (hr.mono (by decide)) (by rfl) c_Lraised.g c_Lraised.kp c_Lraised.b .nil tk (z_av (pa_cons (q_c (.int _) pe_int) (z_av (pa_cons (q_name (pv 6)) (z_av (pa_cons (q_c (.int _) pe_int) a_nil)))))))) (z_av (pa_cons (z_call c_Lraised.pu (AL.val (AL.val (AL.val AL.nil))) (pe_callU c_Lraised.ok hG (hr.mono (by decide)) (by rfl) c_Lraised.g c_Lraised.kp c_Lraised.b .nil tk (z_av (pa_cons (q_c (.int _) pe_int) (z_av (pa_cons (q_name (pv 6)) (z_av (pa_cons (q_c .non pe_non) a_nil)))))))) (z_av (pa_cons (z_call c_Lraised.pu (AL.val (AL.val (AL.val AL.nil))) (pe_callU c_Lraised.ok hG (hr.mono (by decide)) (by rfl) c_Lraised.g c_Lraised.kp c_Lraised.b .nil tk (z_av (pa_cons (q_c (.int _) pe_int) (z_av (pa_cons (q_name (pv 8)) (z_av (pa_cons (q_name (pv 6)) a_nil)))))))) a_nil)))))))) (q_mul (z_lst (pe_lst (z_av (pa_cons (q_c (.str _) pe_str) a_nil)))) (q_c (.int _) pe_int)) (nomark _)) (st_one (s_ret (q_c (.bl _) pe_bl))) st_nil)
      (st_seq (z_set (by decide) (ps_set (i := 7) sc_law.nd rfl (Or.inl rfl) (z_call c_Ltree.pu (AL.ref (AL.val (AL.val AL.nil))) (pe_callU c_Ltree.ok hG (hr.mono (by decide)) (by rfl) c_Ltree.g c_Ltree.kp c_Ltree.b .nil tk (z_ar (pa_cons (pv 2) (z_av (pa_cons (q_c (.int _) pe_int) (z_av (pa_cons (q_add (q_c (.int _) pe_int) (q_mod (q_name (pv 3)) (q_c (.int _) pe_int))) a_nil))))))))))
      (st_one (s_if (PW.pt (w_and (t_cmp (op_or (op_neD hr.units) op_neS) (p_or p_neD p_neS) (q_name (pv 3)) (q_add (q_c (.int _) pe_int) (q_mod (q_name (pv 3)) (q_c (.int _) pe_int))) (nomark _)) (w_and1 (t_cmp (op_or (op_neD hr.units) op_neS) (p_or p_neD p_neS) (z_call c_Lraised.pu (AL.val (AL.val (AL.val AL.nil))) (pe_callU c_Lraised.ok hG (hr.mono (by decide)) (by rfl) c_Lraised.g c_Lraised.kp c_Lraised.b .nil tk (z_av (pa_cons (q_c (.int _) pe_int) (z_av (pa_cons (q_name (pv 8)) (z_av (pa_cons (q_name (pv 7)) a_nil)))))))) (q_c (.str _) pe_str) (nomark _))))) (st_one (s_ret (q_c (.bl _) pe_bl))) st_nil))))))))))))))))))
      (st_one (s_ret (q_c (.bl _) pe_bl))))
theorem ws_law : ∀ (ds : List D) (Q : D → J.Env → Prop) (X : XQ), Wr (run_law ds) Q X ↔ Wo (bk_law_20 (ds.map some ++ List.replicate 14 none)) (defQ 1 [0] Q X) := fun _ _ _ => wz_def
theorem wb_law : (∀ (env : J.Env) (Q : Out → Prop), Wo (bk_law_0 env) Q ↔ Wo ((ifO (asB (lift2 neW (callF run_linked [] (argV (rdF 10) (argV (rdF 11) args0))) (rdF 13))) (retO (okC (.bl false))) nilO) env) Q)
  ∧ (∀ (env : J.Env) (Q : Out → Prop), Wo (bk_law_1 env) Q ↔ Wo ((seqO (appO 12 (okC .non)) bk_law_0) env) Q)
  ∧ (∀ (env : J.Env) (Q : Out → Prop), Wo (bk_law_2 env) Q ↔ Wo ((seqO (asgO (roC (lift1 listD (rdF 12))) (setG 13)) bk_law_1) env) Q)
  ∧ (∀ (env : J.Env) (Q : Out → Prop), Wo (bk_law_3 env) Q ↔ Wo ((seqO (ifO (notB (asB (roF (callF run_Llink_right [] (argV (rdF 10) (argV (rdF 11) (argV (rdF 12) args0))))))) (retO (okC (.bl false))) nilO) bk_law_2) env) Q)
  ∧ (∀ (env : J.Env) (Q : Out → Prop), Wo (bk_law_4 env) Q ↔ Wo ((seqO (asgO (callF run_linked [] (argV (rdF 10) (argV (rdF 11) args0))) (setG 12)) bk_law_3) env) Q)
  ∧ (∀ (env : J.Env) (Q : Out → Prop), Wo (bk_law_5 env) Q ↔ Wo ((ifO (andB (asB (lift2 neW (rdF 3) (lift2 addD (okC (.int 1)) (lift2 modD (rdF 3) (okC (.int 8)))))) (asB (lift2 neW (callF run_Lraised [] (argV (okC (.int 1)) (argV (rdF 8) (argV (rdF 7) args0)))) (okC (.str "sizes"))))) (retO (okC (.bl false))) nilO) env) Q)
  ∧ (∀ (env : J.Env) (Q : Out → Prop), Wo (bk_law_6 env) Q ↔ Wo ((seqO (asgO (callF (run_Ltree 12) [(0, 2)] (argR 2 (argV (okC (.int 0)) (argV (lift2 addD (okC (.int 1)) (lift2 modD (rdF 3) (okC (.int 8)))) args0)))) (setG 7)) bk_law_5) env) Q)
  ∧ (∀ (env : J.Env) (Q : Out → Prop), Wo (bk_law_7 env) Q ↔ Wo ((seqO (ifO (asB (lift2 neW (lstF (argV (callF run_Lraised [] (argV (okC (.int 0)) (argV (rdF 6) (argV (okC (.int 0)) args0)))) (argV (callF run_Lraised [] (argV (okC (.int 1)) (argV (rdF 6) (argV (okC .non) args0)))) (argV (callF run_Lraised [] (argV (okC (.int 1)) (argV (rdF 8) (argV (rdF 6) args0)))) args0)))) (lift2 mulD (lstF (argV (okC (.str "tree")) args0)) (okC (.int 3))))) (retO (okC (.bl false))) nilO) bk_law_6) env) Q)
  ∧ (∀ (env : J.Env) (Q : Out → Prop), Wo (bk_law_8 env) Q ↔ Wo ((seqO (asgO (callF run_Lone [(0, 2)] (argL 2 (argV (lstF (argV (okC .non) (argV (okC (.bl true)) (argV (tupF (argV (okC (.int 0)) args0)) (argV (tupF (argV (okC (.int 1)) (argV (okC (.int 0)) args0))) (argV (lstF (argV (okC (.int 0)) (argV (okC (.int 1)) args0))) (argV (okC (.str "0")) (argV (tupF (argV (okC (.int 0)) (argV (okC (.int 1)) (argV (okC (.int 2)) args0)))) (argV (callF (run_Ltree 12) [(0, 2)] (argR 2 (argV (okC (.int 0)) (argV (okC (.int 9)) args0)))) (argV (tupF (argV (okC (.int 0)) (argV (okC (.bl true)) args0))) (argV dnewF args0))))))))))) args0))) (setG 6)) bk_law_7) env) Q)
  ∧ (∀ (env : J.Env) (Q : Out → Prop), Wo (bk_law_9 env) Q ↔ Wo ((seqO (forO (tupI (tupF (argV (tupF (argV (rdF 8) (argV (rdF 9) args0))) (argV (tupF (argV (rdF 9) (argV (rdF 8) args0))) (argV (tupF (argV (rdF 8) (argV (rdF 8) args0))) args0))))) (tupG 2 (consG (setG 10) (consG (setG 11) nilG))) lb_law_0) bk_law_8) env) Q)
  ∧ (∀ (env : J.Env) (Q : Out → Prop), Wo (bk_law_10 env) Q ↔ Wo ((seqO (ifO (asB (lift2 neW (callF run_rotations [] (argV (rdF 8) args0)) (rdF 4))) (retO (okC (.bl false))) nilO) bk_law_9) env) Q)
  ∧ (∀ (env : J.Env) (Q : Out → Prop), Wo (bk_law_11 env) Q ↔ Wo ((seqO (appO 5 (okC (.int 0))) bk_law_10) env) Q)
  ∧ (∀ (env : J.Env) (Q : Out → Prop), Wo (bk_law_12 env) Q ↔ Wo ((seqO (ifO (asB (lift2 neW (compO (lstI (rdF 4)) (setG 14) (asB (lift2 notInLW (rdF 8) (callF run_rotations [] (argV (rdF 14) args0)))) (rdF 14) [14]) (lstF args0))) (retO (okC (.bl false))) nilO) bk_law_11) env) Q)
  ∧ (∀ (env : J.Env) (Q : Out → Prop), Wo (bk_law_13 env) Q ↔ Wo ((seqO (ifO (asB (lift2 neW (lift1 lenD (rdF 4)) (lift2 maxD (okC (.int 0)) (lift2 subD (callF run_Lpairs_in [] (argV (rdF 8) args0)) (okC (.int 1)))))) (retO (okC (.bl false))) nilO) bk_law_12) env) Q)
  ∧ (∀ (env : J.Env) (Q : Out → Prop), Wo (bk_law_14 env) Q ↔ Wo ((seqO (ifO (orB (asB (toT (bop2 neD (rdB 5) (rdB 4)))) (orB (notB (asB (toT (bop1 (isiD "list") (rdB 5))))) (asB (lift2 neW (lift1 lenSetW (rdF 4)) (lift1 lenD (rdF 4)))))) (retO (okC (.bl false))) nilO) bk_law_13) env) Q)
  ∧ (∀ (env : J.Env) (Q : Out → Prop), Wo (bk_law_15 env) Q ↔ Wo ((seqO (asgO (callF run_rotations [] (argV (rdF 8) args0)) (setG 5)) bk_law_14) env) Q)
  ∧ (∀ (env : J.Env) (Q : Out → Prop), Wo (bk_law_16 env) Q ↔ Wo ((seqO (asgO (callF (run_Lturned 12) [] (argV (rdF 8) args0)) (setG 4)) bk_law_15) env) Q)
  ∧ (∀ (env : J.Env) (Q : Out → Prop), Wo (bk_law_17 env) Q ↔ Wo ((seqO (asgO (tupF (argV (callF (run_Ltree 12) [(0, 2)] (argR 2 (argV (okC (.int 0)) (argV (rdF 3) args0)))) (argV (callF (run_Ltree 12) [(0, 2)] (argR 2 (argV (okC (.int 0)) (argV (rdF 3) args0)))) args0))) (tupG 2 (consG (setG 8) (consG (setG 9) nilG)))) bk_law_16) env) Q)
  ∧ (∀ (env : J.Env) (Q : Out → Prop), Wo (bk_law_18 env) Q ↔ Wo ((seqO (asgO (lift2 addD (okC (.int 1)) (callF run_Ldraw [(0, 2)] (argR 2 (argV (okC (.int 8)) args0)))) (setG 3)) bk_law_17) env) Q)
  ∧ (∀ (env : J.Env) (Q : Out → Prop), Wo (bk_law_19 env) Q ↔ Wo ((seqO (asgO (callF run_Lwell [] (argV (rdF 1) args0)) (setG 2)) bk_law_18) env) Q)
  ∧ (∀ (env : J.Env) (Q : Out → Prop), Wo (bk_law_20 env) Q ↔ Wo ((seqO (forO (lstI (lift2 addD (lstF (argV (callF run_Lcell_at [] (argV (rdF 0) (argV (okC (.int 0)) args0))) args0)) (slF (rdF 0) (asI (okC (.int 1))) (asI (okC (.int 6)))))) (setG 1) lb_law_1) (retO (okC (.bl true)))) env) Q)
  ∧ (∀ e : J.Env, outsOf 1 [0] e = [(e[0]?).join]) := ⟨fun _ _ => Iff.rfl, fun _ _ => Iff.rfl, fun _ _ => Iff.rfl, fun _ _ => Iff.rfl, fun _ _ => Iff.rfl, fun _ _ => Iff.rfl, fun _ _ => Iff.rfl, fun _ _ => Iff.rfl, fun _ _ => Iff.rfl, fun _ _ => Iff.rfl, fun _ _ => Iff.rfl, fun _ _ => Iff.rfl, fun _ _ => Iff.rfl, fun _ _ => Iff.rfl, fun _ _ => Iff.rfl, fun _ _ => Iff.rfl, fun _ _ => Iff.rfl, fun _ _ => Iff.rfl, fun _ _ => Iff.rfl, fun _ _ => Iff.rfl, fun _ _ => Iff.rfl, fun _ => rfl⟩
end
/-! pure words: laws that all families use -/
@[simp] theorem fzL_ints (ns : List Int) : D.fzL (ns.map D.int) = ns.map D.int := by
  induction ns with
  | nil => rfl
  | cons a b ih => simp only [List.map_cons, D.fzL, D.fz, ih]
@[simp] theorem noOwnL_ints (ns : List Int) : D.noOwnL (ns.map D.int) = true := by
  induction ns with
  | nil => rfl
  | cons a b ih => simp only [List.map_cons, D.noOwnL, D.noOwn, ih]; rfl
/-! steps, one by one (in place rewriting of a loop's match is too much for the kernel) -/
/-- grids -/
abbrev rowD_ (o : Bool) (r : List Int) : D := .lst o (r.map D.int)
abbrev gridD (o o2 : Bool) (g : List (List Int)) : D := .lst o (g.map fun r => rowD_ o2 r)
theorem fzL_rows (o2 : Bool) (g : List (List Int)) : D.fzL (g.map fun r => rowD_ o2 r) = g.map fun r => rowD_ false r := by
  induction g with
  | nil => rfl
  | cons a b ih => simp only [List.map_cons, D.fzL, D.fz, fzL_ints, ih]
theorem noOwnL_rows (g : List (List Int)) : D.noOwnL (g.map fun r => rowD_ false r) = true := by
  induction g with
  | nil => rfl
  | cons a b ih => simp only [List.map_cons, D.noOwnL, D.noOwn, noOwnL_ints, ih]; rfl
@[simp] theorem fz_grid (o o2 : Bool) (g : List (List Int)) : (gridD o o2 g).fz = gridD false false g := by simp only [D.fz, fzL_rows]
@[simp] theorem noOwn_grid (g : List (List Int)) : (gridD false false g).noOwn = true := by simp only [D.noOwn, noOwnL_rows]; rfl
@[simp] theorem fz_fz (d : D) : d.fz.fz = d.fz := Rel.dup.fz_fz d
@[simp] theorem noOwn_fz (d : D) : d.fz.noOwn = true := Rel.dup.noOwn_fz d
@[simp] theorem fzL_fzL (ds : List D) : D.fzL (D.fzL ds) = D.fzL ds := Rel.dup.fzL_fzL ds
@[simp] theorem noOwnL_fzL (ds : List D) : D.noOwnL (D.fzL ds) = true := Rel.dup.noOwnL_fzL ds
theorem atI_in {α : Type} {xs : List α} {i : Int} (h0 : 0 ≤ i) (h1 : i < xs.length) : ∃ x, L2.atI xs i = some x ∧ xs[i.toNat]? = some x := by
  refine ⟨xs[i.toNat]'(by omega), ?_, List.getElem?_eq_getElem _⟩
  unfold L2.atI ixN
  rw [if_pos h0, if_pos h1]
  exact List.getElem?_eq_getElem _
theorem atI_map_ {α β : Type} (f : α → β) (xs : List α) (i : Int) : L2.atI (xs.map f) i = (L2.atI xs i).map f := by
  unfold L2.atI
  rw [List.length_map]
  cases ixN xs.length i with
  | none => rfl
  | some j => simp
/-! family B: the well -/
abbrev welO (a b c : Int) : D := .lst true [.int a, .int b, .int c]
structure Wel (d : D) (c0 : Int) : Prop where
  ex : ∃ a b c, d = welO a b c ∧ 0 ≤ c ∧ c ≤ c0
theorem Wel.mono {d : D} {c0 c1 : Int} (h : Wel d c0) (l : c0 ≤ c1) : Wel d c1 := by
  obtain ⟨a, b, c, h1, h2, h3⟩ := h.ex
  exact ⟨a, b, c, h1, h2, by omega⟩
theorem mulOk_l {i j : Int} (h0 : -18446744073709551616 < i) (h1 : i < 18446744073709551616) : mulOk i j = true := by
  simp only [mulOk, Bool.or_eq_true, Bool.and_eq_true, decide_eq_true_eq]
  exact .inl ⟨h0, h1⟩
theorem log2_small {n : Int} (h0 : 0 < n) (h1 : n < 18446744073709551616) : n.natAbs.log2 < 9000 := by
  have : n.natAbs.log2 < 64 := (Nat.log2_lt (by omega)).mpr (by omega)
  omega
theorem drawC_ {d : D} {c0 n : Int} (s : Wel d c0) (hc : c0 < 900000000) (hn : 0 < n) (hs : n < 18446744073709551616) : ∃ r d', 0 ≤ r ∧ r < n ∧ Wel d' (c0 + 1) ∧ run_Ldraw [d, .int n] = .ok (.int r) [some d', some (.int n)] := by
  obtain ⟨a, b, c, rfl, h1, h2⟩ := s.ex
  have hl := log2_small hn hs
  rcases Int.lt_or_le 0 a with h | h
  · refine ⟨a % n, welO (a / n) b c, Int.emod_nonneg _ (by omega), Int.emod_lt_of_pos _ hn, ⟨a / n, b, c, rfl, h1, by omega⟩, ?_⟩
    simp [run_Ldraw, bk_Ldraw_0, bk_Ldraw_1, bk_Ldraw_7, frzF, defF, seqO, ifO, asgO, retO, retN, dropO, nilO, noO, bkO, ctO, asB, ofB, andB, orB, notB, ifE, lift1, lift2, toT, bop1, bop2, rdB, rdF, rdM, okC, R.bind, cmpD, isNonD, isNotNonD, ixD, ixF, L2.atI, ixN, D.noOwn, D.noOwnL, D.fz, D.fzL, setG, put1G, addD, subD, addB, modD, divD, powD, negD, lenD, intD, truB, truBB, truD, outsOf, argV, argR, args0, argApp, lkV, callF, relink, methF, recv, makeF, fldB, lookD, fldO, putN, putDs, lstF, tupF, parO, augO, appO, forO, chainF, isiD, ltI, leI, gtI, geI, List.range, List.range.loop, h, hn, hl]
  · have ha : ¬ 0 < a := by omega
    generalize e0 : b / 2147483629 % 65521 = u
    have u0 : 0 ≤ u ∧ u < 65521 := by rw [← e0]; exact ⟨Int.emod_nonneg _ (by decide), Int.emod_lt_of_pos _ (by decide)⟩
    have b0 : 0 ≤ b % 2147483629 ∧ b % 2147483629 < 2147483629 := ⟨Int.emod_nonneg _ (by decide), Int.emod_lt_of_pos _ (by decide)⟩
    have p1 : (b % 2147483629 + 7919 * (c + 1) + u + 1).natAbs < 18446744073709551616 := by omega
    have m1 : mulOk 7919 (c + 1) = true := mulOk_l (by decide) (by decide)
    generalize e1 : (b % 2147483629 + 7919 * (c + 1) + u + 1) ^ 5 % 2147483647 = x
    have x0 : 0 ≤ x ∧ x < 2147483647 := by rw [← e1]; exact ⟨Int.emod_nonneg _ (by decide), Int.emod_lt_of_pos _ (by decide)⟩
    have m2 : ∀ j, mulOk x j = true := fun j => mulOk_l (by omega) (by omega)
    generalize e2 : x * (x / 1009 + 69621 + (c + 1)) % 2147483629 = y
    have y0 : 0 ≤ y ∧ y < 2147483629 := by rw [← e2]; exact ⟨Int.emod_nonneg _ (by decide), Int.emod_lt_of_pos _ (by decide)⟩
    have m3 : ∀ j, mulOk y j = true := fun j => mulOk_l (by omega) (by omega)
    have l1 : Nat.log2 1009 < 9000 := by decide
    have l2 : Nat.log2 2003 < 9000 := by decide
    have l3 : Nat.log2 2147483629 < 9000 := by decide +kernel
    refine ⟨y * (y / 2003 + 40692) % 2147483399 % n, welO a b (c + 1), Int.emod_nonneg _ (by omega), Int.emod_lt_of_pos _ hn, ⟨a, b, c + 1, rfl, by omega, by omega⟩, ?_⟩
    simp [run_Ldraw, bk_Ldraw_0, bk_Ldraw_1, bk_Ldraw_2, bk_Ldraw_3, bk_Ldraw_4, bk_Ldraw_5, bk_Ldraw_6, bk_Ldraw_7, frzF, defF, seqO, ifO, asgO, retO, retN, dropO, nilO, noO, bkO, ctO, asB, ofB, andB, orB, notB, ifE, lift1, lift2, toT, bop1, bop2, rdB, rdF, rdM, okC, R.bind, cmpD, isNonD, isNotNonD, ixD, ixF, L2.atI, ixN, D.noOwn, D.noOwnL, D.fz, D.fzL, setG, put1G, addD, subD, addB, modD, divD, powD, negD, lenD, intD, truB, truBB, truD, outsOf, argV, argR, args0, argApp, lkV, callF, relink, methF, recv, makeF, fldB, lookD, fldO, putN, putDs, lstF, tupF, parO, augO, appO, forO, chainF, isiD, ltI, leI, gtI, geI, List.range, List.range.loop, mulD, ha, hn, hl, p1, m1, e0, e1, m2, e2, m3, l1, l2, l3]
/-! trees, plainly -/
inductive T where
  | leaf (k : Nat)
  | node (l r : T)
  deriving DecidableEq
namespace T
def toD : T → D
  | leaf k => .int (k : Nat)
  | node l r => .tup [toD l, toD r]
def leaves : T → List Nat
  | leaf k => [k]
  | node l r => leaves l ++ leaves r
def size : T → Nat
  | leaf _ => 1
  | node l r => size l + size r
theorem size_pos : ∀ t : T, 1 ≤ t.size
  | leaf _ => Nat.le_refl _
  | node l r => by have := size_pos l; simp only [size]; omega
theorem leaves_length : ∀ t : T, t.leaves.length = t.size
  | leaf _ => rfl
  | node l r => by simp only [leaves, size, List.length_append, leaves_length l, leaves_length r]
theorem toD_fz : ∀ t : T, t.toD.fz = t.toD
  | leaf _ => rfl
  | node l r => by simp only [toD, D.fz, D.fzL, toD_fz l, toD_fz r]
theorem toD_noOwn : ∀ t : T, t.toD.noOwn = true
  | leaf _ => rfl
  | node l r => by simp only [toD, D.noOwn, D.noOwnL, toD_noOwn l, toD_noOwn r]; rfl
end T
theorem noOwnL_trees (F : List T) : D.noOwnL (F.map T.toD) = true := by
  induction F with
  | nil => rfl
  | cons a b ih => simp only [List.map_cons, D.noOwnL, T.toD_noOwn, ih]; rfl
theorem fzL_trees (F : List T) : D.fzL (F.map T.toD) = F.map T.toD := by
  induction F with
  | nil => rfl
  | cons a b ih => simp only [List.map_cons, D.fzL, T.toD_fz, ih]
/-! the order that a tree asks for -/
/-! trees are compared as data -/
theorem toD_okP : ∀ t : T, t.toD.okP = true
  | .leaf _ => rfl
  | .node l r => by simp only [T.toD, D.okP, D.okPL, toD_okP l, toD_okP r]; rfl
theorem toP_depth : ∀ t : T, t.toD.toP.depth ≤ t.size + 1
  | .leaf _ => by simp [T.toD, D.toP, PyData.depth]
  | .node l r => by
    have := toP_depth l
    have := toP_depth r
    have := T.size_pos l
    have := T.size_pos r
    simp [T.toD, D.toP, D.toPL, PyData.depth, PyData.depthAll, T.size]
    omega
theorem toP_lay : ∀ t : T, t.toD.toP.canLay0 = true
  | .leaf _ => by simp [T.toD, D.toP, PyData.canLay0]
  | .node l r => by simp [T.toD, D.toP, D.toPL, PyData.canLay0, PyData.canLayAll0, toP_lay l, toP_lay r]
theorem shp_tree {t : T} (h : t.size ≤ 50) : shp t.toD = true := by
  have := toP_depth t
  simp [shp, toD_okP, SeqAt.shaped, toP_lay]
  omega
theorem eqv_tree : ∀ t u : T, PyData.eqv t.toD.toP u.toD.toP = decide (t = u)
  | .leaf a, .leaf b => by
    simp [T.toD, D.toP, PyData.eqv]
    by_cases h : a = b
    · subst h; simp
    · have : ¬ (a : Int) = b := by omega
      simp [h, this]
  | .leaf a, .node l r => by simp [T.toD, D.toP, PyData.eqv]
  | .node l r, .leaf b => by simp [T.toD, D.toP, PyData.eqv]
  | .node l r, .node l' r' => by
    simp [T.toD, D.toP, D.toPL, PyData.eqv, PyData.eqvAll, eqv_tree l l', eqv_tree r r']
theorem eqD_tree {t u : T} (h1 : t.size ≤ 50) (h2 : u.size ≤ 50) : eqD t.toD u.toD = some (.bl (decide (t = u))) := by
  simp [eqD, shp_tree h1, shp_tree h2, eqv_tree]
theorem neD_tree {t u : T} (h1 : t.size ≤ 50) (h2 : u.size ≤ 50) : neD t.toD u.toD = some (.bl (!decide (t = u))) := by
  simp [neD, shp_tree h1, shp_tree h2, eqv_tree]
/-! rotations, plainly -/
def tnL : T → T → List T
  | .node a b, r => [.node a (.node b r)]
  | .leaf _, _ => []
def tnR : T → T → List T
  | l, .node b c => [.node (.node l b) c]
  | _, .leaf _ => []
def trn : T → List T
  | .leaf _ => []
  | .node l r => tnL l r ++ tnR l r ++ (trn l).map (fun u => T.node u r) ++ (trn r).map (fun u => T.node l u)
theorem tnL_mem {l r u : T} : u ∈ tnL l r ↔ ∃ a b, l = .node a b ∧ u = .node a (.node b r) := by
  cases l with
  | leaf k => exact ⟨fun h => (nomatch h), fun ⟨a, b, h, _⟩ => (nomatch h)⟩
  | node a b => exact ⟨fun h => ⟨a, b, rfl, List.mem_singleton.mp h⟩, fun ⟨a', b', h, e⟩ => by cases h; rw [e]; exact List.mem_singleton.mpr rfl⟩
theorem tnR_mem {l r u : T} : u ∈ tnR l r ↔ ∃ b c, r = .node b c ∧ u = .node (.node l b) c := by
  cases r with
  | leaf k => exact ⟨fun h => (nomatch h), fun ⟨a, b, h, _⟩ => (nomatch h)⟩
  | node a b => exact ⟨fun h => ⟨a, b, rfl, List.mem_singleton.mp h⟩, fun ⟨a', b', h, e⟩ => by cases h; rw [e]; exact List.mem_singleton.mpr rfl⟩
theorem trn_mem {l r u : T} : u ∈ trn (.node l r) ↔ (∃ a b, l = .node a b ∧ u = .node a (.node b r)) ∨ (∃ b c, r = .node b c ∧ u = .node (.node l b) c) ∨ (∃ v ∈ trn l, u = .node v r) ∨ ∃ v ∈ trn r, u = .node l v := by
  simp only [trn, List.mem_append, tnL_mem, tnR_mem, List.mem_map, or_assoc, eq_comm (a := u)]
theorem trn_leaves : ∀ {t u : T}, u ∈ trn t → u.leaves = t.leaves
  | .leaf _, u, h => nomatch h
  | .node l r, u, h => by
    rcases trn_mem.mp h with ⟨a, b, rfl, rfl⟩ | ⟨b, c, rfl, rfl⟩ | ⟨v, hv, rfl⟩ | ⟨v, hv, rfl⟩
    · simp [T.leaves]
    · simp [T.leaves]
    · simp [T.leaves, trn_leaves hv]
    · simp [T.leaves, trn_leaves hv]
theorem trn_back : ∀ {t u : T}, u ∈ trn t → t ∈ trn u
  | .leaf _, u, h => nomatch h
  | .node l r, u, h => by
    rcases trn_mem.mp h with ⟨a, b, rfl, rfl⟩ | ⟨b, c, rfl, rfl⟩ | ⟨v, hv, rfl⟩ | ⟨v, hv, rfl⟩
    · exact trn_mem.mpr (.inr (.inl ⟨b, r, rfl, rfl⟩))
    · exact trn_mem.mpr (.inl ⟨l, b, rfl, rfl⟩)
    · exact trn_mem.mpr (.inr (.inr (.inl ⟨l, trn_back hv, rfl⟩)))
    · exact trn_mem.mpr (.inr (.inr (.inr ⟨r, trn_back hv, rfl⟩)))
theorem ne_in_l {a b : T} : a ≠ .node a b := fun e => by
  have := congrArg T.size e
  have := b.size_pos
  simp only [T.size] at *
  omega
theorem ne_in_r {a b : T} : b ≠ .node a b := fun e => by
  have := congrArg T.size e
  have := a.size_pos
  simp only [T.size] at *
  omega
theorem trn_irr : ∀ {t : T}, t ∉ trn t
  | .leaf _, h => nomatch h
  | .node l r, h => by
    rcases trn_mem.mp h with ⟨a, b, e, e2⟩ | ⟨b, c, e, e2⟩ | ⟨v, hv, e⟩ | ⟨v, hv, e⟩
    · injection e2 with e3 e4
      exact ne_in_r e4
    · injection e2 with e3 e4
      exact ne_in_l e3
    · injection e with e3 e4
      rw [← e3] at hv
      exact trn_irr hv
    · injection e with e3 e4
      rw [← e4] at hv
      exact trn_irr hv
theorem trn_nodup : ∀ t : T, (trn t).Nodup
  | .leaf _ => List.nodup_nil
  | .node l r => by
    have h1 : (tnL l r).Nodup := by cases l <;> simp [tnL]
    have h2 : (tnR l r).Nodup := by cases r <;> simp [tnR]
    have h3 : ((trn l).map fun u => T.node u r).Nodup := List.pairwise_map.mpr ((trn_nodup l).imp fun ne e => by injection e with e; exact ne e)
    have h4 : ((trn r).map fun u => T.node l u).Nodup := List.pairwise_map.mpr ((trn_nodup r).imp fun ne e => by injection e with _ e; exact ne e)
    unfold trn
    refine List.nodup_append.mpr ⟨List.nodup_append.mpr ⟨List.nodup_append.mpr ⟨h1, h2, ?_⟩, h3, ?_⟩, h4, ?_⟩
    · rintro x hx y hy rfl
      obtain ⟨a, b, rfl, rfl⟩ := tnL_mem.mp hx
      obtain ⟨b', c, rfl, e⟩ := tnR_mem.mp hy
      injection e with e1 e2
      have q := congrArg T.size e1
      have := T.size_pos b
      have := T.size_pos b'
      simp only [T.size] at q
      omega
    · rintro x hx y hy rfl
      obtain ⟨v, hv, e⟩ := List.mem_map.mp hy
      rcases List.mem_append.mp hx with hx | hx
      · obtain ⟨a, b, rfl, rfl⟩ := tnL_mem.mp hx
        injection e with e1 e2
        exact ne_in_r e2
      · obtain ⟨b', c, rfl, rfl⟩ := tnR_mem.mp hx
        injection e with e1 e2
        exact ne_in_r e2.symm
    · rintro x hx y hy rfl
      obtain ⟨v, hv, e⟩ := List.mem_map.mp hy
      rcases List.mem_append.mp hx with hx | hx
      · rcases List.mem_append.mp hx with hx | hx
        · obtain ⟨a, b, rfl, rfl⟩ := tnL_mem.mp hx
          injection e with e1 e2
          exact ne_in_l e1.symm
        · obtain ⟨b', c, rfl, rfl⟩ := tnR_mem.mp hx
          injection e with e1 e2
          exact ne_in_l e1
      · obtain ⟨w, hw, e2⟩ := List.mem_map.mp hx
        rw [← e] at e2
        injection e2 with e3 e4
        rw [e3] at hw
        exact trn_irr hw
theorem trn_len : ∀ t : T, (trn t).length = t.size - 2
  | .leaf _ => rfl
  | .node l r => by
    have a := trn_len l
    have b := trn_len r
    have c : (tnL l r).length + (l.size - 2) = l.size - 1 := by
      cases l with
      | leaf k => rfl
      | node x y =>
        have := x.size_pos
        have := y.size_pos
        simp only [tnL, List.length_singleton, T.size]
        omega
    have d : (tnR l r).length + (r.size - 2) = r.size - 1 := by
      cases r with
      | leaf k => rfl
      | node x y =>
        have := x.size_pos
        have := y.size_pos
        simp only [tnR, List.length_singleton, T.size]
        omega
    have := l.size_pos
    have := r.size_pos
    simp only [trn, List.length_append, List.length_map, T.size, a, b]
    omega
/-! the way to the comb -/
def nxt : T → Option T
  | .leaf _ => none
  | .node l (.node b c) => some (.node (.node l b) c)
  | .node l (.leaf j) => (nxt l).map fun u => .node u (.leaf j)
theorem nxt_trn : ∀ {t u : T}, nxt t = some u → u ∈ trn t
  | .leaf _, u, h => by simp [nxt] at h
  | .node l (.node b c), u, h => by
    simp only [nxt, Option.some.injEq] at h
    exact trn_mem.mpr (.inr (.inl ⟨b, c, rfl, h.symm⟩))
  | .node l (.leaf j), u, h => by
    simp only [nxt, Option.map_eq_some_iff] at h
    obtain ⟨v, hv, rfl⟩ := h
    exact trn_mem.mpr (.inr (.inr (.inl ⟨v, nxt_trn hv, rfl⟩)))
/-- the measure: sizes of right sides -/
def rsz : T → Nat
  | .leaf _ => 0
  | .node l r => rsz l + rsz r + r.size
theorem nxt_less : ∀ {t u : T}, nxt t = some u → rsz u < rsz t
  | .leaf _, u, h => by simp [nxt] at h
  | .node l (.node b c), u, h => by
    simp only [nxt, Option.some.injEq] at h
    subst h
    have := c.size_pos
    simp only [rsz, T.size]
    omega
  | .node l (.leaf j), u, h => by
    simp only [nxt, Option.map_eq_some_iff] at h
    obtain ⟨v, hv, rfl⟩ := h
    have := nxt_less hv
    simp only [rsz, T.size]
    omega
/-- a chain: P holds of neighbours -/
inductive Chn (P : T → T → Prop) : List T → Prop
  | one (t : T) : Chn P [t]
  | cons {t u : T} {ts : List T} : P t u → Chn P (u :: ts) → Chn P (t :: u :: ts)
theorem Chn.map {P Q : T → T → Prop} {f : T → T} (h : ∀ a b, P a b → Q (f a) (f b)) : ∀ {ts : List T}, Chn P ts → Chn Q (ts.map f)
  | _, .one t => .one _
  | _, .cons p c => .cons (h _ _ p) (Chn.map h c)
theorem Chn.app {P : T → T → Prop} {x : T} : ∀ {a b : List T}, Chn P (a ++ [x]) → Chn P (x :: b) → Chn P (a ++ x :: b)
  | [], b, _, h => h
  | [y], b, .cons p _, h => .cons p h
  | y :: z :: a, b, .cons p c, h => .cons p (Chn.app (a := z :: a) c h)
theorem Chn.imp {P Q : T → T → Prop} (h : ∀ a b, P a b → Q a b) : ∀ {a : List T}, Chn P a → Chn Q a
  | _, .one _ => .one _
  | _, .cons p c => .cons (h _ _ p) (Chn.imp h c)
theorem Chn.rev {P : T → T → Prop} : ∀ {a : List T}, Chn P a → Chn (fun x y => P y x) a.reverse
  | _, .one _ => .one _
  | _, .cons (t := t) (u := u) (ts := ts) p c => by
    have h := Chn.rev c
    rw [List.reverse_cons] at h
    rw [List.reverse_cons, List.reverse_cons, List.append_assoc]
    exact Chn.app h (.cons p (.one _))
theorem Chn.pre {P : T → T → Prop} : ∀ {a : List T} {x y : T}, Chn P (a ++ [x, y]) → Chn P (a ++ [x])
  | [], _, _, .cons _ _ => .one _
  | [_], _, _, .cons p (.cons _ _) => .cons p (.one _)
  | _ :: z :: a, _, _, .cons p c => .cons p (Chn.pre (a := z :: a) c)
theorem Chn.suf {P : T → T → Prop} : ∀ {a : List T} {x : T} {b : List T}, Chn P (a ++ x :: b) → Chn P (x :: b)
  | [], _, _, h => h
  | [_], _, _, .cons _ c => c
  | _ :: z :: a, _, _, .cons _ c => Chn.suf (a := z :: a) c
abbrev Nx (a b : T) : Prop := nxt a = some b
theorem Chn.less : ∀ {ts : List T} {t : T}, Chn Nx (t :: ts) → ∀ u ∈ ts, rsz u < rsz t
  | [], _, _, u, h => nomatch h
  | v :: ts, t, .cons p c, u, h => by
    have := nxt_less p
    rcases List.mem_cons.mp h with rfl | h
    · exact this
    · exact Nat.lt_trans (c.less u h) this
theorem Chn.nodup : ∀ {ts : List T}, Chn Nx ts → ts.Nodup
  | _, .one t => List.pairwise_singleton _ _
  | _, .cons (t := t) (u := u) (ts := ts) p c => List.nodup_cons.mpr ⟨fun h => Nat.lt_irrefl _ ((Chn.cons p c).less t h), c.nodup⟩
/-- from one tree there is one way to a later one -/
theorem Chn.uniq {x : T} : ∀ {A B : List T} {u : T}, Chn Nx (u :: (A ++ [x])) → Chn Nx (u :: (B ++ [x])) → A = B
  | [], [], _, _, _ => rfl
  | [], b :: B, u, .cons p _, .cons q c => by
    have e : x = b := Option.some.inj (p.symm.trans q)
    subst e
    exact absurd (c.less x (by simp)) (Nat.lt_irrefl _)
  | a :: A, [], u, .cons p c, .cons q _ => by
    have e : a = x := Option.some.inj (p.symm.trans q)
    subst e
    exact absurd (c.less a (by simp)) (Nat.lt_irrefl _)
  | a :: A, b :: B, u, .cons p c, .cons q d => by
    have e : a = b := Option.some.inj (p.symm.trans q)
    subst e
    rw [Chn.uniq c d]
/-- the ways end apart -/
def Apart (A B : List T) : Prop := A = [] ∨ B = [] ∨ ∃ A' y B' z, A = A' ++ [y] ∧ B = B' ++ [z] ∧ y ≠ z
theorem link_nodup {A B : List T} {x : T} (h1 : Chn Nx (A ++ [x])) (h2 : Chn Nx (B ++ [x])) (ap : Apart A B) : (A ++ x :: B.reverse).Nodup := by
  have n1 := h1.nodup
  have n2 := h2.nodup
  rw [List.nodup_append] at n1 n2
  refine List.nodup_append.mpr ⟨n1.1, List.nodup_cons.mpr ⟨fun h => n2.2.2 x (List.mem_reverse.mp h) x (List.mem_singleton.mpr rfl) rfl, (List.reverse_perm B).nodup_iff.mpr n2.1⟩, ?_⟩
  rintro u hu v hv rfl
  rcases List.mem_cons.mp hv with rfl | hv
  · exact n1.2.2 u hu u (List.mem_singleton.mpr rfl) rfl
  have hv := List.mem_reverse.mp hv
  obtain ⟨A1, A2, rfl⟩ := List.append_of_mem hu
  obtain ⟨B1, B2, rfl⟩ := List.append_of_mem hv
  have e : A2 = B2 := Chn.uniq (u := u) (x := x) (Chn.suf (a := A1) (by simpa using h1)) (Chn.suf (a := B1) (by simpa using h2))
  subst e
  rcases ap with h | h | ⟨A', y, B', z, e1, e2, ne⟩
  · simp at h
  · simp at h
  · refine ne ?_
    have c1 : (A1 ++ u :: A2).getLast? = (u :: A2).getLast? := by rw [List.getLast?_append]; cases h : (u :: A2).getLast? with
      | none => simp at h
      | some _ => rfl
    have c2 : (B1 ++ u :: A2).getLast? = (u :: A2).getLast? := by rw [List.getLast?_append]; cases h : (u :: A2).getLast? with
      | none => simp at h
      | some _ => rfl
    have b1 := congrArg List.getLast? e1
    have b2 := congrArg List.getLast? e2
    rw [c1, List.getLast?_concat] at b1
    rw [c2, List.getLast?_concat] at b2
    exact Option.some.inj (b1.symm.trans b2)
/-- a left comb -/
def comb : List Nat → T
  | [] => .leaf 0
  | k :: ks => ks.foldl (fun t j => .node t (.leaf j)) (.leaf k)
theorem comb_snoc (k : Nat) (ks : List Nat) (j : Nat) : comb ((k :: ks) ++ [j]) = .node (comb (k :: ks)) (.leaf j) := by simp [comb]
theorem T.leaves_ne : ∀ t : T, ∃ k ks, t.leaves = k :: ks
  | .leaf k => ⟨k, [], rfl⟩
  | .node l r => by
    obtain ⟨k, ks, h⟩ := T.leaves_ne l
    exact ⟨k, ks ++ r.leaves, by simp [T.leaves, h]⟩
local macro_rules
  | `(tactic| simp_arith) => `(tactic| simp (disch := first | assumption | ((try simp only [List.length_cons, List.length_nil, wl_lenA, wl_lenM, wl_lenR, List.length_range, wl_len]) <;> omega) | (simp only [wl_noR, wl_fzR, D.noOwn, D.noOwnL, D.fz, D.fzL, noOwnL_ints, noOwnL_rows, fzL_ints, fzL_rows, wl_noL, wl_noA, wl_fzL, wl_fzA, wl_allT, noOwn_fz, noOwnL_fzL, T.toD_fz, T.toD_noOwn, noOwnL_trees, fzL_trees, Bool.and_self, Bool.true_and, Bool.and_true, Bool.not_false]; done)) only [hid_true, W_ok, W_ex, W_some, W_someD, wz_seq, wz_seqn, wz_seqr, wz_seqb, wz_seqc, wz_seqx, wz_exQ, wz_nxQ, wz_nil, wz_bk, wz_ct, wz_retN, wz_ret, wz_nilF, wz_nlP, wz_retQ, wz_drop, wz_dropQ, wz_if, wz_ift, wz_iff, wz_ife, wz_ifet, wz_ifef, wz_asg, wz_asgQ, wz_set, wz_tup, wz_lsg, wz_con, wz_conQ, wz_nilG, wz_rdF, wz_rdQ, wz_rdM, wz_rmQ, wz_okC, wz_toT, wz_noQ, wz_rdB, wz_bop2, wz_bop1, wz_bo2, wz_bo1, wz_l1, wz_op1, wz_at, wz_l2, wz_op2, wz_op2R, wz_a0, wz_av, wz_avQ, wz_avR, wz_ar, wz_rrQ, wz_app, wz_appQ, wz_appR, wz_cal, wz_calQ, wz_bkQ, wz_bkX, wz_rl0, wz_rl, wz_rlK, wz_lkV0, wz_lkV, wz_met, wz_metQ, wz_mak, wz_makQ, wz_makR, wz_makX, wz_lst, wz_lstQ, wz_tpl, wz_tplQ, wz_frz, wz_frzQ, wz_asb, wz_asbQ, wz_ofb, wz_ofbQ, wz_not, wz_notQ, wz_and, wz_andt, wz_andf, wz_or, wz_ort, wz_orf, wz_yes, wz_tru, wz_truQ, wz_trR, wz_trub, wz_tbP, wz_ch, wz_chQ, wz_chR, wz_chS, wz_for, wz_forQ, wz_cmp, wz_cmpQ, wz_wipe0, wz_wipe, wz_cmn, wz_cmnQ, wz_mkQ, wz_kn, wz_knQ, wz_kl, wz_klQ, wz_fld, wz_fldQ, wz_fdR, wz_aug, wz_auP, wz_augQ, wz_apd, wz_apP, wz_apdQ, wz_apR, wz_ext, wz_exP, wz_extQ, wz_exR, wz_par, wz_parQ, wz_put1, wz_p1P, wz_p1R, wz_put2, wz_p2P, wz_p2Q, wz_p2R, wz_p2S, wz_putS, wz_psP, wz_li, wz_liQ, wz_ti, wz_tiQ, wz_en, wz_enQ, wz_r1, wz_r1Q, wz_r2, wz_r2Q, wz_zi, wz_ziQ, wz_asi, wz_asiQ, wz_sl, wz_sl1, wz_sl2, wz_sl3, wz_lr1, wz_lrQ, wz_pop, wz_defn, wz_defr, wz_defx, wz_lpn, wz_lpc, wz_lpb, wz_lpr, wz_lpx, wz_bod, wz_raise, wz_raQ, wz_raS, wz_gF1, wz_gB1, wz_gB2, wz_gW, wz_tryO, wz_tyT, wz_tyF, wz_tyn, wz_tyr, wz_tyRn, wz_tyRr, wz_out, wz_tryA, wz_taT, wz_taF, wz_tan, wz_tar, wz_taR, wz_oun, wz_our, wz_xf, wz_xfQ, wz_noXn, wz_noXs, wz_noX0, wz_wht, wz_whf, wz_cb, wz_cbt, wz_cbf, wz_cbS, wz_ck, wz_ckt, wz_ckf, wz_ckS, wa_add, wa_addL, wa_addT, wa_addB, wa_sub, wa_neg, wa_int, wa_intT, wa_intF, wa_mul1, wa_mul2, wa_div, wa_mod, wa_pow18, wa_pow15, wa_pow12, wa_pow11, wa_pow6, wa_max, wa_min, wa_cmp, wa_lt1, wa_lt0, wa_le1, wa_le0, wa_gt1, wa_gt0, wa_ge1, wa_ge0, wa_eq1, wa_eq0, wa_isiII, wa_isiIB, wa_isiIS, wa_isiIL, wa_isiIT, wa_isiLI, wa_isiLB, wa_isiLL, wa_isiLT, wa_isiTI, wa_isiTB, wa_isiTL, wa_isiTT, wa_isiBI, wa_isiBB, wa_isiBL, wa_isiBT, wa_isiSI, wa_isiSB, wa_isiSL, wa_isiST, wa_isiNI, wa_isiNB, wa_isiNL, wa_isiNT, wa_truB, wa_truI, wa_truLc, wa_truLn, wa_truTc, wa_lenL, wa_lenT, wa_lenS, wa_lstL, wa_lstT, wa_lstS, wa_tplL, wa_tplT, wa_revL, wa_non, wa_nonI, wa_nonL, wa_nonT, wa_nnon, wa_nnonI, wa_nnonL, wa_nnonT, wz_fuN, wz_forN, wz_forC, wz_cuN, wz_cuS, wz_cmpN, wz_cmpC, wa_ixL, wa_ixT, wa_ixS, wa_ixK, wa_ixdL, wa_ixdT, wa_ixdS, wa_at0, wa_at1, wa_at2, wa_at3, wa_atm1, wa_atm2, wa_atR, wa_ixNp, wl_fzL, wl_noL, wl_allT, wl_fzA, wl_noA, wl_len, wl_rng, wl_rg, wl_enum, wl_zip, wl_lenA, wl_lenM, wa_slNK, wa_slKN, wa_slKK, wa_slSKK, wa_slSNK, wa_slSKN, wa_slTKN, wl_cutm1, wl_noR, wl_fzR, wl_lenR, wz_popQ1, wz_popQ2, wl_enumN, wl_enumC, wl_zipN, wl_zipC, wz_pk, wz_pkO, wz_pkP, wz_pkQ, wz_pkR, wz_pkS, wl_neC, wl_neN, wl_eqC, wl_eqN, wz_dnew, wz_disp, wz_dsQ, wz_dsP, wz_dsR, wa_keyI, wa_keyS, wa_isiKI, wa_isiKB, wa_isiKS, wa_isiKL, wa_isiKT, wa_nonK, wa_nnonK, wa_orW, wa_orKs, wa_orKn, wa_neS, wa_reprW, wz_al, wz_alP, wz_alQ, wz_alR, wz_isx, wz_isQ, wz_isR, wz_apAt, wz_aaP, wz_aaQ, wz_aaR, wa_isiIt, wz_dput, wz_dpP, wz_dpQ, wz_dpR, wz_ro, wz_roQ, wl_ft0, wl_ft1, wl_ft2, wl_ft3, wl_ft4, wl_ft5, wl_ft6, wl_fe0, wl_fe1, wl_fe2, wz_clr, wz_clP, wz_ali, wz_liP, wz_liQ1, wz_liR, wz_liS, wz_liQ2, wz_liQ3, wz_liT, wz_zs, wz_zsQ, eqD_int', neD_int', D.fz, D.fzL, D.noOwn, D.noOwnL, noOwnL_ints, noOwnL_rows, fzL_ints, fzL_rows, noOwn_fz, noOwnL_fzL, fz_fz, fzL_fzL, List.getElem?_cons_zero, List.getElem?_cons_succ, List.set_cons_zero, List.set_cons_succ, List.map_cons, List.map_nil, List.cons_append, List.nil_append, List.append_nil, List.length_cons, List.length_nil, List.length_range, List.reduceReplicate, Option.join_some, and_true, true_and, and_self, Bool.not_true, Bool.not_false, Bool.and_self, Bool.true_and, Bool.and_true, if_true, if_false, Int.toNat_natCast, Int.zero_add, Int.sub_add_cancel, Int.add_sub_cancel, Int.cast_ofNat_Int, Nat.zero_add, Nat.reduceAdd, Nat.reduceSub, Int.reduceToNat, Int.reduceAdd, Int.reduceSub, Int.reduceMul, Int.reduceNeg])
  | `(tactic| simp_arith [$hs,*]) => `(tactic| simp (disch := first | assumption | ((try simp only [List.length_cons, List.length_nil, wl_lenA, wl_lenM, wl_lenR, List.length_range, wl_len]) <;> omega) | (simp only [wl_noR, wl_fzR, D.noOwn, D.noOwnL, D.fz, D.fzL, noOwnL_ints, noOwnL_rows, fzL_ints, fzL_rows, wl_noL, wl_noA, wl_fzL, wl_fzA, wl_allT, noOwn_fz, noOwnL_fzL, T.toD_fz, T.toD_noOwn, noOwnL_trees, fzL_trees, Bool.and_self, Bool.true_and, Bool.and_true, Bool.not_false]; done)) only [hid_true, W_ok, W_ex, W_some, W_someD, wz_seq, wz_seqn, wz_seqr, wz_seqb, wz_seqc, wz_seqx, wz_exQ, wz_nxQ, wz_nil, wz_bk, wz_ct, wz_retN, wz_ret, wz_nilF, wz_nlP, wz_retQ, wz_drop, wz_dropQ, wz_if, wz_ift, wz_iff, wz_ife, wz_ifet, wz_ifef, wz_asg, wz_asgQ, wz_set, wz_tup, wz_lsg, wz_con, wz_conQ, wz_nilG, wz_rdF, wz_rdQ, wz_rdM, wz_rmQ, wz_okC, wz_toT, wz_noQ, wz_rdB, wz_bop2, wz_bop1, wz_bo2, wz_bo1, wz_l1, wz_op1, wz_at, wz_l2, wz_op2, wz_op2R, wz_a0, wz_av, wz_avQ, wz_avR, wz_ar, wz_rrQ, wz_app, wz_appQ, wz_appR, wz_cal, wz_calQ, wz_bkQ, wz_bkX, wz_rl0, wz_rl, wz_rlK, wz_lkV0, wz_lkV, wz_met, wz_metQ, wz_mak, wz_makQ, wz_makR, wz_makX, wz_lst, wz_lstQ, wz_tpl, wz_tplQ, wz_frz, wz_frzQ, wz_asb, wz_asbQ, wz_ofb, wz_ofbQ, wz_not, wz_notQ, wz_and, wz_andt, wz_andf, wz_or, wz_ort, wz_orf, wz_yes, wz_tru, wz_truQ, wz_trR, wz_trub, wz_tbP, wz_ch, wz_chQ, wz_chR, wz_chS, wz_for, wz_forQ, wz_cmp, wz_cmpQ, wz_wipe0, wz_wipe, wz_cmn, wz_cmnQ, wz_mkQ, wz_kn, wz_knQ, wz_kl, wz_klQ, wz_fld, wz_fldQ, wz_fdR, wz_aug, wz_auP, wz_augQ, wz_apd, wz_apP, wz_apdQ, wz_apR, wz_ext, wz_exP, wz_extQ, wz_exR, wz_par, wz_parQ, wz_put1, wz_p1P, wz_p1R, wz_put2, wz_p2P, wz_p2Q, wz_p2R, wz_p2S, wz_putS, wz_psP, wz_li, wz_liQ, wz_ti, wz_tiQ, wz_en, wz_enQ, wz_r1, wz_r1Q, wz_r2, wz_r2Q, wz_zi, wz_ziQ, wz_asi, wz_asiQ, wz_sl, wz_sl1, wz_sl2, wz_sl3, wz_lr1, wz_lrQ, wz_pop, wz_defn, wz_defr, wz_defx, wz_lpn, wz_lpc, wz_lpb, wz_lpr, wz_lpx, wz_bod, wz_raise, wz_raQ, wz_raS, wz_gF1, wz_gB1, wz_gB2, wz_gW, wz_tryO, wz_tyT, wz_tyF, wz_tyn, wz_tyr, wz_tyRn, wz_tyRr, wz_out, wz_tryA, wz_taT, wz_taF, wz_tan, wz_tar, wz_taR, wz_oun, wz_our, wz_xf, wz_xfQ, wz_noXn, wz_noXs, wz_noX0, wz_wht, wz_whf, wz_cb, wz_cbt, wz_cbf, wz_cbS, wz_ck, wz_ckt, wz_ckf, wz_ckS, wa_add, wa_addL, wa_addT, wa_addB, wa_sub, wa_neg, wa_int, wa_intT, wa_intF, wa_mul1, wa_mul2, wa_div, wa_mod, wa_pow18, wa_pow15, wa_pow12, wa_pow11, wa_pow6, wa_max, wa_min, wa_cmp, wa_lt1, wa_lt0, wa_le1, wa_le0, wa_gt1, wa_gt0, wa_ge1, wa_ge0, wa_eq1, wa_eq0, wa_isiII, wa_isiIB, wa_isiIS, wa_isiIL, wa_isiIT, wa_isiLI, wa_isiLB, wa_isiLL, wa_isiLT, wa_isiTI, wa_isiTB, wa_isiTL, wa_isiTT, wa_isiBI, wa_isiBB, wa_isiBL, wa_isiBT, wa_isiSI, wa_isiSB, wa_isiSL, wa_isiST, wa_isiNI, wa_isiNB, wa_isiNL, wa_isiNT, wa_truB, wa_truI, wa_truLc, wa_truLn, wa_truTc, wa_lenL, wa_lenT, wa_lenS, wa_lstL, wa_lstT, wa_lstS, wa_tplL, wa_tplT, wa_revL, wa_non, wa_nonI, wa_nonL, wa_nonT, wa_nnon, wa_nnonI, wa_nnonL, wa_nnonT, wz_fuN, wz_forN, wz_forC, wz_cuN, wz_cuS, wz_cmpN, wz_cmpC, wa_ixL, wa_ixT, wa_ixS, wa_ixK, wa_ixdL, wa_ixdT, wa_ixdS, wa_at0, wa_at1, wa_at2, wa_at3, wa_atm1, wa_atm2, wa_atR, wa_ixNp, wl_fzL, wl_noL, wl_allT, wl_fzA, wl_noA, wl_len, wl_rng, wl_rg, wl_enum, wl_zip, wl_lenA, wl_lenM, wa_slNK, wa_slKN, wa_slKK, wa_slSKK, wa_slSNK, wa_slSKN, wa_slTKN, wl_cutm1, wl_noR, wl_fzR, wl_lenR, wz_popQ1, wz_popQ2, wl_enumN, wl_enumC, wl_zipN, wl_zipC, wz_pk, wz_pkO, wz_pkP, wz_pkQ, wz_pkR, wz_pkS, wl_neC, wl_neN, wl_eqC, wl_eqN, wz_dnew, wz_disp, wz_dsQ, wz_dsP, wz_dsR, wa_keyI, wa_keyS, wa_isiKI, wa_isiKB, wa_isiKS, wa_isiKL, wa_isiKT, wa_nonK, wa_nnonK, wa_orW, wa_orKs, wa_orKn, wa_neS, wa_reprW, wz_al, wz_alP, wz_alQ, wz_alR, wz_isx, wz_isQ, wz_isR, wz_apAt, wz_aaP, wz_aaQ, wz_aaR, wa_isiIt, wz_dput, wz_dpP, wz_dpQ, wz_dpR, wz_ro, wz_roQ, wl_ft0, wl_ft1, wl_ft2, wl_ft3, wl_ft4, wl_ft5, wl_ft6, wl_fe0, wl_fe1, wl_fe2, wz_clr, wz_clP, wz_ali, wz_liP, wz_liQ1, wz_liR, wz_liS, wz_liQ2, wz_liQ3, wz_liT, wz_zs, wz_zsQ, eqD_int', neD_int', D.fz, D.fzL, D.noOwn, D.noOwnL, noOwnL_ints, noOwnL_rows, fzL_ints, fzL_rows, noOwn_fz, noOwnL_fzL, fz_fz, fzL_fzL, List.getElem?_cons_zero, List.getElem?_cons_succ, List.set_cons_zero, List.set_cons_succ, List.map_cons, List.map_nil, List.cons_append, List.nil_append, List.append_nil, List.length_cons, List.length_nil, List.length_range, List.reduceReplicate, Option.join_some, and_true, true_and, and_self, Bool.not_true, Bool.not_false, Bool.and_self, Bool.true_and, Bool.and_true, if_true, if_false, Int.toNat_natCast, Int.zero_add, Int.sub_add_cancel, Int.add_sub_cancel, Int.cast_ofNat_Int, Nat.zero_add, Nat.reduceAdd, Nat.reduceSub, Int.reduceToNat, Int.reduceAdd, Int.reduceSub, Int.reduceMul, Int.reduceNeg, $hs,*])
/-! all rotations, by the program and by the law -/
theorem turned8_ok : ∀ (t : T) (d : Nat), t.size ≤ d → t.size ≤ 20 → run_turned d [t.toD] = .ok (.lst true ((trn t).map T.toD)) [some t.toD]
  | .leaf _, 0, h, _ => absurd h (by simp [T.size])
  | .leaf k, d + 1, _, _ => by
    refine eq_of_Wr fun Q hQ => ?_
    rw [ws_turned]
    simp_arith [wb_turned, T.toD]
    exact hQ
  | .node l r, 0, h, _ => absurd h (by have := T.size_pos l; simp only [T.size]; omega)
  | .node l r, d + 1, hd, h1 => by
    have sl := T.size_pos l
    have sr := T.size_pos r
    simp only [T.size] at hd h1
    have hL := turned8_ok l d (by omega) (by omega)
    have hR := turned8_ok r d (by omega) (by omega)
    have ll := trn_len l
    have lr := trn_len r
    have f1 := fzL_trees (trn l)
    have f2 := fzL_trees (trn r)
    have tD : (T.node l r).toD = .tup [l.toD, r.toD] := rfl
    refine eq_of_WrH fun Q hQ => ?_
    obtain ⟨b0, b1, b2, b3, b4, b5, b6, b7, b8, -⟩ := wb_turned
    have tail : ∀ (xs : List T), xs.length ≤ 2 → xs = tnL l r ++ tnR l r → Hid (Wo (bk_turned_3 (run_turned d) [some (.tup [l.toD, r.toD]), some (.lst true (xs.map T.toD)), some l.toD, some r.toD, none]) (defQ 1 [0] Q noX)) := by
      intro xs hx ex
      refine ⟨?_⟩
      simp_arith [b3, T.toD_fz, T.toD_noOwn, hL, fzL_trees, noOwnL_trees]
      refine (W_compPH (l := trn l) (f := T.toD) (fun dn acc e => acc = (dn.map fun u => T.node u r).map T.toD ∧ e = [some (.tup [l.toD, r.toD]), some (.lst true (xs.map T.toD)), some l.toD, some r.toD, none]) ⟨rfl, rfl⟩ ?_ ?_).h
      · rintro dn a rest acc e hd ⟨rfl, rfl⟩
        refine ⟨?_⟩
        simp_arith [wz_cb, wz_cbt, T.toD_fz, T.toD_noOwn]
        simp [T.toD]
      rintro acc e ⟨rfl, rfl⟩
      have n1 := noOwnL_trees ((trn l).map fun u => T.node u r)
      have n2 := noOwnL_trees xs
      refine ⟨?_⟩
      simp_arith [b2, T.toD_fz, T.toD_noOwn, hR, fzL_trees, noOwnL_trees]
      refine (W_compPH (l := trn r) (f := T.toD) (fun dn acc e => acc = (dn.map fun u => T.node l u).map T.toD ∧ e = [some (.tup [l.toD, r.toD]), some (.lst false (xs.map T.toD ++ ((trn l).map fun u => T.node u r).map T.toD)), some l.toD, some r.toD, none]) ⟨rfl, rfl⟩ ?_ ?_).h
      · rintro dn a rest acc e hd ⟨rfl, rfl⟩
        refine ⟨?_⟩
        simp_arith [wz_cb, wz_cbt, T.toD_fz, T.toD_noOwn]
        simp [T.toD]
      rintro acc e ⟨rfl, rfl⟩
      have n3 := noOwnL_trees ((trn r).map fun u => T.node l u)
      have n4 := noOwnL_trees (xs ++ (trn l).map fun u => T.node u r)
      rw [List.map_append] at n4
      have a1 : addD (.lst false (xs.map T.toD ++ ((trn l).map fun u => T.node u r).map T.toD)) (.lst true (((trn r).map fun u => T.node l u).map T.toD)) = some (.lst true ((trn (.node l r)).map T.toD)) := by
        rw [wa_addL (by simp; omega) n4 n3, trn, ← ex]
        simp only [List.map_append]
      refine ⟨?_⟩
      simp_arith [b2, a1, fzL_trees]
      exact hQ
    rw [ws_turned]
    cases l with
    | leaf k =>
      cases r with
      | leaf j =>
        refine ⟨?_⟩
        simp_arith [b0, b1, b4, b5, b6, b7, b8, T.toD]
        exact (tail [] (by simp) rfl).h
      | node b c =>
        have i0 : ixF (.tup [b.toD, c.toD]) (.int 0) = some b.toD := by simp [ixF, ixD, L2.atI, ixN, T.toD_noOwn]
        have i1 : ixF (.tup [b.toD, c.toD]) (.int 1) = some c.toD := by simp [ixF, ixD, L2.atI, ixN, T.toD_noOwn]
        refine ⟨?_⟩
        simp_arith [b0, b1, b4, b5, b6, b7, b8, T.toD, T.toD_fz, T.toD_noOwn, i0, i1]
        exact (tail [.node (.node (.leaf k) b) c] (by simp) rfl).h
    | node a b =>
      have j0 : ixF (.tup [a.toD, b.toD]) (.int 0) = some a.toD := by simp [ixF, ixD, L2.atI, ixN, T.toD_noOwn]
      have j1 : ixF (.tup [a.toD, b.toD]) (.int 1) = some b.toD := by simp [ixF, ixD, L2.atI, ixN, T.toD_noOwn]
      cases r with
      | leaf j =>
        refine ⟨?_⟩
        simp_arith [b0, b1, b4, b5, b6, b7, b8, T.toD, T.toD_fz, T.toD_noOwn, j0, j1]
        exact (tail [.node a (.node b (.leaf j))] (by simp) rfl).h
      | node b' c =>
        have i0 : ixF (.tup [b'.toD, c.toD]) (.int 0) = some b'.toD := by simp [ixF, ixD, L2.atI, ixN, T.toD_noOwn]
        have i1 : ixF (.tup [b'.toD, c.toD]) (.int 1) = some c.toD := by simp [ixF, ixD, L2.atI, ixN, T.toD_noOwn]
        refine ⟨?_⟩
        simp_arith [b0, b1, b4, b5, b6, b7, b8, T.toD, T.toD_fz, T.toD_noOwn, i0, i1, j0, j1]
        exact (tail [.node a (.node b (.node b' c)), .node (.node (.node a b) b') c] (by simp) rfl).h
theorem lturned8_ok : ∀ (t : T) (d : Nat), t.size ≤ d → t.size ≤ 20 → run_Lturned d [t.toD] = .ok (.lst true ((trn t).map T.toD)) [some t.toD]
  | .leaf _, 0, h, _ => absurd h (by simp [T.size])
  | .leaf k, d + 1, _, _ => by
    refine eq_of_Wr fun Q hQ => ?_
    rw [ws_Lturned]
    simp_arith [wb_Lturned, T.toD]
    exact hQ
  | .node l r, 0, h, _ => absurd h (by have := T.size_pos l; simp only [T.size]; omega)
  | .node l r, d + 1, hd, h1 => by
    have sl := T.size_pos l
    have sr := T.size_pos r
    simp only [T.size] at hd h1
    have hL := lturned8_ok l d (by omega) (by omega)
    have hR := lturned8_ok r d (by omega) (by omega)
    have ll := trn_len l
    have lr := trn_len r
    have f1 := fzL_trees (trn l)
    have f2 := fzL_trees (trn r)
    have tD : (T.node l r).toD = .tup [l.toD, r.toD] := rfl
    refine eq_of_WrH fun Q hQ => ?_
    obtain ⟨b0, b1, b2, b3, b4, b5, b6, b7, b8, -⟩ := wb_Lturned
    have tail : ∀ (xs : List T), xs.length ≤ 2 → xs = tnL l r ++ tnR l r → Hid (Wo (bk_Lturned_3 (run_Lturned d) [some (.tup [l.toD, r.toD]), some (.lst true (xs.map T.toD)), some l.toD, some r.toD, none]) (defQ 1 [0] Q noX)) := by
      intro xs hx ex
      refine ⟨?_⟩
      simp_arith [b3, T.toD_fz, T.toD_noOwn, hL, fzL_trees, noOwnL_trees]
      refine (W_compPH (l := trn l) (f := T.toD) (fun dn acc e => acc = (dn.map fun u => T.node u r).map T.toD ∧ e = [some (.tup [l.toD, r.toD]), some (.lst false (xs.map T.toD)), some l.toD, some r.toD, none]) ⟨rfl, rfl⟩ ?_ ?_).h
      · rintro dn a rest acc e hd ⟨rfl, rfl⟩
        refine ⟨?_⟩
        simp_arith [wz_cb, wz_cbt, T.toD_fz, T.toD_noOwn]
        simp [T.toD]
      rintro acc e ⟨rfl, rfl⟩
      have n1 := noOwnL_trees ((trn l).map fun u => T.node u r)
      have n2 := noOwnL_trees xs
      refine ⟨?_⟩
      simp_arith [b2, T.toD_fz, T.toD_noOwn, hR, fzL_trees, noOwnL_trees, wa_addL]
      refine (W_compPH (l := trn r) (f := T.toD) (fun dn acc e => acc = (dn.map fun u => T.node l u).map T.toD ∧ e = [some (.tup [l.toD, r.toD]), some (.lst false (xs.map T.toD ++ ((trn l).map fun u => T.node u r).map T.toD)), some l.toD, some r.toD, none]) ⟨rfl, rfl⟩ ?_ ?_).h
      · rintro dn a rest acc e hd ⟨rfl, rfl⟩
        refine ⟨?_⟩
        simp_arith [wz_cb, wz_cbt, T.toD_fz, T.toD_noOwn]
        simp [T.toD]
      rintro acc e ⟨rfl, rfl⟩
      have n3 := noOwnL_trees ((trn r).map fun u => T.node l u)
      have n4 := noOwnL_trees (xs ++ (trn l).map fun u => T.node u r)
      rw [List.map_append] at n4
      have a1 : addD (.lst false (xs.map T.toD ++ ((trn l).map fun u => T.node u r).map T.toD)) (.lst true (((trn r).map fun u => T.node l u).map T.toD)) = some (.lst true ((trn (.node l r)).map T.toD)) := by
        rw [wa_addL (by simp; omega) n4 n3, trn, ← ex]
        simp only [List.map_append]
      refine ⟨?_⟩
      simp_arith [b2, a1, fzL_trees]
      exact hQ
    rw [ws_Lturned]
    cases l with
    | leaf k =>
      cases r with
      | leaf j =>
        refine ⟨?_⟩
        simp_arith [b0, b1, b4, b5, b6, b7, b8, T.toD]
        exact (tail [] (by simp) rfl).h
      | node b c =>
        have i0 : ixF (.tup [b.toD, c.toD]) (.int 0) = some b.toD := by simp [ixF, ixD, L2.atI, ixN, T.toD_noOwn]
        have i1 : ixF (.tup [b.toD, c.toD]) (.int 1) = some c.toD := by simp [ixF, ixD, L2.atI, ixN, T.toD_noOwn]
        refine ⟨?_⟩
        simp_arith [b0, b1, b4, b5, b6, b7, b8, T.toD, T.toD_fz, T.toD_noOwn, i0, i1]
        exact (tail [.node (.node (.leaf k) b) c] (by simp) rfl).h
    | node a b =>
      have j0 : ixF (.tup [a.toD, b.toD]) (.int 0) = some a.toD := by simp [ixF, ixD, L2.atI, ixN, T.toD_noOwn]
      have j1 : ixF (.tup [a.toD, b.toD]) (.int 1) = some b.toD := by simp [ixF, ixD, L2.atI, ixN, T.toD_noOwn]
      cases r with
      | leaf j =>
        refine ⟨?_⟩
        simp_arith [b0, b1, b4, b5, b6, b7, b8, T.toD, T.toD_fz, T.toD_noOwn, j0, j1]
        exact (tail [.node a (.node b (.leaf j))] (by simp) rfl).h
      | node b' c =>
        have i0 : ixF (.tup [b'.toD, c.toD]) (.int 0) = some b'.toD := by simp [ixF, ixD, L2.atI, ixN, T.toD_noOwn]
        have i1 : ixF (.tup [b'.toD, c.toD]) (.int 1) = some c.toD := by simp [ixF, ixD, L2.atI, ixN, T.toD_noOwn]
        refine ⟨?_⟩
        simp_arith [b0, b1, b4, b5, b6, b7, b8, T.toD, T.toD_fz, T.toD_noOwn, i0, i1, j0, j1]
        exact (tail [.node a (.node b (.node b' c)), .node (.node (.node a b) b') c] (by simp) rfl).h
/-! to_left, linked -/
structure ToL8 (t : T) (ts : List T) : Prop where
  chn : Chn Nx ts
  hd : ts.head? = some t
  lst : ts.getLast? = some (comb t.leaves)
  lv : ∀ u ∈ ts, u.leaves = t.leaves
  len : ts.length ≤ rsz t + 1
theorem rsz_le : ∀ t : T, rsz t ≤ t.size * t.size
  | .leaf _ => by simp [rsz]
  | .node l r => by
    have h1 := rsz_le l
    have h2 := rsz_le r
    have h3 : r.size ≤ l.size * r.size := Nat.le_mul_of_pos_left _ l.size_pos
    have e : (l.size + r.size) * (l.size + r.size) = l.size * l.size + l.size * r.size + (r.size * l.size + r.size * r.size) := by rw [Nat.add_mul, Nat.mul_add, Nat.mul_add]
    simp only [rsz, T.size]
    rw [e]
    omega
theorem to_left8 : ∀ (d : Nat) (t : T), rsz t < d → rsz t ≤ 1000 → ∃ ts, ToL8 t ts ∧ run_to_left d [t.toD] = .ok (.lst true (ts.map T.toD)) [some t.toD]
  | 0, _, h, _ => absurd h (by omega)
  | d + 1, .leaf k, _, _ => by
    refine ⟨[.leaf k], ⟨.one _, rfl, rfl, by simp, by simp⟩, eq_of_Wr fun Q hQ => ?_⟩
    rw [ws_to_left]
    simp_arith [wb_to_left, T.toD]
    exact hQ
  | d + 1, .node l (.leaf j), h, h1 => by
    simp only [rsz, T.size] at h h1
    obtain ⟨ts, T1, e1⟩ := to_left8 d l (by omega) (by omega)
    have hlen := T1.len
    refine ⟨ts.map fun u => .node u (.leaf j), ⟨T1.chn.map fun a b p => by simp only [Nx, nxt]; rw [show nxt a = some b from p]; rfl, by simp [T1.hd], ?_, ?_, by simp [rsz, T.size]; omega⟩, eq_of_Wr fun Q hQ => ?_⟩
    · obtain ⟨k, ks, hk⟩ := T.leaves_ne l
      rw [List.getLast?_map, T1.lst]
      simp only [Option.map_some, T.leaves, hk]
      rw [comb_snoc]
    · intro u hu
      obtain ⟨v, hv, rfl⟩ := List.mem_map.mp hu
      simp [T.leaves, T1.lv v hv]
    · have ed : (T.node l (.leaf j)).toD = .tup [l.toD, .int (j : Int)] := rfl
      rw [ed] at hQ ⊢
      rw [ws_to_left]
      simp_arith [wb_to_left, T.toD_fz, T.toD_noOwn, e1, fzL_trees]
      refine W_compP (l := ts) (f := T.toD) (fun dn acc e => acc = (dn.map fun u => T.node u (.leaf j)).map T.toD ∧ e = [some (.tup [l.toD, .int (j : Int)]), some l.toD, some (.int (j : Int)), none]) ⟨rfl, rfl⟩ ?_ ?_
      · rintro dn a rest acc e hd ⟨rfl, rfl⟩
        simp_arith [wz_cb, wz_cbt, T.toD_fz, T.toD_noOwn]
        simp [T.toD]
      · rintro acc e ⟨rfl, rfl⟩
        exact hQ
  | d + 1, .node l (.node b c), h, h1 => by
    have sc := T.size_pos c
    simp only [rsz, T.size] at h h1
    obtain ⟨ts, T1, e1⟩ := to_left8 d (.node (.node l b) c) (by simp only [rsz]; omega) (by simp only [rsz]; omega)
    have hlen := T1.len
    simp only [rsz] at hlen
    obtain ⟨us, rfl⟩ : ∃ us, ts = T.node (.node l b) c :: us := by
      have := T1.hd
      cases ts with
      | nil => simp at this
      | cons x us => simp at this; exact ⟨us, by rw [this]⟩
    have lv2 : (T.node (.node l b) c).leaves = (T.node l (.node b c)).leaves := by simp [T.leaves]
    refine ⟨T.node l (.node b c) :: T.node (.node l b) c :: us, ⟨.cons rfl T1.chn, rfl, ?_, ?_, by simp only [List.length_cons, rsz, T.size] at hlen ⊢; omega⟩, eq_of_Wr fun Q hQ => ?_⟩
    · rw [List.getLast?_cons_cons, T1.lst, lv2]
    · intro u hu
      rcases List.mem_cons.mp hu with rfl | hu
      · rfl
      · rw [T1.lv u hu, lv2]
    · have ed : (T.node l (.node b c)).toD = .tup [l.toD, .tup [b.toD, c.toD]] := rfl
      have ed2 : (T.node (.node l b) c).toD = .tup [.tup [l.toD, b.toD], c.toD] := rfl
      have i0 : ixF (.tup [b.toD, c.toD]) (.int 0) = some b.toD := by simp [ixF, ixD, L2.atI, ixN, T.toD_noOwn]
      have i1 : ixF (.tup [b.toD, c.toD]) (.int 1) = some c.toD := by simp [ixF, ixD, L2.atI, ixN, T.toD_noOwn]
      have a1 : addD (.lst true [.tup [l.toD, .tup [b.toD, c.toD]]]) (.lst true (T.toD (.node (.node l b) c) :: us.map T.toD)) = some (.lst true (.tup [l.toD, .tup [b.toD, c.toD]] :: T.toD (.node (.node l b) c) :: us.map T.toD)) := by
        have n1 : D.noOwnL (T.toD (.node (.node l b) c) :: us.map T.toD) = true := noOwnL_trees (T.node (.node l b) c :: us)
        have n2 : D.noOwnL [D.tup [l.toD, .tup [b.toD, c.toD]]] = true := by simp only [D.noOwnL, D.noOwn, T.toD_noOwn]; rfl
        rw [wa_addL (by simp only [List.length_cons, List.length_nil, List.length_map] at hlen ⊢; omega) n2 n1]
        rfl
      rw [List.map_cons] at e1
      rw [List.map_cons, List.map_cons, ed] at hQ
      rw [ed]
      rw [ed2] at e1 a1 hQ
      rw [ws_to_left]
      simp_arith [wb_to_left, T.toD_fz, T.toD_noOwn, i0, i1, e1, a1, -wa_addL]
      exact hQ
theorem to_left80 {t : T} (h : t.size ≤ 8) : ∃ ts, ToL8 t ts ∧ ts.length ≤ 65 ∧ run_to_left 80 [t.toD] = .ok (.lst true (ts.map T.toD)) [some t.toD] := by
  have h1 := rsz_le t
  have : t.size * t.size ≤ 8 * 8 := Nat.mul_le_mul h h
  obtain ⟨ts, T1, e⟩ := to_left8 80 t (by omega) (by omega)
  exact ⟨ts, T1, by have := T1.len; omega, e⟩
/-- a way from t -/
structure Way8 (m : Nat) (t : T) (ts : List T) : Prop where
  chn : Chn Nx ts
  hd : ts.head? = some t
  lv : ∀ u ∈ ts, u.leaves = List.range m
theorem Way8.pre {m : Nat} {t : T} {a : List T} {x y : T} (h : Way8 m t (a ++ [x, y])) : Way8 m t (a ++ [x]) :=
  ⟨h.chn.pre, by have := h.hd; cases a <;> simpa using this, fun u hu => h.lv u (by simp at hu ⊢; rcases hu with h | h <;> simp [h])⟩
/-- what linked gives -/
structure Lnk (m : Nat) (t u : T) (ts : List T) : Prop where
  chn : Chn (fun a b => b ∈ trn a) ts
  hd : ts.head? = some t
  lst : ts.getLast? = some u
  lv : ∀ v ∈ ts, v.leaves = List.range m
  nd : ts.Nodup
  len : ts.length ≤ 200
theorem snoc_or {α : Type} (l : List α) : l = [] ∨ ∃ a x, l = a ++ [x] := by
  rcases List.eq_nil_or_concat l with h | ⟨A, x, h⟩
  · exact .inl h
  · exact .inr ⟨A, x, by simpa using h⟩
theorem lnk_of {m : Nat} {t u x : T} {A B : List T} (w1 : Way8 m t (A ++ [x])) (w2 : Way8 m u (B ++ [x])) (ap : Apart A B) (hl : A.length + B.length ≤ 140) : Lnk m t u (A ++ x :: B.reverse) := by
  refine ⟨?_, ?_, ?_, ?_, link_nodup w1.chn w2.chn ap, by simp; omega⟩
  · have c2 := Chn.rev w2.chn
    rw [List.reverse_append] at c2
    exact Chn.app (w1.chn.imp fun a b h => nxt_trn h) (c2.imp fun a b h => trn_back (nxt_trn h))
  · have := w1.hd
    cases A <;> simpa using this
  · have := w2.hd
    cases B with
    | nil => simpa using this
    | cons b B =>
      rw [List.reverse_cons, show A ++ x :: (B.reverse ++ [b]) = (A ++ x :: B.reverse) ++ [b] by simp, List.getLast?_concat]
      simp at this
      rw [this]
  · intro v hv
    simp at hv
    rcases hv with h | h | h
    · exact w1.lv v (by simp [h])
    · exact w1.lv v (by simp [h])
    · exact w2.lv v (by simp [h])
theorem linked8 {t u : T} {m : Nat} (ht : t.leaves = List.range m) (hu : u.leaves = List.range m) (h8 : m ≤ 8) (k1 : run_check_tree [t.toD] = .ok .non [some t.toD]) (k2 : run_check_tree [u.toD] = .ok .non [some u.toD]) : ∃ ts, Lnk m t u ts ∧ run_linked [t.toD, u.toD] = .ok (.lst true (ts.map T.toD)) [some t.toD, some u.toD] := by
  have st : t.size = m := by rw [← T.leaves_length, ht, List.length_range]
  have su : u.size = m := by rw [← T.leaves_length, hu, List.length_range]
  have h50 : ∀ v : T, v.leaves = List.range m → v.size ≤ 50 := fun v hv => by rw [← T.leaves_length, hv, List.length_range]; omega
  obtain ⟨ts, T1, l1, e1⟩ := to_left80 (t := t) (by omega)
  obtain ⟨us, T2, l2, e2⟩ := to_left80 (t := u) (by omega)
  obtain ⟨A0, x0, rfl⟩ : ∃ A0 x0, ts = A0 ++ [x0] := by
    rcases snoc_or ts with h | h
    · have := T1.hd; subst h; simp at this
    · exact h
  obtain ⟨B0, y0, rfl⟩ : ∃ B0 y0, us = B0 ++ [y0] := by
    rcases snoc_or us with h | h
    · have := T2.hd; subst h; simp at this
    · exact h
  have hx : x0 = comb (List.range m) := by have := T1.lst; simpa [ht] using this
  have hy : y0 = comb (List.range m) := by have := T2.lst; simpa [hu] using this
  obtain rfl : y0 = x0 := by rw [hx, hy]
  have W1 : Way8 m t (A0 ++ [y0]) := ⟨T1.chn, T1.hd, fun v hv => by rw [T1.lv v hv, ht]⟩
  have W2 : Way8 m u (B0 ++ [y0]) := ⟨T2.chn, T2.hd, fun v hv => by rw [T2.lv v hv, hu]⟩
  have cy := h50 y0 (W1.lv _ (by simp))
  have ne : orK (neD y0.toD y0.toD) (neSD y0.toD y0.toD) = some (.bl false) := by rw [neD_tree cy cy]; simp [orK]
  simp only [List.map_append, List.map_cons, List.map_nil, List.length_append, List.length_cons, List.length_nil] at e1 e2 l1 l2
  refine exists_of_Wr (I := fun ts => Lnk m t u ts) (fun ts => .lst true (ts.map T.toD)) (fun _ => [some t.toD, some u.toD]) fun Q hQ => ?_
  obtain ⟨b0, b1, b2, b3, b4, b5, b6, b7, b8⟩ := wb_linked
  rw [ws_linked]
  simp_arith [b3, b4, b5, b6, b7, b8, T.toD_fz, k1, k2, e1, e2, ne, T.toD_noOwn]
  refine W_while (fun k e => ∃ A B x, k = A.length ∧ Way8 m t (A ++ [x]) ∧ Way8 m u (B ++ [x]) ∧ A.length + B.length ≤ 140 ∧ e = [some t.toD, some u.toD, some (.lst true (A.map T.toD ++ [x.toD])), some (.lst true (B.map T.toD ++ [x.toD]))]) ?_ A0.length _ _ ⟨A0, B0, y0, rfl, W1, W2, by omega, rfl⟩ (by omega)
  rintro k e ⟨A, B, x, rfl, w1, w2, hl, rfl⟩
  have hex : Apart A B → Wo (bk_linked_2 [some t.toD, some u.toD, some (.lst true (A.map T.toD ++ [x.toD])), some (.lst true (B.map T.toD ++ [x.toD]))]) (defQ 2 [0, 1] Q noX) := fun ap => by
    have fA : ∀ A : List T, D.fzL (A.map T.toD) = A.map T.toD := fzL_trees
    have nA : ∀ A : List T, D.noOwnL (A.map T.toD) = true := noOwnL_trees
    simp_arith [b2, b8, T.toD_fz, T.toD_noOwn, fA, nA, List.append_assoc, List.singleton_append]
    have h := hQ (A ++ x :: B.reverse) (lnk_of w1 w2 ap hl)
    simpa using h
  have nA : ∀ A : List T, D.noOwnL (A.map T.toD) = true := noOwnL_trees
  rcases snoc_or A with rfl | ⟨A, y, rfl⟩
  · simp_arith [T.toD_fz, T.toD_noOwn, nA, wz_wht, wz_whf]
    exact hex (.inl rfl)
  rcases snoc_or B with rfl | ⟨B, z, rfl⟩
  · simp_arith [T.toD_fz, T.toD_noOwn, nA, wz_wht, wz_whf]
    exact hex (.inr (.inl rfl))
  have hex2 : y ≠ z → _ := fun h => hex (.inr (.inr ⟨A, y, B, z, rfl, rfl, h⟩))
  clear hex
  simp only [List.map_append, List.map_cons, List.map_nil, List.append_assoc, List.singleton_append] at *
  have hy := h50 y (w1.lv _ (by simp))
  have hz := h50 z (w2.lv _ (by simp))
  by_cases hyz : y = z
  · subst hyz
    have eq : orK (eqD y.toD y.toD) (eqXD y.toD y.toD) = some (.bl true) := by rw [eqD_tree hy hy]; simp [orK]
    simp_arith [b1, T.toD_fz, T.toD_noOwn, nA, wz_wht, wz_whf, eq]
    exact ⟨A.length, by simp, A, B, y, rfl, w1.pre, w2.pre, by simp at hl; omega, rfl⟩
  · have eq : orK (eqD y.toD z.toD) (eqXD y.toD z.toD) = some (.bl false) := by rw [eqD_tree hy hz, decide_eq_false hyz]; rfl
    simp_arith [T.toD_fz, T.toD_noOwn, nA, wz_wht, wz_whf, eq]
    exact hex2 hyz
/-- trees over rows of other sizes end apart -/
theorem linked_sizes {t u : T} {m n : Nat} (ht : t.leaves = List.range m) (hu : u.leaves = List.range n) (h8 : m ≤ 8) (n8 : n ≤ 8) (hne : m ≠ n) (k1 : run_check_tree [t.toD] = .ok .non [some t.toD]) (k2 : run_check_tree [u.toD] = .ok .non [some u.toD]) : run_linked [t.toD, u.toD] = .ex 18 ["why"] [.str "sizes"] [some t.toD, some u.toD] := by
  have st : t.size = m := by rw [← T.leaves_length, ht, List.length_range]
  have su : u.size = n := by rw [← T.leaves_length, hu, List.length_range]
  obtain ⟨ts, T1, l1, e1⟩ := to_left80 (t := t) (by omega)
  obtain ⟨us, T2, l2, e2⟩ := to_left80 (t := u) (by omega)
  obtain ⟨A0, x0, rfl⟩ : ∃ A0 x0, ts = A0 ++ [x0] := by
    rcases snoc_or ts with h | h
    · have := T1.hd; subst h; simp at this
    · exact h
  obtain ⟨B0, y0, rfl⟩ : ∃ B0 y0, us = B0 ++ [y0] := by
    rcases snoc_or us with h | h
    · have := T2.hd; subst h; simp at this
    · exact h
  have v1 := T1.lv x0 (by simp)
  have v2 := T2.lv y0 (by simp)
  have s1 : x0.size = m := by rw [← T.leaves_length, v1, ht, List.length_range]
  have s2 : y0.size = n := by rw [← T.leaves_length, v2, hu, List.length_range]
  have ne : orK (neD x0.toD y0.toD) (neSD x0.toD y0.toD) = some (.bl true) := by
    rw [neD_tree (by omega) (by omega), decide_eq_false fun e => hne (by rw [← s1, ← s2, e])]
    rfl
  simp only [List.map_append, List.map_cons, List.map_nil] at e1 e2
  refine ex_of_Wr fun X hX => ?_
  rw [ws_linked]
  simp_arith [wb_linked, T.toD_fz, k1, k2, e1, e2, ne, T.toD_noOwn]
  exact hX
theorem fzL_map (xs : List D) : D.fzL xs = xs.map D.fz := by
  induction xs with
  | nil => rfl
  | cons a b ih => simp only [D.fzL, List.map_cons, ih]
theorem oneC_ {d : D} {c0 : Int} {o : Bool} {xs : List D} (s : Wel d c0) (hc : c0 < 900000000) (hx : xs ≠ []) (hl : xs.length < 1000000) : ∃ x d', x ∈ xs ∧ Wel d' (c0 + 1) ∧ run_Lone [d, .lst o xs] = .ok x.fz [some d', some (.lst false (D.fzL xs))] := by
  have hpos : 0 < xs.length := List.length_pos_iff.mpr hx
  obtain ⟨r, d', r0, r1, s1, e1⟩ := drawC_ (n := (xs.length : Int)) s hc (by omega) (by omega)
  obtain ⟨x, hx1, hx2⟩ := atI_in (xs := xs) r0 r1
  have hlen : (D.fzL xs).length = xs.length := by rw [fzL_map, List.length_map]
  have hat : L2.atI (D.fzL xs) r = some x.fz := by rw [fzL_map, atI_map_, hx1]; rfl
  refine ⟨x, d', List.mem_of_getElem? hx2, s1, eq_of_Wr fun Q hQ => ?_⟩
  rw [ws_Lone]
  simp_arith [wb_Lone, e1, hlen, hat]
  exact hQ
/-! square grids -/
/-! family B: joins, worths -/
theorem well_ (c : Int) : ∃ a, run_Lwell [.int c] = .ok (welO a c 0) [some (.int c)] := by
  by_cases h : 1000000000000000000 ≤ c
  · refine ⟨c, eq_of_Wr fun Q hQ => ?_⟩
    rw [ws_Lwell]
    simp_arith [wb_Lwell]
    exact hQ
  · refine ⟨0, eq_of_Wr fun Q hQ => ?_⟩
    rw [ws_Lwell]
    simp_arith [wb_Lwell]
    exact hQ
theorem cell_at_ {ns : List Int} {k : Int} (hk : 0 ≤ k) : ∃ c, run_Lcell_at [.scr (ns.map .int), .int k] = .ok (.int c) [some (.scr (ns.map .int)), some (.int k)] := by
  by_cases h : k < ns.length
  · obtain ⟨z, hz, -⟩ := atI_in hk h
    refine ⟨z, eq_of_Wr fun Q hQ => ?_⟩
    rw [ws_Lcell_at]
    simp_arith [wb_Lcell_at, atI_map_, hz, Option.map_some]
    exact hQ
  · refine ⟨0, eq_of_Wr fun Q hQ => ?_⟩
    rw [ws_Lcell_at]
    simp_arith [wb_Lcell_at]
    exact hQ
theorem enumD_at {k : Int} {xs : List D} {i : Nat} {d : D} (h : (enumD k xs)[i]? = some d) : ∃ x, xs[i]? = some x ∧ d = .tup [.int (k + (i : Nat)), x] := by
  have hl : i < xs.length := by
    have := (List.getElem?_eq_some_iff.mp h).1
    rwa [enumD_length] at this
  rw [enumD_get hl] at h
  exact ⟨xs[i], List.getElem?_eq_getElem hl, (Option.some.inj h).symm⟩
/-! plain data -/
mutual
def datB : D → Bool
  | .non => true | .bl _ => true | .int _ => true | .str _ => true
  | .lst o xs => !o && datL xs
  | .tup xs => datL xs
  | .dK o _ vs => !o && datL vs
  | _ => false
def datL : List D → Bool
  | [] => true
  | d :: ds => datB d && datL ds
end
mutual
theorem dat_fz : ∀ d : D, datB d = true → d.fz = d ∧ d.noOwn = true ∧ d.noX = true
  | .non, _ => ⟨rfl, rfl, rfl⟩
  | .bl _, _ => ⟨rfl, rfl, rfl⟩
  | .int _, _ => ⟨rfl, rfl, rfl⟩
  | .str _, _ => ⟨rfl, rfl, rfl⟩
  | .hole, h => by simp [datB] at h
  | .exc, h => by simp [datB] at h
  | .lst o xs, h => by
    simp only [datB, Bool.and_eq_true, Bool.not_eq_true'] at h
    obtain ⟨h1, h2, h3⟩ := dat_fzL xs h.2
    simp only [D.fz, D.noOwn, D.noX, h1, h2, h3, h.1, Bool.not_false, Bool.and_self, and_self]
  | .scr _, h => by simp [datB] at h
  | .tup xs, h => by
    simp only [datB] at h
    obtain ⟨h1, h2, h3⟩ := dat_fzL xs h
    simp only [D.fz, D.noOwn, D.noX, h1, h2, h3, and_self]
  | .dK o _ vs, h => by
    simp only [datB, Bool.and_eq_true, Bool.not_eq_true'] at h
    obtain ⟨h1, h2, h3⟩ := dat_fzL vs h.2
    simp only [D.fz, D.noOwn, D.noX, h1, h2, h3, h.1, Bool.not_false, Bool.and_self, and_self]
  | .tK _ _, h => by simp [datB] at h
  | .dT _ _ _, h => by simp [datB] at h
  | .ins _ _ _ _, h => by simp [datB] at h
theorem dat_fzL : ∀ ds : List D, datL ds = true → D.fzL ds = ds ∧ D.noOwnL ds = true ∧ D.noXL ds = true
  | [], _ => ⟨rfl, rfl, rfl⟩
  | d :: ds, h => by
    simp only [datL, Bool.and_eq_true] at h
    obtain ⟨h1, h2, h3⟩ := dat_fz d h.1
    obtain ⟨h4, h5, h6⟩ := dat_fzL ds h.2
    simp only [D.fzL, D.noOwnL, D.noXL, h1, h2, h3, h4, h5, h6, Bool.and_self, and_self]
end
/-- an integer from lo to hi -/
def inI (lo hi : Int) : D → Bool
  | .int i => decide (lo ≤ i) && decide (i ≤ hi)
  | _ => false
def isI : D → Bool
  | .int _ => true
  | _ => false
theorem isI_at {d : D} (h : isI d = true) : ∃ i, d = .int i := by
  cases d <;> first | exact ⟨_, rfl⟩ | (simp [isI] at h)
theorem isI_no {d : D} (h : isI d = false) {lo hi : Int} : inI lo hi d = false := by
  cases d <;> first | rfl | (simp [isI] at h)
theorem integer_p {d : D} (h : datB d = true) : run_is_integer [d] = .ok (.bl (isI d)) [some d] := by
  obtain ⟨h1, h2, -⟩ := dat_fz d h
  refine eq_of_Wr fun Q hQ => ?_
  rw [ws_is_integer]
  rw [← h1] at hQ
  cases d <;> first | (simp [datB] at h; done) | skip
  all_goals
    simp_arith [wb_is_integer, h1, h2]
    exact hQ
theorem between_p {d : D} (h : datB d = true) {lo hi : Int} : run_is_between [d, .int lo, .int hi] = .ok (.bl (inI lo hi d)) [some d, some (.int lo), some (.int hi)] := by
  obtain ⟨h1, h2, -⟩ := dat_fz d h
  have hp := integer_p h
  refine eq_of_Wr fun Q hQ => ?_
  rw [ws_is_between]
  cases hI : isI d with
  | false =>
    rw [hI] at hp
    rw [isI_no hI] at hQ
    simp_arith [wb_is_between, h1, hp]
    exact hQ
  | true =>
    obtain ⟨i, rfl⟩ := isI_at hI
    rw [hI] at hp
    by_cases a : lo ≤ i
    · have e1 : leI lo i = true := by simp [leI, a]
      have e2 : inI lo hi (.int i) = leI i hi := by simp [inI, leI, a]
      rw [e2] at hQ
      simp_arith [wb_is_between, hp, e1]
      exact hQ
    · have e1 : leI lo i = false := by simp [leI, a]
      have e2 : inI lo hi (.int i) = false := by simp [inI, a]
      rw [e2] at hQ
      simp_arith [wb_is_between, hp, e1]
      simpa using hQ
/-! trees are accepted, other values refused -/
theorem datL_of {xs : List D} (h : ∀ x ∈ xs, datB x = true) : datL xs = true := by
  induction xs with
  | nil => rfl
  | cons a b ih => simp only [datL, h a (List.mem_cons_self ..), ih fun x hx => h x (List.mem_cons_of_mem _ hx), Bool.and_self]
theorem noL_of {xs : List D} (h : ∀ x ∈ xs, datB x = true) : D.noOwnL xs = true ∧ D.fzL xs = xs := ⟨(dat_fzL xs (datL_of h)).2.1, (dat_fzL xs (datL_of h)).1⟩
/-! values as trees with any leaves -/
inductive U where
  | lf (d : D)
  | bad (xs : List D)
  | nd (l r : U)
namespace U
def toD : U → D
  | lf d => d
  | bad xs => .tup xs
  | nd l r => .tup [toD l, toD r]
def sz : U → Nat
  | lf _ => 1
  | bad _ => 1
  | nd l r => sz l + sz r + 1
def lv : U → Option (List D)
  | lf d => some [d]
  | bad _ => none
  | nd l r => match lv l, lv r with
    | some a, some b => some (a ++ b)
    | _, _ => none
/-- leaves are data, no tuples, P holds of them -/
def Ok (P : D → Prop) : U → Prop
  | lf d => datB d = true ∧ isiD "tuple" d = some (.bl false) ∧ P d
  | bad xs => xs.length ≠ 2 ∧ datL xs = true
  | nd l r => Ok P l ∧ Ok P r
theorem dat {P : D → Prop} : ∀ {u : U}, u.Ok P → datB u.toD = true
  | lf _, h => h.1
  | bad _, h => by simp only [toD, datB]; exact h.2
  | nd l r, h => by simp only [toD, datB, datL, dat h.1, dat h.2, Bool.and_self]
theorem lv_ok {P : D → Prop} : ∀ {u : U} {L : List D}, u.Ok P → u.lv = some L → ∀ d ∈ L, datB d = true ∧ P d
  | lf d, L, h, e, x, hx => by
    simp only [lv, Option.some.injEq] at e
    subst e
    rw [List.mem_singleton.mp hx]; exact ⟨h.1, h.2.2⟩
  | bad _, L, h, e, x, hx => by simp [lv] at e
  | nd l r, L, h, e, x, hx => by
    simp only [lv] at e
    split at e
    · rename_i a b ea eb
      cases e
      rcases List.mem_append.mp hx with hx | hx
      · exact lv_ok h.1 ea x hx
      · exact lv_ok h.2 eb x hx
    · cases e
theorem lv_pos : ∀ {u : U} {L : List D}, u.lv = some L → 1 ≤ L.length
  | lf d, L, e => by simp only [lv, Option.some.injEq] at e; subst e; simp
  | bad _, L, e => by simp [lv] at e
  | nd l r, L, e => by
    simp only [lv] at e
    split at e
    · rename_i a b ea eb
      cases e
      have := lv_pos ea
      simp; omega
    · cases e
theorem sz_pos : ∀ u : U, 1 ≤ u.sz
  | lf _ => Nat.le_refl _
  | bad _ => Nat.le_refl _
  | nd l r => by simp only [sz]; omega
end U
/-- the leaves of several -/
def lvA : List U → Option (List D)
  | [] => some []
  | u :: us => match u.lv, lvA us with
    | some a, some b => some (a ++ b)
    | _, _ => none
theorem lvA_nd {l r : U} {us : List U} : lvA (U.nd l r :: us) = lvA (l :: r :: us) := by
  simp only [lvA, U.lv]
  cases l.lv <;> cases r.lv <;> cases lvA us <;> simp
theorem lvA_lf {d : D} {us : List U} : lvA (U.lf d :: us) = (lvA us).map fun b => d :: b := by
  simp only [lvA, U.lv]
  cases lvA us <;> rfl
theorem lvA_one {u : U} : lvA [u] = u.lv := by
  simp only [lvA]
  cases u.lv <;> simp
def szA (us : List U) : Nat := (us.map U.sz).sum
theorem szLe : ∀ us : List U, us.length ≤ szA us := fun us => by
  induction us with
  | nil => simp
  | cons a b ih => have := U.sz_pos a; simp only [szA, List.map_cons, List.sum_cons, List.length_cons] at ih ⊢; omega
def stk (us : List U) : List D := us.reverse.map U.toD
theorem stk_cons {u : U} {us : List U} : stk (u :: us) = stk us ++ [u.toD] := by simp [stk]
theorem stk_two {l r : U} {us : List U} : stk us ++ [r.toD, l.toD] = stk (l :: r :: us) := by simp [stk]
theorem stk_dat {P : D → Prop} {us : List U} (h : ∀ u ∈ us, u.Ok P) : ∀ d ∈ stk us, datB d = true := fun d hd => by
  obtain ⟨u, hu, rfl⟩ := List.mem_map.mp hd
  exact U.dat (h u (List.mem_reverse.mp hu))
theorem truSn {A : List D} {x : D} : truD (.lst true (A ++ [x])) = some true := by cases A <;> rfl
/-- the leaves of a value, nine at most -/
theorem leaves_W {P : D → Prop} {u : U} {Q : D → J.Env → Prop} {X : XQ} (h : u.Ok P) (hs : u.sz ≤ 100000) (h1 : u.lv = none → Q .non [some u.toD]) (h2 : ∀ L, u.lv = some L → L.length ≤ 8 → Q (.lst true L) [some u.toD])
    (h3 : ∀ f : List D, f.length = 9 → (∀ d ∈ f, datB d = true) → (∀ L, u.lv = some L → 9 ≤ L.length) → Q (.lst true f) [some u.toD]) : Hid (Wr (run_leaves_of [u.toD]) Q X) := by
  obtain ⟨g1, g2, -⟩ := dat_fz u.toD (U.dat h)
  rw [ws_leaves_of]
  refine ⟨?_⟩
  simp_arith [wb_leaves_of, g1, g2]
  refine W_while (fun k e => ∃ (us : List U) (f : List D) (o3 : Option D), k = szA us ∧ (∀ v ∈ us, v.Ok P) ∧ (lvA us).map (f ++ ·) = u.lv ∧ (∀ d ∈ f, datB d = true) ∧ f.length ≤ 9 ∧ us.length ≤ szA us ∧ szA us ≤ 100000 ∧ e = [some u.toD, some (.lst true (stk us)), some (.lst true f), o3]) ?_ (szA [u]) _ _ ⟨[u], [], none, rfl, fun v hv => by rw [List.mem_singleton.mp hv]; exact h, by rw [lvA_one]; simp, fun d hd => absurd hd List.not_mem_nil, by simp, by have := U.sz_pos u; simp [szA]; omega, by simp [szA]; exact hs, by simp [stk]⟩ (by simp [szA]; omega)
  rintro k e ⟨us, f, o3, rfl, hu, hm, hf, h9, hlen, hsz, rfl⟩
  have hk : ∀ {α : Prop}, Hid α → α := fun z => z.h
  refine hk ?_
  have fF := noL_of hf
  cases us with
  | nil =>
    have e0 : stk [] = [] := rfl
    rw [lvA] at hm
    simp only [Option.map_some, List.append_nil] at hm
    refine ⟨?_⟩
    rw [e0]
    simp_arith [wb_leaves_of, fF.1, fF.2]
    by_cases h8 : f.length ≤ 8
    · exact h2 f hm.symm h8
    · exact h3 f (by omega) hf fun L hL => by
        rw [← hm] at hL
        have := Option.some.inj hL
        subst this
        omega
  | cons v us =>
    have hv := hu v List.mem_cons_self
    have hus : ∀ w ∈ us, w.Ok P := fun w hw => hu w (List.mem_cons_of_mem _ hw)
    have lt : (stk us).length = us.length := by simp [stk]
    obtain ⟨d1, d2, -⟩ := dat_fz v.toD (U.dat hv)
    obtain ⟨t1, t2⟩ := noL_of (stk_dat hus)
    have svp := U.sz_pos v
    have hle := szLe us
    have hszc : szA (v :: us) = v.sz + szA us := by simp [szA]
    rw [hszc] at hlen hsz ⊢
    simp only [List.length_cons] at hlen
    rw [stk_cons]
    by_cases h8 : f.length ≤ 8
    · cases v with
      | lf d =>
        have ht := hv.2.1
        have e1 : (U.lf d).toD = d := rfl
        rw [e1] at d1 d2 ⊢
        refine ⟨?_⟩
        simp_arith [wb_leaves_of, d1, d2, ht, truSn]
        refine ⟨szA us, by simp [U.sz], us, f ++ [d], some d, rfl, hus, ?_, fun x hx => ?_, by simp; omega, ?_, by simp only [U.sz] at hsz; omega, rfl⟩
        · rw [lvA_lf] at hm
          rw [← hm]
          cases lvA us <;> simp
        · rcases List.mem_append.mp hx with hx | hx
          · exact hf x hx
          · rw [List.mem_singleton.mp hx]; exact hv.1
        · have : ∀ us : List U, us.length ≤ szA us := fun us => by
            induction us with
            | nil => simp
            | cons a b ih => have := U.sz_pos a; simp only [szA, List.map_cons, List.sum_cons, List.length_cons] at ih ⊢; omega
          exact this us
      | bad xs =>
        have e1 : (U.bad xs).toD = .tup xs := rfl
        rw [e1] at d1 d2 ⊢
        obtain ⟨x1, x2, -⟩ := dat_fzL xs hv.2
        have hl := hv.1
        have ne : orK (eqD (.int (xs.length : Int)) (.int 2)) (eqXD (.int (xs.length : Int)) (.int 2)) = some (.bl false) := by rw [eqD_int', wa_eq0 (by omega)]; rfl
        refine ⟨?_⟩
        simp_arith [wb_leaves_of, x1, x2, ne, truSn]
        refine h1 ?_
        rw [← hm]
        simp [lvA, U.lv]
      | nd l r =>
        have e1 : (U.nd l r).toD = .tup [l.toD, r.toD] := rfl
        rw [e1] at d1 d2 ⊢
        obtain ⟨l1, l2, -⟩ := dat_fz l.toD (U.dat hv.1)
        obtain ⟨r1, r2, -⟩ := dat_fz r.toD (U.dat hv.2)
        have i0 : ixF (.tup [l.toD, r.toD]) (.int 0) = some l.toD := by simp [ixF, ixD, L2.atI, ixN, l2]
        have i1 : ixF (.tup [l.toD, r.toD]) (.int 1) = some r.toD := by simp [ixF, ixD, L2.atI, ixN, r2]
        have sl := U.sz_pos l
        have sr := U.sz_pos r
        simp only [U.sz] at hsz
        refine ⟨?_⟩
        simp_arith [wb_leaves_of, l1, l2, r1, r2, i0, i1, lt, truSn]
        refine ⟨szA (l :: r :: us), by simp only [szA, List.map_cons, List.sum_cons, U.sz]; omega, l :: r :: us, f, some (.tup [l.toD, r.toD]), rfl, fun w hw => ?_, by rw [← lvA_nd]; exact hm, hf, h9, ?_, by simp only [szA, List.map_cons, List.sum_cons] at hsz ⊢; omega, by rw [← stk_two]⟩
        · rcases List.mem_cons.mp hw with rfl | hw
          · exact hv.1
          · rcases List.mem_cons.mp hw with rfl | hw
            · exact hv.2
            · exact hus w hw
        · have : ∀ us : List U, us.length ≤ szA us := fun us => by
            induction us with
            | nil => simp
            | cons a b ih => have := U.sz_pos a; simp only [szA, List.map_cons, List.sum_cons, List.length_cons] at ih ⊢; omega
          exact this _
    · refine ⟨?_⟩
      simp_arith [wb_leaves_of, fF.1, fF.2, truSn]
      refine h3 f (by omega) hf fun L hL => ?_
      rw [← hm] at hL
      cases hl : lvA (v :: us) with
      | none => rw [hl] at hL; cases hL
      | some M =>
        rw [hl] at hL
        have := Option.some.inj hL
        rw [← this]
        simp; omega
/-- which leaves stand at their places -/
def gl : Nat → List D → List Bool
  | _, [] => []
  | k, d :: ds => inI (k : Int) (k : Int) d :: gl (k + 1) ds
theorem gl_app {x : D} : ∀ {k : Nat} {xs : List D}, gl k (xs ++ [x]) = gl k xs ++ [inI ((k + xs.length : Nat) : Int) ((k + xs.length : Nat) : Int) x]
  | k, [] => by simp [gl]
  | k, a :: xs => by
    simp only [List.cons_append, gl, List.length_cons]
    rw [gl_app, show k + 1 + xs.length = k + (xs.length + 1) by omega]
/-- a tree over one to eight items -/
def isT (u : U) : Bool := match u.lv with
  | some L => decide (L.length ≤ 8) && (gl 0 L).all id
  | none => false
theorem all_bls {bs : List Bool} {o : Bool} : allD (.lst o (bs.map D.bl)) = some (.bl (bs.all id)) := by
  have : ∀ bs : List Bool, blsD (bs.map D.bl) = some bs := fun bs => by
    induction bs with
    | nil => rfl
    | cons a b ih => simp only [List.map_cons, blsD, ih, Option.map_some]
  simp only [allD, this, Option.map_some]
theorem is_tree_U {P : D → Prop} {u : U} (h : u.Ok P) (hs : u.sz ≤ 100000) : run_is_tree [u.toD] = .ok (.bl (isT u)) [some u.toD] := by
  obtain ⟨g1, g2, -⟩ := dat_fz u.toD (U.dat h)
  refine eq_of_WrH fun Q hQ => ?_
  rw [ws_is_tree]
  refine ⟨?_⟩
  simp_arith [wb_is_tree, g1, g2]
  refine (leaves_W h hs (fun e => ?_) (fun L e h8 => ?_) fun f h9 hf e => ?_).h
  · simp_arith [wb_is_tree, g1, g2]
    simpa [isT, e] using hQ
  · have dL : ∀ d ∈ L, datB d = true := fun d hd => (U.lv_ok h e d hd).1
    obtain ⟨n1, n2⟩ := noL_of dL
    have h1 := U.lv_pos e
    have hk : ∀ {α : Prop}, Hid α → α := fun z => z.h
    refine hk ?_
    have ln : (enumD 0 L).length = L.length := enumD_length
    refine ⟨?_⟩
    simp_arith [wb_is_tree, g1, g2, n1, n2, -wl_enumC]
    refine W_comp (fun j acc e => acc = (gl 0 (L.take j)).map D.bl ∧ e = [some u.toD, some (.lst false L), none, none]) ⟨rfl, rfl⟩ ?_ ?_
    · rintro i d acc e hi ⟨rfl, rfl⟩
      obtain ⟨x, hx, rfl⟩ := enumD_at hi
      have dx := dL x (List.mem_of_getElem? hx)
      obtain ⟨m1, m2, -⟩ := dat_fz x dx
      have hbt := between_p dx (lo := (i : Int)) (hi := (i : Int))
      have ei : (0 : Int) + (i : Int) = (i : Int) := by omega
      have et : L.take (i + 1) = L.take i ++ [x] := by rw [List.take_add_one, hx]; rfl
      have el : (L.take i).length = i := by
        have := (List.getElem?_eq_some_iff.mp hx).1
        rw [List.length_take]; omega
      simp_arith [wz_cb, wz_cbt, m1, m2, hbt, ei]
      rw [et, gl_app, el, Nat.zero_add]
      simp
    · rintro acc e ⟨rfl, rfl⟩
      rw [enumD_length, List.take_of_length_le (Nat.le_refl _)]
      have ab := fun o => all_bls (o := o) (bs := gl 0 L)
      simp_arith [wb_is_tree, ab]
      simpa [isT, e, h8] using hQ
  · obtain ⟨n1, n2⟩ := noL_of hf
    have hn : isT u = false := by
      unfold isT
      cases hl : u.lv with
      | none => rfl
      | some L =>
        have := e L hl
        simp only [decide_eq_false (by omega : ¬ L.length ≤ 8), Bool.false_and]
    rw [hn] at hQ
    simp_arith [wb_is_tree, g1, g2, n1, n2]
    exact hQ
theorem check_tree_U {P : D → Prop} {u : U} (h : u.Ok P) (hs : u.sz ≤ 100000) : (isT u = true → run_check_tree [u.toD] = .ok .non [some u.toD]) ∧ (isT u = false → run_check_tree [u.toD] = .ex 15 ["why"] [.str "tree"] [some u.toD]) := by
  obtain ⟨g1, g2, -⟩ := dat_fz u.toD (U.dat h)
  have ht := is_tree_U h hs
  refine ⟨fun e => eq_of_Wr fun Q hQ => ?_, fun e => ex_of_Wr fun X hX => ?_⟩
  · rw [e] at ht
    rw [ws_check_tree]
    simp_arith [wb_check_tree, g1, g2, ht]
    exact hQ
  · rw [e] at ht
    rw [ws_check_tree]
    simp_arith [wb_check_tree, g1, g2, ht]
    exact hX
def uT : T → U
  | .leaf k => .lf (.int (k : Nat))
  | .node l r => .nd (uT l) (uT r)
theorem uT_toD : ∀ t : T, (uT t).toD = t.toD
  | .leaf _ => rfl
  | .node l r => by simp only [uT, U.toD, T.toD, uT_toD l, uT_toD r]
theorem uT_sz : ∀ t : T, (uT t).sz + 1 = 2 * t.size
  | .leaf _ => rfl
  | .node l r => by
    have := uT_sz l
    have := uT_sz r
    simp only [uT, U.sz, T.size]; omega
theorem uT_lv : ∀ t : T, (uT t).lv = some (t.leaves.map fun (a : Nat) => D.int (a : Int))
  | .leaf _ => rfl
  | .node l r => by simp only [uT, U.lv, T.leaves, uT_lv l, uT_lv r, List.map_append]
abbrev Any : D → Prop := fun _ => True
theorem uT_any : ∀ t : T, (uT t).Ok Any
  | .leaf _ => ⟨rfl, rfl, trivial⟩
  | .node l r => ⟨uT_any l, uT_any r⟩
theorem T_dat : ∀ t : T, datB t.toD = true
  | .leaf _ => rfl
  | .node l r => by simp only [T.toD, datB, datL, T_dat l, T_dat r, Bool.and_self]
theorem gl_nats : ∀ (n k : Nat), (gl k ((List.range n).map fun (a : Nat) => D.int ((k + a : Nat) : Int))).all id = true
  | 0, _ => rfl
  | n + 1, k => by
    have ih := gl_nats n (k + 1)
    have e : (List.range (n + 1)).map (fun (a : Nat) => D.int ((k + a : Nat) : Int)) = .int (k : Int) :: (List.range n).map fun (a : Nat) => D.int ((k + 1 + a : Nat) : Int) := by
      rw [List.range_succ_eq_map, List.map_cons, List.map_map]
      congr 1
      refine List.map_congr_left fun a _ => ?_
      simp only [Function.comp]
      congr 2
      omega
    rw [e, gl, List.all_cons, ih]
    simp [inI]
theorem isT_ok {t : T} {m : Nat} (hl : t.leaves = List.range m) (h8 : m ≤ 8) : isT (uT t) = true := by
  have g := gl_nats m 0
  simp only [Nat.zero_add] at g
  unfold isT
  rw [uT_lv, hl]
  simp only [List.length_map, List.length_range, decide_eq_true h8, g, Bool.and_self]
section
variable {t u : T} {m : Nat}
theorem sz_of (hl : t.leaves = List.range m) : t.size = m := by rw [← T.leaves_length, hl, List.length_range]
theorem check_T (hl : t.leaves = List.range m) (h8 : m ≤ 8) : run_check_tree [t.toD] = .ok .non [some t.toD] := by
  have := (check_tree_U (uT_any t) (by have := uT_sz t; have := sz_of hl; omega)).1 (isT_ok hl h8)
  rwa [uT_toD] at this
theorem is_T (hl : t.leaves = List.range m) (h8 : m ≤ 8) : run_is_tree [t.toD] = .ok (.bl true) [some t.toD] := by
  have := is_tree_U (uT_any t) (by have := uT_sz t; have := sz_of hl; omega)
  rwa [isT_ok hl h8, uT_toD] at this
theorem rotations_T (hl : t.leaves = List.range m) (h8 : m ≤ 8) : run_rotations [t.toD] = .ok (.lst true ((trn t).map T.toD)) [some t.toD] := by
  have hs := sz_of hl
  have k1 := check_T hl h8
  have e := turned8_ok t 12 (by omega) (by omega)
  refine eq_of_Wr fun Q hQ => ?_
  rw [ws_rotations]
  simp_arith [wb_rotations, T.toD_fz, k1, e]
  exact hQ
theorem linked_T (ht : t.leaves = List.range m) (hu : u.leaves = List.range m) (h8 : m ≤ 8) : ∃ ts, Lnk m t u ts ∧ run_linked [t.toD, u.toD] = .ok (.lst true (ts.map T.toD)) [some t.toD, some u.toD] := linked8 ht hu h8 (check_T ht h8) (check_T hu h8)
theorem leaves_T : ∀ (t : T) (d : Nat), t.size ≤ d → t.size ≤ 20 → run_Lleaves d [t.toD] = .ok (.lst true (t.leaves.map fun (a : Nat) => D.int (a : Int))) [some t.toD]
  | .leaf _, 0, h, _ => absurd h (by simp [T.size])
  | .leaf k, d + 1, _, _ => by
    refine eq_of_Wr fun Q hQ => ?_
    rw [ws_Lleaves]
    simp_arith [wb_Lleaves, T.toD]
    exact hQ
  | .node l r, 0, h, _ => absurd h (by have := T.size_pos l; simp only [T.size]; omega)
  | .node l r, d + 1, hd, h1 => by
    have sl := T.size_pos l
    have sr := T.size_pos r
    simp only [T.size] at hd h1
    have hL := leaves_T l d (by omega) (by omega)
    have hR := leaves_T r d (by omega) (by omega)
    have ll := T.leaves_length l
    have lr := T.leaves_length r
    have i0 : ixF (.tup [l.toD, r.toD]) (.int 0) = some l.toD := by simp [ixF, ixD, L2.atI, ixN, T.toD_noOwn]
    have i1 : ixF (.tup [l.toD, r.toD]) (.int 1) = some r.toD := by simp [ixF, ixD, L2.atI, ixN, T.toD_noOwn]
    have no : ∀ l : List Nat, D.noOwnL (l.map fun (a : Nat) => D.int (a : Int)) = true := fun l => by
      induction l with
      | nil => rfl
      | cons a b ih => simp only [List.map_cons, D.noOwnL, ih, D.noOwn]; rfl
    have a1 : addD (.lst true (l.leaves.map fun (a : Nat) => D.int (a : Int))) (.lst true (r.leaves.map fun (a : Nat) => D.int (a : Int))) = some (.lst true ((T.node l r).leaves.map fun (a : Nat) => D.int (a : Int))) := by
      rw [wa_addL (by simp only [List.length_map]; omega) (no _) (no _), T.leaves, List.map_append]
    refine eq_of_Wr fun Q hQ => ?_
    rw [ws_Lleaves]
    simp_arith [wb_Lleaves, T.toD, T.toD_fz, i0, i1, hL, hR, a1, -wa_addL]
    exact hQ
theorem pairs_T (hl : t.leaves = List.range m) (h8 : m ≤ 8) : run_Lpairs_in [t.toD] = .ok (.int ((m : Int) - 1)) [some t.toD] := by
  have hs := sz_of hl
  have e := leaves_T t 12 (by omega) (by omega)
  have ll : t.leaves.length = m := by rw [T.leaves_length]; exact hs
  refine eq_of_Wr fun Q hQ => ?_
  rw [ws_Lpairs_in]
  simp_arith [wb_Lpairs_in, T.toD_fz, e, ll]
  exact hQ
/-! lists of trees -/
theorem eqvAny (t : T) : ∀ ts : List T, (D.toPL (ts.map T.toD)).any (fun z => PyData.eqv z t.toD.toP) = decide (t ∈ ts)
  | [] => rfl
  | u :: ts => by
    simp only [List.map_cons, D.toPL, List.any_cons, eqv_tree, eqvAny t ts, List.mem_cons]
    by_cases h : u = t
    · subst h; simp
    · have : ¬ t = u := fun e => h e.symm
      simp [h, this]
theorem okPL_trees : ∀ ts : List T, D.okPL (ts.map T.toD) = true
  | [] => rfl
  | u :: ts => by simp only [List.map_cons, D.okPL, toD_okP, okPL_trees ts, Bool.and_self]
theorem layL_trees : ∀ ts : List T, PyData.canLayAll0 (D.toPL (ts.map T.toD)) = true
  | [] => by simp [D.toPL, PyData.canLayAll0]
  | u :: ts => by simp [D.toPL, PyData.canLayAll0, toP_lay, layL_trees ts]
theorem depthL_trees : ∀ ts : List T, (∀ u ∈ ts, u.size ≤ 20) → PyData.depthAll (D.toPL (ts.map T.toD)) ≤ 21
  | [], _ => by simp [D.toPL, PyData.depthAll]
  | u :: ts, h => by
    have a := toP_depth u
    have b := h u (List.mem_cons_self ..)
    have c := depthL_trees ts fun v hv => h v (List.mem_cons_of_mem _ hv)
    simp only [List.map_cons, D.toPL, PyData.depthAll]
    omega
theorem shpL_trees {ts : List T} {o : Bool} (h : ∀ u ∈ ts, u.size ≤ 20) : shp (.lst o (ts.map T.toD)) = true := by
  have d := depthL_trees ts h
  simp [shp, D.okP, okPL_trees, D.toP, SeqAt.shaped, PyData.canLay0, layL_trees, PyData.depth]
  omega
theorem notIn_trees {ts : List T} {o : Bool} (h : ∀ u ∈ ts, u.size ≤ 20) (ht : t.size ≤ 20) : notInLD t.toD (.lst o (ts.map T.toD)) = some (.bl (!decide (t ∈ ts))) := by
  simp only [notInLD, shp_tree (by omega : t.size ≤ 50), shpL_trees (o := o) h, Bool.and_self, if_true, eqvAny]
theorem neL_trees {ts : List T} {o o2 : Bool} (h : ∀ u ∈ ts, u.size ≤ 20) : neD (.lst o (ts.map T.toD)) (.lst o2 (ts.map T.toD)) = some (.bl false) := by
  unfold neD
  rw [shpL_trees h, shpL_trees h]
  have l : PyData.canLay0 (D.toP (.lst o (ts.map T.toD))) = true := by simp only [D.toP, PyData.canLay0, layL_trees]
  have e : D.toP (.lst o2 (ts.map T.toD)) = D.toP (.lst o (ts.map T.toD)) := rfl
  rw [e, SeqAt.eqv_refl _ l]
  rfl
/-! as keys -/
def kT : T → NestedKey
  | .leaf k => .num (k : Int)
  | .node l r => .tup [kT l, kT r]
theorem nkD_T : ∀ t : T, nkD t.toD = some (kT t)
  | .leaf _ => rfl
  | .node l r => by simp only [T.toD, nkD, nksD, nkD_T l, nkD_T r, Option.map_some, kT]
theorem nksD_T : ∀ ts : List T, nksD (ts.map T.toD) = some (ts.map kT)
  | [] => rfl
  | t :: ts => by simp only [List.map_cons, nksD, nkD_T, nksD_T ts]
theorem kT_inj : ∀ t u : T, kT t = kT u → t = u
  | .leaf a, .leaf b, h => by
    simp only [kT, NestedKey.num.injEq] at h
    rw [show a = b by omega]
  | .leaf _, .node _ _, h => by simp [kT] at h
  | .node _ _, .leaf _, h => by simp [kT] at h
  | .node a b, .node c d, h => by
    simp only [kT, NestedKey.tup.injEq, List.cons.injEq, and_true] at h
    rw [kT_inj a c h.1, kT_inj b d h.2]
theorem kT_deep : ∀ t : T, (kT t).depth + 1 ≤ t.size
  | .leaf _ => Nat.le_refl _
  | .node l r => by
    have := kT_deep l
    have := kT_deep r
    have := l.size_pos
    have := r.size_pos
    simp only [kT, NestedKey.depth, NestedKey.depthAll, T.size]
    omega
theorem lenSet_trees {ts : List T} {o : Bool} (hn : ts.Nodup) (h2 : ∀ u ∈ ts, 2 ≤ u.size ∧ u.size ≤ 8) (hl : ts.length ≤ 200) : lenSetK (.lst o (ts.map T.toD)) = some (.int ts.length) := by
  have c1 : (ts.map T.toD).all isTupD = true := List.all_eq_true.mpr fun x hx => by
    obtain ⟨u, hu, rfl⟩ := List.mem_map.mp hx
    have := (h2 u hu).1
    cases u with
    | leaf k => simp [T.size] at this
    | node a b => rfl
  have c2 : (ts.map kT).all (fun k => decide (k.depth ≤ 8)) = true := List.all_eq_true.mpr fun x hx => by
    obtain ⟨u, hu, rfl⟩ := List.mem_map.mp hx
    have := (h2 u hu).2
    have := kT_deep u
    exact decide_eq_true (by omega)
  have nd : (ts.map kT).Nodup := List.pairwise_map.mpr (hn.imp fun ne e => ne (kT_inj _ _ e))
  simp only [lenSetK, nksD_T, c1, c2, Bool.and_self, List.length_map, decide_eq_true hl, if_true, dedK_self nd]
end
/-! the law's judge of a link; what is refused -/
theorem lenSetW_trees {ts : List T} {m : Nat} {o : Bool} (hn : ts.Nodup) (h : ∀ u ∈ ts, u.leaves = List.range m) (m8 : m ≤ 8) (hl : ts.length ≤ 200) : lenSetW (.lst o (ts.map T.toD)) = some (.int ts.length) := by
  have sz : ∀ u ∈ ts, u.size = m := fun u hu => sz_of (h u hu)
  unfold lenSetW
  cases ts with
  | nil => rfl
  | cons t ts =>
    cases t with
    | leaf k =>
      have s1 := sz _ (List.mem_cons_self ..)
      simp only [T.size] at s1
      subst s1
      have all0 : ∀ u : T, u.leaves = List.range 1 → u = .leaf 0 := fun u hu => by
        cases u with
        | leaf j =>
          simp [T.leaves] at hu
          rw [hu]
        | node a b =>
          have := congrArg List.length hu
          rw [T.leaves_length] at this
          have := a.size_pos
          have := b.size_pos
          simp [T.size] at *
          omega
      have e0 : (T.leaf k) = .leaf 0 := all0 _ (h _ (List.mem_cons_self ..))
      cases ts with
      | nil =>
        rw [e0]
        rfl
      | cons u ts =>
        have e1 := all0 u (h _ (by simp))
        rw [e0, e1] at hn
        simp at hn
    | node a b =>
      have i0 : lenSetI (.lst o ((T.node a b :: ts).map T.toD)) = none := by
        simp only [List.map_cons, T.toD, lenSetI, intsD]
      rw [i0, Option.none_or]
      have sab := sz _ (List.mem_cons_self ..)
      have := a.size_pos
      have := b.size_pos
      simp only [T.size] at sab
      exact lenSet_trees hn (fun u hu => by rw [sz u hu]; omega) hl
theorem Chn.at {P : T → T → Prop} : ∀ {ts : List T} {k : Nat} {a b : T}, Chn P ts → ts[k]? = some a → ts[k + 1]? = some b → P a b
  | _, _, _, _, .one _, _, h => by simp at h
  | _, 0, _, _, .cons p _, h1, h2 => by
    simp at h1 h2
    subst h1 h2
    exact p
  | _, k + 1, _, _, .cons _ c, h1, h2 => c.at (k := k) (by simpa using h1) (by simpa using h2)
theorem link_right8 {t u : T} {m : Nat} {ts : List T} (ht : t.leaves = List.range m) (hu : u.leaves = List.range m) (m8 : m ≤ 8) (L : Lnk m t u ts) : run_Llink_right [t.toD, u.toD, .lst false (ts.map T.toD)] = .ok (.bl true) [some t.toD, some u.toD, some (.lst false (ts.map T.toD))] := by
  have st := sz_of ht
  have su := sz_of hu
  have sz : ∀ u ∈ ts, u.size = m := fun u hu => sz_of (L.lv u hu)
  have f := fzL_trees ts
  have n := noOwnL_trees ts
  have ne1 : orK (neD t.toD t.toD) (neSD t.toD t.toD) = some (.bl false) := by rw [neD_tree (by omega) (by omega)]; simp [orK]
  have ne2 : orK (neD u.toD u.toD) (neSD u.toD u.toD) = some (.bl false) := by rw [neD_tree (by omega) (by omega)]; simp [orK]
  have i0 : ∀ o, ixF (.lst o (ts.map T.toD)) (.int 0) = some t.toD := fun o => by
    have e := L.hd
    cases ts with
    | nil => simp at e
    | cons x l =>
      simp at e
      subst e
      simp [ixF, ixD, L2.atI, ixN, T.toD_noOwn]
  have i1 : ∀ o, ixF (.lst o (ts.map T.toD)) (.int (-1)) = some u.toD := fun o => by
    have e := L.lst
    rcases snoc_or ts with rfl | ⟨A, x, rfl⟩
    · simp at e
    · simp at e
      subst e
      have hn : ixN ((A ++ [x]).map T.toD).length (-1) = some A.length := by
        unfold ixN
        rw [if_neg (by decide), if_pos (by simp; omega)]
        simp
        omega
      simp only [ixF, ixD, L2.atI, hn]
      simp [T.toD_noOwn]
  have ls := fun o => lenSetW_trees (o := o) L.nd L.lv m8 L.len
  have ll := L.len
  have eqn : orK (eqD (.int (ts.length : Int)) (.int (ts.length : Int))) (eqXD (.int (ts.length : Int)) (.int (ts.length : Int))) = some (.bl true) := by rw [eqD_int', wa_eq1 rfl]; rfl
  obtain ⟨n0, hn0⟩ : ∃ n0, ts.length = n0 + 1 := by
    have e := L.hd
    cases ts with
    | nil => simp at e
    | cons x l => exact ⟨l.length, rfl⟩
  refine eq_of_WrH fun Q hQ => ?_
  obtain ⟨b0, b1, b2, b3, b4⟩ := wb_Llink_right
  rw [ws_Llink_right]
  refine ⟨?_⟩
  simp_arith [b1, b2, b3, b4, f, n, i0, i1, ne1, ne2, T.toD_fz, T.toD_noOwn]
  rw [show ((ts.length : Int) - 1).toNat = n0 by omega]
  refine (W_forPH (l := List.range n0) (f := fun (i : Nat) => D.int (1 + (i : Int))) (fun _ e => ∃ o, e = [some t.toD, some u.toD, some (.lst false (ts.map T.toD)), o]) ⟨_, rfl⟩ ?_ ?_).h
  · rintro dn k rest e hd ⟨o, rfl⟩
    have k2 : k < n0 := List.mem_range.mp (by rw [hd]; simp)
    obtain ⟨a, ha⟩ : ∃ a, ts[k]? = some a := ⟨_, List.getElem?_eq_getElem (by omega)⟩
    obtain ⟨b, hb⟩ : ∃ b, ts[k + 1]? = some b := ⟨_, List.getElem?_eq_getElem (by omega)⟩
    have hab : b ∈ trn a := Chn.at (k := k) L.chn ha hb
    have ia : ixF (.lst false (ts.map T.toD)) (.int (1 + (k : Int) - 1)) = some a.toD := by
      have hn : ixN (ts.map T.toD).length (1 + (k : Int) - 1) = some k := by
        unfold ixN
        rw [if_pos (by omega), if_pos (by simp; omega)]
        congr 1
        omega
      simp only [ixF, ixD, L2.atI, hn, Option.bind_some, List.getElem?_map, ha, Option.map_some, T.toD_noOwn, if_true]
    have ib : ixF (.lst false (ts.map T.toD)) (.int (1 + (k : Int))) = some b.toD := by
      have hn : ixN (ts.map T.toD).length (1 + (k : Int)) = some (k + 1) := by
        unfold ixN
        rw [if_pos (by omega), if_pos (by simp; omega)]
        congr 1
        omega
      simp only [ixF, ixD, L2.atI, hn, Option.bind_some, List.getElem?_map, hb, Option.map_some, T.toD_noOwn, if_true]
    have la := L.lv a (List.mem_of_getElem? ha)
    have lb := L.lv b (List.mem_of_getElem? hb)
    have sa := sz_of la
    have sb := sz_of lb
    have ea := lturned8_ok a 12 (by omega) (by omega)
    have nin : ∀ o, orK (notInLD b.toD (.lst o ((trn a).map T.toD))) (inX true b.toD (.lst o ((trn a).map T.toD))) = some (.bl false) := fun o => by
      rw [notIn_trees (fun v hv => by rw [sz_of ((trn_leaves hv).trans la)]; omega) (by omega), decide_eq_true hab]
      rfl
    have eb := is_T lb m8
    refine ⟨?_⟩
    simp_arith [b0, ia, ib, ea, nin, eb, T.toD_fz, T.toD_noOwn, fzL_trees]
    exact ⟨_, rfl⟩
  · rintro e ⟨o, rfl⟩
    refine ⟨?_⟩
    simp_arith [b1, f, n, ls, eqn]
    exact hQ
theorem classesT : run_Lclasses_of 15 ["why"] [.str "tree"] [.exc] = .ok (.int 1) [some .exc] := by
  have l1 : ∀ a b : Bool, List.lookup 15 [(15, a), (18, b)] = some a := fun _ _ => rfl
  have lw : ∀ x : D, lookD ["why"] [x] "why" = some x := fun _ => rfl
  refine eq_of_Wr fun Q hQ => ?_
  rw [ws_Lclasses_of]
  simp_arith [wb_Lclasses_of, l1, lw]
  exact hQ
theorem classesU : run_Lclasses_of 18 ["why"] [.str "sizes"] [.exc] = .ok (.int 1) [some .exc] := by
  have l1 : ∀ a b : Bool, List.lookup 18 [(15, a), (18, b)] = some b := fun _ _ => rfl
  have lw : ∀ x : D, lookD ["why"] [x] "why" = some x := fun _ => rfl
  refine eq_of_Wr fun Q hQ => ?_
  rw [ws_Lclasses_of]
  simp_arith [wb_Lclasses_of, l1, lw]
  exact hQ
section
variable {u : U} {t : T} {m : Nat} {w : D}
theorem refused_1 (h : u.Ok Any) (hs : u.sz ≤ 100000) (no : isT u = false) : run_rotations [u.toD] = .ex 15 ["why"] [.str "tree"] [some u.toD] := by
  obtain ⟨g1, g2, -⟩ := dat_fz u.toD (U.dat h)
  have hc := (check_tree_U h hs).2 no
  refine ex_of_Wr fun X hX => ?_
  rw [ws_rotations]
  simp_arith [wb_rotations, g1, g2, hc]
  exact hX
theorem refused_2 (h : u.Ok Any) (hs : u.sz ≤ 100000) (no : isT u = false) (hw : datB w = true) : run_linked [u.toD, w] = .ex 15 ["why"] [.str "tree"] [some u.toD, some w] := by
  obtain ⟨g1, g2, -⟩ := dat_fz u.toD (U.dat h)
  obtain ⟨g3, g4, -⟩ := dat_fz w hw
  have hc := (check_tree_U h hs).2 no
  refine ex_of_Wr fun X hX => ?_
  rw [ws_linked]
  simp_arith [wb_linked, g1, g2, g3, g4, hc]
  exact hX
theorem refused_3 (h : u.Ok Any) (hs : u.sz ≤ 100000) (no : isT u = false) (ht : t.leaves = List.range m) (m8 : m ≤ 8) : run_linked [t.toD, u.toD] = .ex 15 ["why"] [.str "tree"] [some t.toD, some u.toD] := by
  obtain ⟨g1, g2, -⟩ := dat_fz u.toD (U.dat h)
  have hc := (check_tree_U h hs).2 no
  have ct := check_T ht m8
  refine ex_of_Wr fun X hX => ?_
  rw [ws_linked]
  simp_arith [wb_linked, g1, g2, T.toD_fz, T.toD_noOwn, ct, hc]
  exact hX
theorem eq00 : orK (eqD (.int 0) (.int 0)) (eqXD (.int 0) (.int 0)) = some (.bl true) := by rw [eqD_int', wa_eq1 rfl]; rfl
theorem eq10 : orK (eqD (.int 1) (.int 0)) (eqXD (.int 1) (.int 0)) = some (.bl false) := by rw [eqD_int', wa_eq0 (by decide)]; rfl
theorem ne11 : orK (neD (.int 1) (.int 1)) (neSD (.int 1) (.int 1)) = some (.bl false) := by rw [neD_int']; rfl
theorem raised_1 (h : u.Ok Any) (hs : u.sz ≤ 100000) (no : isT u = false) : run_Lraised [.int 0, u.toD, .int 0] = .ok (.str "tree") [some (.int 0), some u.toD, some (.int 0)] := by
  obtain ⟨g1, g2, g3⟩ := dat_fz u.toD (U.dat h)
  have h0 := refused_1 h hs no
  have h9 : ((0 : Nat) != 999) = true := rfl
  refine eq_of_Wr fun Q hQ => ?_
  rw [ws_Lraised]
  simp_arith [wb_Lraised, g1, g2, h0, eq00]
  rw [wz_taT (by rfl)]
  simp_arith [wb_Lraised, D.noX, D.noXL, noXE, h9, g1, g2, g3, classesT, ne11]
  exact hQ
theorem raised_2 (h : u.Ok Any) (hs : u.sz ≤ 100000) (no : isT u = false) (hw : datB w = true) : run_Lraised [.int 1, u.toD, w] = .ok (.str "tree") [some (.int 1), some u.toD, some w] := by
  obtain ⟨g1, g2, g3⟩ := dat_fz u.toD (U.dat h)
  obtain ⟨f1, f2, f3⟩ := dat_fz w hw
  have h0 := refused_2 h hs no hw
  have h9 : ((0 : Nat) != 999) = true := rfl
  refine eq_of_Wr fun Q hQ => ?_
  rw [ws_Lraised]
  simp_arith [wb_Lraised, g1, g2, f1, f2, h0, eq10]
  rw [wz_taT (by rfl)]
  simp_arith [wb_Lraised, D.noX, D.noXL, noXE, h9, g1, g2, g3, f1, f2, f3, classesT, ne11]
  exact hQ
theorem raised_3 (h : u.Ok Any) (hs : u.sz ≤ 100000) (no : isT u = false) (ht : t.leaves = List.range m) (m8 : m ≤ 8) : run_Lraised [.int 1, t.toD, u.toD] = .ok (.str "tree") [some (.int 1), some t.toD, some u.toD] := by
  obtain ⟨g1, g2, g3⟩ := dat_fz u.toD (U.dat h)
  obtain ⟨f1, f2, f3⟩ := dat_fz t.toD (T_dat t)
  have h0 := refused_3 h hs no ht m8
  have h9 : ((0 : Nat) != 999) = true := rfl
  refine eq_of_Wr fun Q hQ => ?_
  rw [ws_Lraised]
  simp_arith [wb_Lraised, g1, g2, f1, f2, h0, eq10]
  rw [wz_taT (by rfl)]
  simp_arith [wb_Lraised, D.noX, D.noXL, noXE, h9, g1, g2, g3, f1, f2, f3, classesT, ne11]
  exact hQ
theorem raised_4 {v : T} {n : Nat} (ht : t.leaves = List.range m) (hv : v.leaves = List.range n) (m8 : m ≤ 8) (n8 : n ≤ 8) (hne : m ≠ n) : run_Lraised [.int 1, t.toD, v.toD] = .ok (.str "sizes") [some (.int 1), some t.toD, some v.toD] := by
  obtain ⟨g1, g2, g3⟩ := dat_fz v.toD (T_dat v)
  obtain ⟨f1, f2, f3⟩ := dat_fz t.toD (T_dat t)
  have h0 := linked_sizes ht hv m8 n8 hne (check_T ht m8) (check_T hv n8)
  have h9 : ((0 : Nat) != 999) = true := rfl
  have lw : ∀ x : D, lookD ["why"] [x] "why" = some x := fun _ => rfl
  refine eq_of_Wr fun Q hQ => ?_
  rw [ws_Lraised]
  simp_arith [wb_Lraised, g1, g2, f1, f2, h0, eq10]
  rw [wz_taF (by rfl), wz_taT (by rfl)]
  simp_arith [wb_Lraised, D.noX, D.noXL, noXE, h9, g1, g2, g3, f1, f2, f3, classesU, ne11, lw]
  exact hQ
end
/-! the law's pieces -/
abbrev e8 (ns : List Int) (c : Int) (d : D) (m : Nat) (o4 o5 o6 o7 : Option D) (t u : T) (o10 o11 o12 o13 o14 : Option D) : J.Env := [some (.scr (ns.map .int)), some (.int c), some d, some (.int (m : Int)), o4, o5, o6, o7, some t.toD, some u.toD, o10, o11, o12, o13, o14]
theorem neW_i {a b : Int} : orK (neD (.int a) (.int b)) (neSD (.int a) (.int b)) = some (.bl (!(eqI a b))) := by rw [neD_int']; rfl
theorem neW_i0 {a b : Int} (h : a = b) : orK (neD (.int a) (.int b)) (neSD (.int a) (.int b)) = some (.bl false) := by rw [neW_i, eqI, h]; simp
theorem neW_i1 {a b : Int} (h : a ≠ b) : orK (neD (.int a) (.int b)) (neSD (.int a) (.int b)) = some (.bl true) := by rw [neW_i, eqI, beq_eq_false_iff_ne.mpr h]; rfl
theorem neLW {ts : List T} {o o2 : Bool} (h : ∀ u ∈ ts, u.size ≤ 20) : orK (neD (.lst o (ts.map T.toD)) (.lst o2 (ts.map T.toD))) (neSD (.lst o (ts.map T.toD)) (.lst o2 (ts.map T.toD))) = some (.bl false) := by rw [neL_trees h]; rfl
theorem fe3 {o : Option D} {e : J.Env} : fzE (o :: e) = o.map D.fz :: fzE e := rfl
theorem flatT_tree : ∀ t : T, t.toD.flatT = true
  | .leaf _ => rfl
  | .node l r => by simp only [T.toD, D.flatT, D.flatTL, flatT_tree l, flatT_tree r, Bool.and_self]
theorem flat_trees : ∀ ts : List T, D.flatTL (ts.map T.toD) = true
  | [] => rfl
  | t :: ts => by simp only [List.map_cons, D.flatTL, flatT_tree, flat_trees ts, Bool.and_self]
section
variable {ns : List Int} {c c0 : Int} {d : D} {m : Nat} {t u a b : T} {o4 o5 o6 o7 o10 o11 o12 o13 o14 : Option D} {Q : Out → Prop}
/-- one pair -/
theorem pair8 (ha : a.leaves = List.range m) (hb : b.leaves = List.range m) (m8 : m ≤ 8)
    (k : ∀ o12 o13, Hid (Q (.nx (e8 ns c d m o4 o5 o6 o7 t u (some a.toD) (some b.toD) o12 o13 o14)))) : Hid (Wo (bk_law_4 (e8 ns c d m o4 o5 o6 o7 t u (some a.toD) (some b.toD) o12 o13 o14)) Q) := by
  obtain ⟨b0, b1, b2, b3, b4, -⟩ := wb_law
  obtain ⟨ts, L, e1⟩ := linked_T ha hb m8
  have e2 := link_right8 ha hb m8 L
  have ne := fun o o2 => neLW (ts := ts) (o := o) (o2 := o2) fun v hv => by rw [sz_of (L.lv v hv)]; omega
  have f := fzL_trees ts
  have n := noOwnL_trees ts
  have ll := L.len
  have ft := flat_trees ts
  refine ⟨?_⟩
  simp_arith [b4, b3, b2, b1, b0, T.toD_fz, T.toD_noOwn, e1, e2, f, n, ne, wz_roC, wz_roCQ, D.freshC, ft, fe3, Option.map_some]
  have kk := k (some (.lst true (ts.map T.toD ++ [.non]))) (some (.lst false (ts.map T.toD)))
  cases kk; assumption
theorem pairs8 (ht : t.leaves = List.range m) (hu : u.leaves = List.range m) (m8 : m ≤ 8)
    (k : ∀ o10 o11 o12 o13, Hid (Wo (bk_law_8 (e8 ns c d m o4 o5 o6 o7 t u o10 o11 o12 o13 o14)) Q)) : Hid (Wo (bk_law_9 (e8 ns c d m o4 o5 o6 o7 t u o10 o11 o12 o13 o14)) Q) := by
  obtain ⟨b0, b1, b2, b3, b4, b5, b6, b7, b8, b9, -⟩ := wb_law
  refine ⟨?_⟩
  simp_arith [b9, T.toD_fz, T.toD_noOwn, -wz_forC]
  refine (W_forPH (l := [(t, u), (u, t), (t, t)]) (f := fun p : T × T => D.tup [p.1.toD, p.2.toD]) (fun _ e => ∃ o10 o11 o12 o13, e = e8 ns c d m o4 o5 o6 o7 t u o10 o11 o12 o13 o14) ⟨_, _, _, _, rfl⟩ ?_ ?_).h
  · rintro dn p rest e hd ⟨o10, o11, o12, o13, rfl⟩
    have hp : p ∈ [(t, u), (u, t), (t, t)] := by rw [hd]; simp
    have h12 : p.1.leaves = List.range m ∧ p.2.leaves = List.range m := by
      simp only [List.mem_cons, List.not_mem_nil, or_false] at hp
      rcases hp with rfl | rfl | rfl
      · exact ⟨ht, hu⟩
      · exact ⟨hu, ht⟩
      · exact ⟨ht, ht⟩
    refine ⟨?_⟩
    simp_arith [T.toD_fz, T.toD_noOwn]
    refine (pair8 h12.1 h12.2 m8 fun o12 o13 => ⟨?_⟩).h
    simp_arith []
    exact ⟨_, _, _, _, rfl⟩
  · rintro e ⟨o10, o11, o12, o13, rfl⟩
    refine ⟨?_⟩
    simp_arith []
    have kk := k o10 o11 o12 o13
    cases kk; assumption
/-- rotations, once and again -/
theorem rots8 (ht : t.leaves = List.range m) (hu : u.leaves = List.range m) (m8 : m ≤ 8) (m1 : 1 ≤ m)
    (k : ∀ o5, Hid (Wo (bk_law_9 (e8 ns c d m (some (.lst false ((trn t).map T.toD))) o5 o6 o7 t u o10 o11 o12 o13 none)) Q)) : Hid (Wo (bk_law_16 (e8 ns c d m o4 o5 o6 o7 t u o10 o11 o12 o13 none)) Q) := by
  obtain ⟨b0, b1, b2, b3, b4, b5, b6, b7, b8, b9, b10, b11, b12, b13, b14, b15, b16, -⟩ := wb_law
  have st := sz_of ht
  have lv : ∀ v ∈ trn t, v.leaves = List.range m := fun v hv => (trn_leaves hv).trans ht
  have sz : ∀ v ∈ trn t, v.size ≤ 20 := fun v hv => by rw [sz_of (lv v hv)]; omega
  have e1 := lturned8_ok t 12 (by omega) (by omega)
  have e2 := rotations_T ht m8
  have ln := trn_len t
  have f := fzL_trees (trn t)
  have n := noOwnL_trees (trn t)
  have ne0 := fun o o2 => neL_trees (o := o) (o2 := o2) sz
  have ne := fun o o2 => neLW (o := o) (o2 := o2) sz
  have ls := fun o => lenSetW_trees (o := o) (trn_nodup t) lv m8 (by omega)
  have e3 := pairs_T ht m8
  have mx : maxD (.int 0) (.int ((m : Int) - 1 - 1)) = some (.int ((m - 2 : Nat) : Int)) := by
    unfold maxD
    simp only
    congr 2
    omega
  have ne3 : orK (neD (.int ((trn t).length : Int)) (.int ((trn t).length : Int))) (neSD (.int ((trn t).length : Int)) (.int ((trn t).length : Int))) = some (.bl false) := neW_i0 rfl
  have ne4 : orK (neD (.int ((trn t).length : Int)) (.int ((m - 2 : Nat) : Int))) (neSD (.int ((trn t).length : Int)) (.int ((m - 2 : Nat) : Int))) = some (.bl false) := neW_i0 (by rw [ln, st])
  have n00 : orK (neD (.lst true []) (.lst true [])) (neSD (.lst true []) (.lst true [])) = some (.bl false) := rfl
  refine ⟨?_⟩
  simp_arith [b16, b15, b14, b13, b12, T.toD_fz, T.toD_noOwn, e1, e2, e3, f, n, ne0, ls, ne3, ne4, mx]
  refine (W_compPH (l := trn t) (f := T.toD) (fun _ acc e => acc = [] ∧ e = e8 ns c d m (some (.lst false ((trn t).map T.toD))) (some (.lst true ((trn t).map T.toD))) o6 o7 t u o10 o11 o12 o13 none) ⟨rfl, rfl⟩ ?_ ?_).h
  · rintro dn v rest acc e hd ⟨rfl, rfl⟩
    have hv : v ∈ trn t := by rw [hd]; simp
    have ev := rotations_T (lv v hv) m8
    have nin : ∀ o, orK (notInLD t.toD (.lst o ((trn v).map T.toD))) (inX true t.toD (.lst o ((trn v).map T.toD))) = some (.bl false) := fun o => by
      rw [notIn_trees (fun x hx => by rw [sz_of ((trn_leaves hx).trans (lv v hv))]; omega) (by omega), decide_eq_true (trn_back hv)]
      rfl
    refine ⟨?_⟩
    simp_arith [wz_cb, wz_cbt, wz_cbf, T.toD_fz, T.toD_noOwn, ev, nin]
  · rintro acc e ⟨rfl, rfl⟩
    refine ⟨?_⟩
    simp_arith [b12, b11, b10, n00, T.toD_fz, T.toD_noOwn, e2, f, n, ne]
    have kk := k (some (.lst true ((trn t).map T.toD ++ [.int 0])))
    cases kk; assumption
end
theorem neW_str {s : Str} : orK (neD (.str s) (.str s)) (neSD (.str s) (.str s)) = some (.bl false) := by
  unfold neD
  by_cases h : shp (.str s) = true
  · rw [h]
    have : PyData.canLay0 (D.toP (.str s)) = true := by
      unfold shp at h
      rw [Bool.and_eq_true] at h
      have h2 := h.2
      unfold SeqAt.shaped at h2
      rw [Bool.and_eq_true] at h2
      exact h2.1
    rw [SeqAt.eqv_refl _ this]
    rfl
  · rw [Bool.eq_false_iff.mpr h]
    simp [neSD, orK]
/-- a drawn tree -/
theorem treeB_ : ∀ (k : Nat) {d : D} {c0 : Int} (a m : Nat), 1 ≤ m → m ≤ k → m ≤ 9 → Wel d c0 → c0 + 2 * (m : Int) < 800000000 → ∃ (t : T) (d' : D), t.leaves = (List.range m).map (a + ·) ∧ Wel d' (c0 + m - 1) ∧ run_Ltree k [d, .int (a : Int), .int ((a + m : Nat) : Int)] = .ok t.toD [some d', some (.int (a : Int)), some (.int ((a + m : Nat) : Int))]
  | 0, _, _, _, _, h1, h2, _, _, _ => by omega
  | k + 1, d, c0, a, m, h1, h2, h9, s, hc => by
    by_cases hm : m = 1
    · subst hm
      have e1 : orK (eqD (.int (((a + 1 : Nat) : Int) - (a : Int))) (.int 1)) (eqXD (.int (((a + 1 : Nat) : Int) - (a : Int))) (.int 1)) = some (.bl true) := by rw [eqD_int', wa_eq1 (by omega)]; rfl
      refine ⟨.leaf a, d, by simp [T.leaves], s.mono (by omega), eq_of_Wr fun Q hQ => ?_⟩
      rw [ws_Ltree]
      simp_arith [wb_Ltree, e1]
      exact hQ
    · have e1 : orK (eqD (.int (((a + m : Nat) : Int) - (a : Int))) (.int 1)) (eqXD (.int (((a + m : Nat) : Int) - (a : Int))) (.int 1)) = some (.bl false) := by rw [eqD_int', wa_eq0 (by omega)]; rfl
      obtain ⟨q, d1, q0, q1, s1, e2⟩ := drawC_ (n := ((a + m : Nat) : Int) - (a : Int) - 1) s (by omega) (by omega) (by omega)
      obtain ⟨j, hj⟩ : ∃ j : Nat, q + 1 = (j : Int) := ⟨(q + 1).toNat, by omega⟩
      obtain ⟨l, d2, hl, s2, e3⟩ := treeB_ k (c0 := c0 + 1) a j (by omega) (by omega) (by omega) s1 (by omega)
      obtain ⟨r, d3, hr, s3, e4⟩ := treeB_ k (a + j) (m - j) (by omega) (by omega) (by omega) s2 (by omega)
      have ej : (a : Int) + 1 + q = ((a + j : Nat) : Int) := by omega
      have er : a + j + (m - j) = a + m := by omega
      rw [er] at e4
      refine ⟨.node l r, d3, ?_, s3.mono (by omega), eq_of_Wr fun Q hQ => ?_⟩
      · simp only [T.leaves, hl, hr]
        have : List.range m = List.range j ++ (List.range (m - j)).map (j + ·) := by rw [← List.range_add]; congr 1; omega
        rw [this, List.map_append, List.map_map]
        congr 1
        refine List.map_congr_left fun x _ => ?_
        simp only [Function.comp]
        omega
      · rw [ws_Ltree]
        simp_arith [wb_Ltree, e1, e2, ej, e3, e4]
        exact hQ
/-! values that are no trees -/
def oddL (t9 : T) : List D := [.non, .bl true, .tup [.int 0], .tup [.int 1, .int 0], .lst true [.int 0, .int 1], .str "0", .tup [.int 0, .int 1, .int 2], t9.toD, .tup [.int 0, .bl true], .dK true [] []]
theorem odd_U {t9 : T} (h9 : t9.leaves = List.range 9) : ∀ x ∈ oddL t9, ∃ u : U, u.toD = x.fz ∧ u.Ok Any ∧ u.sz ≤ 100000 ∧ isT u = false := by
  intro x hx
  simp only [oddL, List.mem_cons, List.not_mem_nil, or_false] at hx
  rcases hx with rfl | rfl | rfl | rfl | rfl | rfl | rfl | rfl | rfl | rfl
  · exact ⟨.lf .non, rfl, ⟨rfl, rfl, trivial⟩, by decide, rfl⟩
  · exact ⟨.lf (.bl true), rfl, ⟨rfl, rfl, trivial⟩, by decide, rfl⟩
  · exact ⟨.bad [.int 0], rfl, ⟨by decide, rfl⟩, by decide, rfl⟩
  · exact ⟨.nd (.lf (.int 1)) (.lf (.int 0)), rfl, ⟨⟨rfl, rfl, trivial⟩, ⟨rfl, rfl, trivial⟩⟩, by decide, rfl⟩
  · exact ⟨.lf (.lst false [.int 0, .int 1]), rfl, ⟨rfl, rfl, trivial⟩, by decide, rfl⟩
  · exact ⟨.lf (.str "0"), rfl, ⟨rfl, rfl, trivial⟩, by decide, rfl⟩
  · exact ⟨.bad [.int 0, .int 1, .int 2], rfl, ⟨by decide, rfl⟩, by decide, rfl⟩
  · refine ⟨uT t9, by rw [uT_toD, T.toD_fz], uT_any t9, by have := uT_sz t9; have := sz_of h9; omega, ?_⟩
    unfold isT
    rw [uT_lv, h9]
    rfl
  · exact ⟨.nd (.lf (.int 0)) (.lf (.bl true)), rfl, ⟨⟨rfl, rfl, trivial⟩, ⟨rfl, rfl, trivial⟩⟩, by decide, rfl⟩
  · exact ⟨.lf (.dK false [] []), rfl, ⟨rfl, rfl, trivial⟩, by decide, rfl⟩
theorem neTree3 {o o2 : Bool} : orK (neD (.lst o [.str "tree", .str "tree", .str "tree"]) (.lst o2 [.str "tree", .str "tree", .str "tree"])) (neSD (.lst o [.str "tree", .str "tree", .str "tree"]) (.lst o2 [.str "tree", .str "tree", .str "tree"])) = some (.bl false) := by
  have k : PyData.strOk (Str.ofString "tree") = true := by decide +kernel
  have l : PyData.canLay0 (D.toP (.lst o [.str "tree", .str "tree", .str "tree"])) = true := by simp [D.toP, D.toPL, PyData.canLay0, PyData.canLayAll0, k]
  have s : ∀ o, shp (.lst o [.str "tree", .str "tree", .str "tree"]) = true := fun o => by simp [shp, D.okP, D.okPL, D.toP, D.toPL, SeqAt.shaped, PyData.canLay0, PyData.canLayAll0, PyData.depth, PyData.depthAll, k]
  have e : D.toP (.lst o2 [.str "tree", .str "tree", .str "tree"]) = D.toP (.lst o [.str "tree", .str "tree", .str "tree"]) := rfl
  unfold neD
  rw [s, s, e, SeqAt.eqv_refl _ l]
  rfl
section
variable {ns : List Int} {c c0 : Int} {d : D} {m : Nat} {t u a b : T} {o4 o5 o6 o7 o10 o11 o12 o13 o14 : Option D} {Q : Out → Prop}
/-- the end of a turn: another size -/
theorem wide8 (s : Wel d c0) (hc : c0 < 600000000) (ht : t.leaves = List.range m) (m8 : m ≤ 8) (m1 : 1 ≤ m)
    (k : ∀ d o7, Hid (Q (.nx (e8 ns c d m o4 o5 o6 o7 t u o10 o11 o12 o13 o14)))) : Hid (Wo (bk_law_6 (e8 ns c d m o4 o5 o6 o7 t u o10 o11 o12 o13 o14)) Q) := by
  obtain ⟨b0, b1, b2, b3, b4, b5, b6, -⟩ := wb_law
  obtain ⟨n, hn⟩ : ∃ n : Nat, 1 + m % 8 = n := ⟨_, rfl⟩
  have e0 : (1 : Int) + (m : Int) % 8 = (n : Int) := by omega
  obtain ⟨v, d1, hv, s1, e1⟩ := treeB_ 12 0 n (by omega) (by omega) (by omega) s (by omega)
  have hv : v.leaves = List.range n := by rw [hv]; simp
  have e1 : run_Ltree 12 [d, .int 0, .int (n : Int)] = .ok v.toD [some d1, some (.int 0), some (.int (n : Int))] := by simpa using e1
  have ne : orK (neD (.int (m : Int)) (.int (n : Int))) (neSD (.int (m : Int)) (.int (n : Int))) = some (.bl true) := neW_i1 (by omega)
  have e2 := raised_4 ht hv m8 (by omega) (by omega)
  have n2 : orK (neD (.str "sizes") (.str "sizes")) (some (.bl (!("sizes" : Str) == "sizes"))) = some (.bl false) := neW_str
  refine ⟨?_⟩
  simp_arith [b6, b5, e0, e1, ne, e2, n2, T.toD_fz, T.toD_noOwn]
  have kk := k d1 (some v.toD)
  cases kk; assumption
theorem odd8 (s : Wel d c0) (hc : c0 < 500000000) (ht : t.leaves = List.range m) (m8 : m ≤ 8)
    (k : ∀ d o6, Wel d (c0 + 20) → Hid (Wo (bk_law_6 (e8 ns c d m o4 o5 o6 o7 t u o10 o11 o12 o13 o14)) Q)) : Hid (Wo (bk_law_8 (e8 ns c d m o4 o5 o6 o7 t u o10 o11 o12 o13 o14)) Q) := by
  obtain ⟨b0, b1, b2, b3, b4, b5, b6, b7, b8, -⟩ := wb_law
  obtain ⟨t9, d1, h9, s1, e1⟩ := treeB_ 12 0 9 (by omega) (by omega) (by omega) s (by omega)
  have h9 : t9.leaves = List.range 9 := by rw [h9]; rfl
  have e1 : run_Ltree 12 [d, .int 0, .int 9] = .ok t9.toD [some d1, some (.int 0), some (.int 9)] := by simpa using e1
  obtain ⟨x, d2, hx, s2, e2⟩ := oneC_ (o := true) (xs := oddL t9) s1 (by omega) (by simp [oddL]) (by simp [oddL])
  obtain ⟨v, hv, okv, szv, nov⟩ := odd_U h9 x hx
  rw [← hv] at e2
  obtain ⟨g1, g2, -⟩ := dat_fz v.toD (U.dat okv)
  have r1 := raised_1 okv szv nov
  have r2 := raised_2 (w := .non) okv szv nov rfl
  have r3 := raised_3 okv szv nov ht m8
  have s3 := s2.mono (c1 := c0 + 20) (by omega)
  simp only [oddL] at e2
  have ml : mulD (.lst true [.str "tree"]) (.int 3) = some (.lst true [.str "tree", .str "tree", .str "tree"]) := rfl
  have ne : orK (neD (.lst true [.str "tree", .str "tree", .str "tree"]) (.lst true [.str "tree", .str "tree", .str "tree"])) (neSD (.lst true [.str "tree", .str "tree", .str "tree"]) (.lst true [.str "tree", .str "tree", .str "tree"])) = some (.bl false) := neTree3
  refine ⟨?_⟩
  simp_arith [b8, b7, e1, e2, r1, r2, r3, ml, ne, g1, g2, T.toD_fz, T.toD_noOwn]
  have kk := k d2 (some v.toD) s3
  cases kk; assumption
end
theorem law_true : ∀ ns : List Int, ns.length ≤ 63 → ∃ outs, run_law [.scr (ns.map .int)] = .ok (.bl true) outs := by
  intro ns h63
  have key : Hid (Wr (run_law [.scr (ns.map .int)]) (fun r _ => r = .bl true) noX) := by
    obtain ⟨c, hc⟩ := cell_at_ (ns := ns) (k := 0) (by omega)
    obtain ⟨cs, hcs, hl, -⟩ := cut_ints (l := ns) (a := some 1) (b := some 6)
    obtain ⟨b0, b1, b2, b3, b4, b5, b6, b7, b8, b9, b10, b11, b12, b13, b14, b15, b16, b17, b18, b19, b20, b21⟩ := wb_law
    rw [ws_law]
    refine ⟨?_⟩
    simp_arith [b20, b21, hc, hcs, -wz_forC]
    refine (W_forPH (l := c :: cs) (f := D.int) (fun _ e => ∃ o1 o2 o3 o4 o5 o6 o7 o8 o9 o10 o11 o12 o13, e = [some (.scr (ns.map .int)), o1, o2, o3, o4, o5, o6, o7, o8, o9, o10, o11, o12, o13, none]) ⟨_, _, _, _, _, _, _, _, _, _, _, _, _, rfl⟩ ?_ ?_).h
    rotate_left
    · rintro e ⟨o1, o2, o3, o4, o5, o6, o7, o8, o9, o10, o11, o12, o13, rfl⟩
      refine ⟨?_⟩
      simp_arith [b21]
    rintro dn c rest e hd ⟨o1, o2, o3, o4, o5, o6, o7, o8, o9, o10, o11, o12, o13, rfl⟩
    obtain ⟨a, e0⟩ := well_ c
    have s0 : Wel (welO a c 0) 0 := ⟨_, _, _, rfl, by omega, by omega⟩
    obtain ⟨q, d1, q0, q1, s1, e1⟩ := drawC_ (n := 8) s0 (by omega) (by omega) (by omega)
    obtain ⟨m, hm⟩ : ∃ m : Nat, 1 + q = (m : Int) := ⟨(1 + q).toNat, by omega⟩
    have m1 : 1 ≤ m := by omega
    have m8 : m ≤ 8 := by omega
    obtain ⟨t, d2, ht, s2, e2⟩ := treeB_ 12 0 m m1 (by omega) (by omega) s1 (by omega)
    have ht : t.leaves = List.range m := by rw [ht]; simp
    have e2 : run_Ltree 12 [d1, .int 0, .int (m : Int)] = .ok t.toD [some d2, some (.int 0), some (.int (m : Int))] := by simpa using e2
    obtain ⟨u, d3, hu, s3, e3⟩ := treeB_ 12 0 m m1 (by omega) (by omega) s2 (by omega)
    have hu : u.leaves = List.range m := by rw [hu]; simp
    have e3 : run_Ltree 12 [d2, .int 0, .int (m : Int)] = .ok u.toD [some d3, some (.int 0), some (.int (m : Int))] := by simpa using e3
    have s4 := s3.mono (c1 := 100) (by omega)
    refine ⟨?_⟩
    simp_arith [b19, b18, b17, e0, e1, hm, e2, e3, T.toD_fz, T.toD_noOwn]
    refine (rots8 ht hu m8 m1 fun o5 => pairs8 ht hu m8 fun o10 o11 o12 o13 => odd8 s4 (by omega) ht m8 fun d o6 s5 => wide8 s5 (by omega) ht m8 m1 fun d o7 => ⟨?_⟩).h
    simp_arith []
    exact ⟨_, _, _, _, _, _, _, _, _, _, _, _, _, rfl⟩
  obtain ⟨a, e, h, rfl⟩ := key.h.ok
  exact ⟨e, h⟩
/-! what the top has written, and the law's own head -/
theorem all_mk {l : PySem.W.OpenLaw} {w : World} {K : PySem.W.Frag} {h : Heap} {mg : Str → Option Value} {fa C_TollError C_BadTree C_Unlike C_BadModulus C_BadOrder C_BadReports C_BadRow C_BadStep C_BadTable C_NoKind C_NotFirm C_TooLarge f_Lwell f_Lturned f_leaves_of f_is_integer f_is_between f_is_tree f_check_tree f_turned f_rotations f_Ldraw f_Lone f_Ltree f_Lcell_at f_to_left f_linked f_Llink_right f_Lclasses_of f_Lraised f_Lleaves f_Lpairs_in f_law f_TollError___init__ : Addr} (X : K.In h) (G : h.Ns mainGlobals mg) (hfa : mg "law" = some (.ref fa))
    {od_Lwell an_Lwell : Option Addr} {sl_Lwell : Array (Option Value)} {oc_Lwell kV_Lwell dc_Lwell pm_Lwell cd_Lwell ct_Lwell : Value}
    {od_Lturned an_Lturned : Option Addr} {sl_Lturned : Array (Option Value)} {oc_Lturned kV_Lturned dc_Lturned pm_Lturned cd_Lturned ct_Lturned : Value}
    {od_leaves_of an_leaves_of : Option Addr} {sl_leaves_of : Array (Option Value)} {oc_leaves_of kV_leaves_of dc_leaves_of pm_leaves_of cd_leaves_of ct_leaves_of : Value}
    {od_is_integer an_is_integer : Option Addr} {sl_is_integer : Array (Option Value)} {oc_is_integer kV_is_integer dc_is_integer pm_is_integer cd_is_integer ct_is_integer : Value}
    {od_is_between an_is_between : Option Addr} {sl_is_between : Array (Option Value)} {oc_is_between kV_is_between dc_is_between pm_is_between cd_is_between ct_is_between : Value}
    {od_is_tree an_is_tree : Option Addr} {sl_is_tree : Array (Option Value)} {oc_is_tree kV_is_tree dc_is_tree pm_is_tree cd_is_tree ct_is_tree : Value}
    {od_check_tree an_check_tree : Option Addr} {sl_check_tree : Array (Option Value)} {oc_check_tree kV_check_tree dc_check_tree pm_check_tree cd_check_tree ct_check_tree : Value}
    {od_turned an_turned : Option Addr} {sl_turned : Array (Option Value)} {oc_turned kV_turned dc_turned pm_turned cd_turned ct_turned : Value}
    {od_rotations an_rotations : Option Addr} {sl_rotations : Array (Option Value)} {oc_rotations kV_rotations dc_rotations pm_rotations cd_rotations ct_rotations : Value}
    {od_Ldraw an_Ldraw : Option Addr} {sl_Ldraw : Array (Option Value)} {oc_Ldraw kV_Ldraw dc_Ldraw pm_Ldraw cd_Ldraw ct_Ldraw : Value}
    {od_Lone an_Lone : Option Addr} {sl_Lone : Array (Option Value)} {oc_Lone kV_Lone dc_Lone pm_Lone cd_Lone ct_Lone : Value}
    {od_Ltree an_Ltree : Option Addr} {sl_Ltree : Array (Option Value)} {oc_Ltree kV_Ltree dc_Ltree pm_Ltree cd_Ltree ct_Ltree : Value}
    {od_Lcell_at an_Lcell_at : Option Addr} {sl_Lcell_at : Array (Option Value)} {oc_Lcell_at kV_Lcell_at dc_Lcell_at pm_Lcell_at cd_Lcell_at ct_Lcell_at : Value}
    {od_to_left an_to_left : Option Addr} {sl_to_left : Array (Option Value)} {oc_to_left kV_to_left dc_to_left pm_to_left cd_to_left ct_to_left : Value}
    {od_linked an_linked : Option Addr} {sl_linked : Array (Option Value)} {oc_linked kV_linked dc_linked pm_linked cd_linked ct_linked : Value}
    {od_Llink_right an_Llink_right : Option Addr} {sl_Llink_right : Array (Option Value)} {oc_Llink_right kV_Llink_right dc_Llink_right pm_Llink_right cd_Llink_right ct_Llink_right : Value}
    {od_Lclasses_of an_Lclasses_of : Option Addr} {sl_Lclasses_of : Array (Option Value)} {oc_Lclasses_of kV_Lclasses_of dc_Lclasses_of pm_Lclasses_of cd_Lclasses_of ct_Lclasses_of : Value}
    {od_Lraised an_Lraised : Option Addr} {sl_Lraised : Array (Option Value)} {oc_Lraised kV_Lraised dc_Lraised pm_Lraised cd_Lraised ct_Lraised : Value}
    {od_Lleaves an_Lleaves : Option Addr} {sl_Lleaves : Array (Option Value)} {oc_Lleaves kV_Lleaves dc_Lleaves pm_Lleaves cd_Lleaves ct_Lleaves : Value}
    {od_Lpairs_in an_Lpairs_in : Option Addr} {sl_Lpairs_in : Array (Option Value)} {oc_Lpairs_in kV_Lpairs_in dc_Lpairs_in pm_Lpairs_in cd_Lpairs_in ct_Lpairs_in : Value}
    {od_law an_law : Option Addr} {sl_law : Array (Option Value)} {oc_law kV_law dc_law pm_law cd_law ct_law : Value}
    {nm_TollError qn_TollError : Str} {N_TollError : Addr} {bs_TollError bm_TollError : List Value} {sn_TollError sub_TollError ab_TollError col_TollError dd_TollError g0_TollError g1_TollError g2_TollError g3_TollError g5_TollError : _}
    {nm_BadTree qn_BadTree : Str} {N_BadTree : Addr} {bs_BadTree bm_BadTree : List Value} {sn_BadTree sub_BadTree ab_BadTree col_BadTree dd_BadTree g0_BadTree g1_BadTree g2_BadTree g3_BadTree g5_BadTree : _}
    {nm_Unlike qn_Unlike : Str} {N_Unlike : Addr} {bs_Unlike bm_Unlike : List Value} {sn_Unlike sub_Unlike ab_Unlike col_Unlike dd_Unlike g0_Unlike g1_Unlike g2_Unlike g3_Unlike g5_Unlike : _}
    {od_TollError___init__ an_TollError___init__ : Option Addr} {sl_TollError___init__ : Array (Option Value)} {oc_TollError___init__ kV_TollError___init__ dc_TollError___init__ pm_TollError___init__ cd_TollError___init__ ct_TollError___init__ : Value}
    {Tu_TollError___init__ : Addr} {ocT_TollError___init__ : Value} {odT_TollError___init__ : Option Addr} {nT_TollError___init__ : Nat} {slT_TollError___init__ : Array (Option Value)} {tT_TollError___init__ : _}
    {t_MOST_ITEMS : _}
    (a_Lwell : PySem.W.nsIn K mainGlobals "_law_well" = some (some (.ref f_Lwell)))
    (l_Lwell : K.lookup f_Lwell = some ⟨oc_Lwell, od_Lwell, .func (PySem.W.fnOf "_law_well" "_law_well" (defArgs s_Lwell) (defBody s_Lwell) (defScope s_Lwell) .none kV_Lwell dc_Lwell pm_Lwell an_Lwell cd_Lwell ct_Lwell), sl_Lwell⟩) (e_Lwell : PySem.W.codeIn K cd_Lwell "_law_well" = true) (k_Lwell : PySem.W.keepIn K (.ref f_Lwell) = true)
    (a_Lturned : PySem.W.nsIn K mainGlobals "_law_turned" = some (some (.ref f_Lturned)))
    (l_Lturned : K.lookup f_Lturned = some ⟨oc_Lturned, od_Lturned, .func (PySem.W.fnOf "_law_turned" "_law_turned" (defArgs s_Lturned) (defBody s_Lturned) (defScope s_Lturned) .none kV_Lturned dc_Lturned pm_Lturned an_Lturned cd_Lturned ct_Lturned), sl_Lturned⟩) (e_Lturned : PySem.W.codeIn K cd_Lturned "_law_turned" = true) (k_Lturned : PySem.W.keepIn K (.ref f_Lturned) = true)
    (a_leaves_of : PySem.W.nsIn K mainGlobals "leaves_of" = some (some (.ref f_leaves_of)))
    (l_leaves_of : K.lookup f_leaves_of = some ⟨oc_leaves_of, od_leaves_of, .func (PySem.W.fnOf "leaves_of" "leaves_of" (defArgs s_leaves_of) (defBody s_leaves_of) (defScope s_leaves_of) .none kV_leaves_of dc_leaves_of pm_leaves_of an_leaves_of cd_leaves_of ct_leaves_of), sl_leaves_of⟩) (e_leaves_of : PySem.W.codeIn K cd_leaves_of "leaves_of" = true) (k_leaves_of : PySem.W.keepIn K (.ref f_leaves_of) = true)
    (a_is_integer : PySem.W.nsIn K mainGlobals "is_integer" = some (some (.ref f_is_integer)))
    (l_is_integer : K.lookup f_is_integer = some ⟨oc_is_integer, od_is_integer, .func (PySem.W.fnOf "is_integer" "is_integer" (defArgs s_is_integer) (defBody s_is_integer) (defScope s_is_integer) .none kV_is_integer dc_is_integer pm_is_integer an_is_integer cd_is_integer ct_is_integer), sl_is_integer⟩) (e_is_integer : PySem.W.codeIn K cd_is_integer "is_integer" = true) (k_is_integer : PySem.W.keepIn K (.ref f_is_integer) = true)
    (a_is_between : PySem.W.nsIn K mainGlobals "is_between" = some (some (.ref f_is_between)))
    (l_is_between : K.lookup f_is_between = some ⟨oc_is_between, od_is_between, .func (PySem.W.fnOf "is_between" "is_between" (defArgs s_is_between) (defBody s_is_between) (defScope s_is_between) .none kV_is_between dc_is_between pm_is_between an_is_between cd_is_between ct_is_between), sl_is_between⟩) (e_is_between : PySem.W.codeIn K cd_is_between "is_between" = true) (k_is_between : PySem.W.keepIn K (.ref f_is_between) = true)
    (a_is_tree : PySem.W.nsIn K mainGlobals "is_tree" = some (some (.ref f_is_tree)))
    (l_is_tree : K.lookup f_is_tree = some ⟨oc_is_tree, od_is_tree, .func (PySem.W.fnOf "is_tree" "is_tree" (defArgs s_is_tree) (defBody s_is_tree) (defScope s_is_tree) .none kV_is_tree dc_is_tree pm_is_tree an_is_tree cd_is_tree ct_is_tree), sl_is_tree⟩) (e_is_tree : PySem.W.codeIn K cd_is_tree "is_tree" = true) (k_is_tree : PySem.W.keepIn K (.ref f_is_tree) = true)
    (a_check_tree : PySem.W.nsIn K mainGlobals "check_tree" = some (some (.ref f_check_tree)))
    (l_check_tree : K.lookup f_check_tree = some ⟨oc_check_tree, od_check_tree, .func (PySem.W.fnOf "check_tree" "check_tree" (defArgs s_check_tree) (defBody s_check_tree) (defScope s_check_tree) .none kV_check_tree dc_check_tree pm_check_tree an_check_tree cd_check_tree ct_check_tree), sl_check_tree⟩) (e_check_tree : PySem.W.codeIn K cd_check_tree "check_tree" = true) (k_check_tree : PySem.W.keepIn K (.ref f_check_tree) = true)
    (a_turned : PySem.W.nsIn K mainGlobals "turned" = some (some (.ref f_turned)))
    (l_turned : K.lookup f_turned = some ⟨oc_turned, od_turned, .func (PySem.W.fnOf "turned" "turned" (defArgs s_turned) (defBody s_turned) (defScope s_turned) .none kV_turned dc_turned pm_turned an_turned cd_turned ct_turned), sl_turned⟩) (e_turned : PySem.W.codeIn K cd_turned "turned" = true) (k_turned : PySem.W.keepIn K (.ref f_turned) = true)
    (a_rotations : PySem.W.nsIn K mainGlobals "rotations" = some (some (.ref f_rotations)))
    (l_rotations : K.lookup f_rotations = some ⟨oc_rotations, od_rotations, .func (PySem.W.fnOf "rotations" "rotations" (defArgs s_rotations) (defBody s_rotations) (defScope s_rotations) .none kV_rotations dc_rotations pm_rotations an_rotations cd_rotations ct_rotations), sl_rotations⟩) (e_rotations : PySem.W.codeIn K cd_rotations "rotations" = true) (k_rotations : PySem.W.keepIn K (.ref f_rotations) = true)
    (a_Ldraw : PySem.W.nsIn K mainGlobals "_law_draw" = some (some (.ref f_Ldraw)))
    (l_Ldraw : K.lookup f_Ldraw = some ⟨oc_Ldraw, od_Ldraw, .func (PySem.W.fnOf "_law_draw" "_law_draw" (defArgs s_Ldraw) (defBody s_Ldraw) (defScope s_Ldraw) .none kV_Ldraw dc_Ldraw pm_Ldraw an_Ldraw cd_Ldraw ct_Ldraw), sl_Ldraw⟩) (e_Ldraw : PySem.W.codeIn K cd_Ldraw "_law_draw" = true) (k_Ldraw : PySem.W.keepIn K (.ref f_Ldraw) = true)
    (a_Lone : PySem.W.nsIn K mainGlobals "_law_one" = some (some (.ref f_Lone)))
    (l_Lone : K.lookup f_Lone = some ⟨oc_Lone, od_Lone, .func (PySem.W.fnOf "_law_one" "_law_one" (defArgs s_Lone) (defBody s_Lone) (defScope s_Lone) .none kV_Lone dc_Lone pm_Lone an_Lone cd_Lone ct_Lone), sl_Lone⟩) (e_Lone : PySem.W.codeIn K cd_Lone "_law_one" = true) (k_Lone : PySem.W.keepIn K (.ref f_Lone) = true)
    (a_Ltree : PySem.W.nsIn K mainGlobals "_law_tree" = some (some (.ref f_Ltree)))
    (l_Ltree : K.lookup f_Ltree = some ⟨oc_Ltree, od_Ltree, .func (PySem.W.fnOf "_law_tree" "_law_tree" (defArgs s_Ltree) (defBody s_Ltree) (defScope s_Ltree) .none kV_Ltree dc_Ltree pm_Ltree an_Ltree cd_Ltree ct_Ltree), sl_Ltree⟩) (e_Ltree : PySem.W.codeIn K cd_Ltree "_law_tree" = true) (k_Ltree : PySem.W.keepIn K (.ref f_Ltree) = true)
    (a_Lcell_at : PySem.W.nsIn K mainGlobals "_law_cell_at" = some (some (.ref f_Lcell_at)))
    (l_Lcell_at : K.lookup f_Lcell_at = some ⟨oc_Lcell_at, od_Lcell_at, .func (PySem.W.fnOf "_law_cell_at" "_law_cell_at" (defArgs s_Lcell_at) (defBody s_Lcell_at) (defScope s_Lcell_at) .none kV_Lcell_at dc_Lcell_at pm_Lcell_at an_Lcell_at cd_Lcell_at ct_Lcell_at), sl_Lcell_at⟩) (e_Lcell_at : PySem.W.codeIn K cd_Lcell_at "_law_cell_at" = true) (k_Lcell_at : PySem.W.keepIn K (.ref f_Lcell_at) = true)
    (a_to_left : PySem.W.nsIn K mainGlobals "to_left" = some (some (.ref f_to_left)))
    (l_to_left : K.lookup f_to_left = some ⟨oc_to_left, od_to_left, .func (PySem.W.fnOf "to_left" "to_left" (defArgs s_to_left) (defBody s_to_left) (defScope s_to_left) .none kV_to_left dc_to_left pm_to_left an_to_left cd_to_left ct_to_left), sl_to_left⟩) (e_to_left : PySem.W.codeIn K cd_to_left "to_left" = true) (k_to_left : PySem.W.keepIn K (.ref f_to_left) = true)
    (a_linked : PySem.W.nsIn K mainGlobals "linked" = some (some (.ref f_linked)))
    (l_linked : K.lookup f_linked = some ⟨oc_linked, od_linked, .func (PySem.W.fnOf "linked" "linked" (defArgs s_linked) (defBody s_linked) (defScope s_linked) .none kV_linked dc_linked pm_linked an_linked cd_linked ct_linked), sl_linked⟩) (e_linked : PySem.W.codeIn K cd_linked "linked" = true) (k_linked : PySem.W.keepIn K (.ref f_linked) = true)
    (a_Llink_right : PySem.W.nsIn K mainGlobals "_law_link_right" = some (some (.ref f_Llink_right)))
    (l_Llink_right : K.lookup f_Llink_right = some ⟨oc_Llink_right, od_Llink_right, .func (PySem.W.fnOf "_law_link_right" "_law_link_right" (defArgs s_Llink_right) (defBody s_Llink_right) (defScope s_Llink_right) .none kV_Llink_right dc_Llink_right pm_Llink_right an_Llink_right cd_Llink_right ct_Llink_right), sl_Llink_right⟩) (e_Llink_right : PySem.W.codeIn K cd_Llink_right "_law_link_right" = true) (k_Llink_right : PySem.W.keepIn K (.ref f_Llink_right) = true)
    (a_Lclasses_of : PySem.W.nsIn K mainGlobals "_law_classes_of" = some (some (.ref f_Lclasses_of)))
    (l_Lclasses_of : K.lookup f_Lclasses_of = some ⟨oc_Lclasses_of, od_Lclasses_of, .func (PySem.W.fnOf "_law_classes_of" "_law_classes_of" (defArgs s_Lclasses_of) (defBody s_Lclasses_of) (defScope s_Lclasses_of) .none kV_Lclasses_of dc_Lclasses_of pm_Lclasses_of an_Lclasses_of cd_Lclasses_of ct_Lclasses_of), sl_Lclasses_of⟩) (e_Lclasses_of : PySem.W.codeIn K cd_Lclasses_of "_law_classes_of" = true) (k_Lclasses_of : PySem.W.keepIn K (.ref f_Lclasses_of) = true)
    (a_Lraised : PySem.W.nsIn K mainGlobals "_law_raised" = some (some (.ref f_Lraised)))
    (l_Lraised : K.lookup f_Lraised = some ⟨oc_Lraised, od_Lraised, .func (PySem.W.fnOf "_law_raised" "_law_raised" (defArgs s_Lraised) (defBody s_Lraised) (defScope s_Lraised) .none kV_Lraised dc_Lraised pm_Lraised an_Lraised cd_Lraised ct_Lraised), sl_Lraised⟩) (e_Lraised : PySem.W.codeIn K cd_Lraised "_law_raised" = true) (k_Lraised : PySem.W.keepIn K (.ref f_Lraised) = true)
    (a_Lleaves : PySem.W.nsIn K mainGlobals "_law_leaves" = some (some (.ref f_Lleaves)))
    (l_Lleaves : K.lookup f_Lleaves = some ⟨oc_Lleaves, od_Lleaves, .func (PySem.W.fnOf "_law_leaves" "_law_leaves" (defArgs s_Lleaves) (defBody s_Lleaves) (defScope s_Lleaves) .none kV_Lleaves dc_Lleaves pm_Lleaves an_Lleaves cd_Lleaves ct_Lleaves), sl_Lleaves⟩) (e_Lleaves : PySem.W.codeIn K cd_Lleaves "_law_leaves" = true) (k_Lleaves : PySem.W.keepIn K (.ref f_Lleaves) = true)
    (a_Lpairs_in : PySem.W.nsIn K mainGlobals "_law_pairs_in" = some (some (.ref f_Lpairs_in)))
    (l_Lpairs_in : K.lookup f_Lpairs_in = some ⟨oc_Lpairs_in, od_Lpairs_in, .func (PySem.W.fnOf "_law_pairs_in" "_law_pairs_in" (defArgs s_Lpairs_in) (defBody s_Lpairs_in) (defScope s_Lpairs_in) .none kV_Lpairs_in dc_Lpairs_in pm_Lpairs_in an_Lpairs_in cd_Lpairs_in ct_Lpairs_in), sl_Lpairs_in⟩) (e_Lpairs_in : PySem.W.codeIn K cd_Lpairs_in "_law_pairs_in" = true) (k_Lpairs_in : PySem.W.keepIn K (.ref f_Lpairs_in) = true)
    (a_law : PySem.W.nsIn K mainGlobals "law" = some (some (.ref f_law)))
    (l_law : K.lookup f_law = some ⟨oc_law, od_law, .func (PySem.W.fnOf "law" "law" (defArgs s_law) (defBody s_law) (defScope s_law) .none kV_law dc_law pm_law an_law cd_law ct_law), sl_law⟩) (e_law : PySem.W.codeIn K cd_law "law" = true) (k_law : PySem.W.keepIn K (.ref f_law) = true)
    (aC_TollError : PySem.W.nsIn K mainGlobals "TollError" = some (some (.ref C_TollError))) (lx_TollError : K.lookup C_TollError = some (excClassObj nm_TollError qn_TollError C_TollError N_TollError bs_TollError bm_TollError true sn_TollError sub_TollError ab_TollError col_TollError dd_TollError g0_TollError g1_TollError g2_TollError g3_TollError g5_TollError "ValueError.__new__")) (rb_TollError : PySem.HandSPX.refsVE bm_TollError = true) (sx_TollError : PySem.W.findIn K (.ref C_TollError) "__setattr__" = some (some (.builtin "object.__setattr__"))) (ex_TollError : PySem.W.subIn K (.ref C_TollError) (.type "BaseException") = some true) (tx_TollError : PySem.W.typeIn K (.ref C_TollError) = some (.type "type")) (kx_TollError : PySem.W.keepIn K (.ref C_TollError) = true)
    (rd_TollError : PySem.W.readsIn K C_TollError (.type "type") = true) (gt_TollError : PySem.W.specialIn K (.ref C_TollError) "__getattribute__" = some (some (.builtin "type.__getattribute__"))) (cv_TollError : PySem.W.findCls K (.ref C_TollError) (.type "type") "__init__" = some (.val (.ref f_TollError___init__)))
    (aC_BadTree : PySem.W.nsIn K mainGlobals "BadTree" = some (some (.ref C_BadTree))) (lx_BadTree : K.lookup C_BadTree = some (excClassObj nm_BadTree qn_BadTree C_BadTree N_BadTree bs_BadTree bm_BadTree true sn_BadTree sub_BadTree ab_BadTree col_BadTree dd_BadTree g0_BadTree g1_BadTree g2_BadTree g3_BadTree g5_BadTree "ValueError.__new__")) (rb_BadTree : PySem.HandSPX.refsVE bm_BadTree = true) (sx_BadTree : PySem.W.findIn K (.ref C_BadTree) "__setattr__" = some (some (.builtin "object.__setattr__"))) (ex_BadTree : PySem.W.subIn K (.ref C_BadTree) (.type "BaseException") = some true) (tx_BadTree : PySem.W.typeIn K (.ref C_BadTree) = some (.type "type")) (kx_BadTree : PySem.W.keepIn K (.ref C_BadTree) = true)
    (ga_BadTree : PySem.W.findIn K (.ref C_BadTree) "__getattribute__" = some (some (.builtin "BaseException.__getattribute__"))) (gg_BadTree : PySem.W.findIn K (.ref C_BadTree) "__getattr__" = some none) (hx_BadTree : PySem.W.hasDictIn K C_BadTree = true)
    (sb_BadTree_BadTree : PySem.W.subIn K (.ref C_BadTree) (.ref C_BadTree) = some true)
    (sb_BadTree_Unlike : PySem.W.subIn K (.ref C_BadTree) (.ref C_Unlike) = some false)
    (xa_BadTree_why : PySem.W.findIn K (.ref C_BadTree) "why" = some none)
    (ic_BadTree : PySem.W.isClsIn K C_BadTree = true)
    (iX_BadTree : PySem.W.findIn K (.ref C_BadTree) "__init__" = some (some (.ref f_TollError___init__)))
    (aC_Unlike : PySem.W.nsIn K mainGlobals "Unlike" = some (some (.ref C_Unlike))) (lx_Unlike : K.lookup C_Unlike = some (excClassObj nm_Unlike qn_Unlike C_Unlike N_Unlike bs_Unlike bm_Unlike true sn_Unlike sub_Unlike ab_Unlike col_Unlike dd_Unlike g0_Unlike g1_Unlike g2_Unlike g3_Unlike g5_Unlike "ValueError.__new__")) (rb_Unlike : PySem.HandSPX.refsVE bm_Unlike = true) (sx_Unlike : PySem.W.findIn K (.ref C_Unlike) "__setattr__" = some (some (.builtin "object.__setattr__"))) (ex_Unlike : PySem.W.subIn K (.ref C_Unlike) (.type "BaseException") = some true) (tx_Unlike : PySem.W.typeIn K (.ref C_Unlike) = some (.type "type")) (kx_Unlike : PySem.W.keepIn K (.ref C_Unlike) = true)
    (ga_Unlike : PySem.W.findIn K (.ref C_Unlike) "__getattribute__" = some (some (.builtin "BaseException.__getattribute__"))) (gg_Unlike : PySem.W.findIn K (.ref C_Unlike) "__getattr__" = some none) (hx_Unlike : PySem.W.hasDictIn K C_Unlike = true)
    (sb_Unlike_BadTree : PySem.W.subIn K (.ref C_Unlike) (.ref C_BadTree) = some false)
    (sb_Unlike_Unlike : PySem.W.subIn K (.ref C_Unlike) (.ref C_Unlike) = some true)
    (xa_Unlike_why : PySem.W.findIn K (.ref C_Unlike) "why" = some none)
    (ic_Unlike : PySem.W.isClsIn K C_Unlike = true)
    (iX_Unlike : PySem.W.findIn K (.ref C_Unlike) "__init__" = some (some (.ref f_TollError___init__)))
    (a_TollError___init__ : PySem.W.findIn K (.ref C_TollError) "__init__" = some (some (.ref f_TollError___init__))) (i_TollError___init__ : PySem.W.typeIn K (.ref f_TollError___init__) = some (.type "function"))
    (l_TollError___init__ : K.lookup f_TollError___init__ = some ⟨oc_TollError___init__, od_TollError___init__, .func (PySem.W.fnOf "__init__" "TollError.__init__" (defArgs s_TollError___init__) (defBody s_TollError___init__) (defScope s_TollError___init__) (.ref Tu_TollError___init__) kV_TollError___init__ dc_TollError___init__ pm_TollError___init__ an_TollError___init__ cd_TollError___init__ ct_TollError___init__), sl_TollError___init__⟩) (e_TollError___init__ : PySem.W.codeIn K cd_TollError___init__ "TollError.__init__" = true) (k_TollError___init__ : PySem.W.keepIn K (.ref f_TollError___init__) = true)
    (lT_TollError___init__ : K.lookup Tu_TollError___init__ = some ⟨ocT_TollError___init__, odT_TollError___init__, .seq #[.str "invalid" tT_TollError___init__] nT_TollError___init__, slT_TollError___init__⟩)
    (ss_BadModulus : PySem.W.subIn K (.ref C_BadModulus) (.ref C_BadModulus) = some true)
    (aC_BadModulus : PySem.W.nsIn K mainGlobals "BadModulus" = some (some (.ref C_BadModulus))) (tx_BadModulus : PySem.W.typeIn K (.ref C_BadModulus) = some (.type "type"))
    (ic_BadModulus : PySem.W.isClsIn K C_BadModulus = true)
    (sb_BadTree_BadModulus : PySem.W.subIn K (.ref C_BadTree) (.ref C_BadModulus) = some false)
    (sb_Unlike_BadModulus : PySem.W.subIn K (.ref C_Unlike) (.ref C_BadModulus) = some false)
    (ss_BadOrder : PySem.W.subIn K (.ref C_BadOrder) (.ref C_BadOrder) = some true)
    (aC_BadOrder : PySem.W.nsIn K mainGlobals "BadOrder" = some (some (.ref C_BadOrder))) (tx_BadOrder : PySem.W.typeIn K (.ref C_BadOrder) = some (.type "type"))
    (ic_BadOrder : PySem.W.isClsIn K C_BadOrder = true)
    (sb_BadTree_BadOrder : PySem.W.subIn K (.ref C_BadTree) (.ref C_BadOrder) = some false)
    (sb_Unlike_BadOrder : PySem.W.subIn K (.ref C_Unlike) (.ref C_BadOrder) = some false)
    (ss_BadReports : PySem.W.subIn K (.ref C_BadReports) (.ref C_BadReports) = some true)
    (aC_BadReports : PySem.W.nsIn K mainGlobals "BadReports" = some (some (.ref C_BadReports))) (tx_BadReports : PySem.W.typeIn K (.ref C_BadReports) = some (.type "type"))
    (ic_BadReports : PySem.W.isClsIn K C_BadReports = true)
    (sb_BadTree_BadReports : PySem.W.subIn K (.ref C_BadTree) (.ref C_BadReports) = some false)
    (sb_Unlike_BadReports : PySem.W.subIn K (.ref C_Unlike) (.ref C_BadReports) = some false)
    (ss_BadRow : PySem.W.subIn K (.ref C_BadRow) (.ref C_BadRow) = some true)
    (aC_BadRow : PySem.W.nsIn K mainGlobals "BadRow" = some (some (.ref C_BadRow))) (tx_BadRow : PySem.W.typeIn K (.ref C_BadRow) = some (.type "type"))
    (ic_BadRow : PySem.W.isClsIn K C_BadRow = true)
    (sb_BadTree_BadRow : PySem.W.subIn K (.ref C_BadTree) (.ref C_BadRow) = some false)
    (sb_Unlike_BadRow : PySem.W.subIn K (.ref C_Unlike) (.ref C_BadRow) = some false)
    (ss_BadStep : PySem.W.subIn K (.ref C_BadStep) (.ref C_BadStep) = some true)
    (aC_BadStep : PySem.W.nsIn K mainGlobals "BadStep" = some (some (.ref C_BadStep))) (tx_BadStep : PySem.W.typeIn K (.ref C_BadStep) = some (.type "type"))
    (ic_BadStep : PySem.W.isClsIn K C_BadStep = true)
    (sb_BadTree_BadStep : PySem.W.subIn K (.ref C_BadTree) (.ref C_BadStep) = some false)
    (sb_Unlike_BadStep : PySem.W.subIn K (.ref C_Unlike) (.ref C_BadStep) = some false)
    (ss_BadTable : PySem.W.subIn K (.ref C_BadTable) (.ref C_BadTable) = some true)
    (aC_BadTable : PySem.W.nsIn K mainGlobals "BadTable" = some (some (.ref C_BadTable))) (tx_BadTable : PySem.W.typeIn K (.ref C_BadTable) = some (.type "type"))
    (ic_BadTable : PySem.W.isClsIn K C_BadTable = true)
    (sb_BadTree_BadTable : PySem.W.subIn K (.ref C_BadTree) (.ref C_BadTable) = some false)
    (sb_Unlike_BadTable : PySem.W.subIn K (.ref C_Unlike) (.ref C_BadTable) = some false)
    (ss_BadTree : PySem.W.subIn K (.ref C_BadTree) (.ref C_BadTree) = some true)
    (ss_NoKind : PySem.W.subIn K (.ref C_NoKind) (.ref C_NoKind) = some true)
    (aC_NoKind : PySem.W.nsIn K mainGlobals "NoKind" = some (some (.ref C_NoKind))) (tx_NoKind : PySem.W.typeIn K (.ref C_NoKind) = some (.type "type"))
    (ic_NoKind : PySem.W.isClsIn K C_NoKind = true)
    (sb_BadTree_NoKind : PySem.W.subIn K (.ref C_BadTree) (.ref C_NoKind) = some false)
    (sb_Unlike_NoKind : PySem.W.subIn K (.ref C_Unlike) (.ref C_NoKind) = some false)
    (ss_NotFirm : PySem.W.subIn K (.ref C_NotFirm) (.ref C_NotFirm) = some true)
    (aC_NotFirm : PySem.W.nsIn K mainGlobals "NotFirm" = some (some (.ref C_NotFirm))) (tx_NotFirm : PySem.W.typeIn K (.ref C_NotFirm) = some (.type "type"))
    (ic_NotFirm : PySem.W.isClsIn K C_NotFirm = true)
    (sb_BadTree_NotFirm : PySem.W.subIn K (.ref C_BadTree) (.ref C_NotFirm) = some false)
    (sb_Unlike_NotFirm : PySem.W.subIn K (.ref C_Unlike) (.ref C_NotFirm) = some false)
    (ss_TooLarge : PySem.W.subIn K (.ref C_TooLarge) (.ref C_TooLarge) = some true)
    (aC_TooLarge : PySem.W.nsIn K mainGlobals "TooLarge" = some (some (.ref C_TooLarge))) (tx_TooLarge : PySem.W.typeIn K (.ref C_TooLarge) = some (.type "type"))
    (ic_TooLarge : PySem.W.isClsIn K C_TooLarge = true)
    (sb_BadTree_TooLarge : PySem.W.subIn K (.ref C_BadTree) (.ref C_TooLarge) = some false)
    (sb_Unlike_TooLarge : PySem.W.subIn K (.ref C_Unlike) (.ref C_TooLarge) = some false)
    (ss_Unlike : PySem.W.subIn K (.ref C_Unlike) (.ref C_Unlike) = some true)
    (ss_TollError : PySem.W.subIn K (.ref C_TollError) (.ref C_TollError) = some true)
    (ic_TollError : PySem.W.isClsIn K C_TollError = true)
    (sb_BadTree_TollError : PySem.W.subIn K (.ref C_BadTree) (.ref C_TollError) = some true)
    (sb_Unlike_TollError : PySem.W.subIn K (.ref C_Unlike) (.ref C_TollError) = some true)
    (dc_BadTree : PySem.W.findIn K (.ref C_BadTree) "__class__" = some (some (.builtin "object.__class__"))) (mo_BadTree : PySem.W.mroIn K C_BadTree (.type "object") = some true)
    (dc_Unlike : PySem.W.findIn K (.ref C_Unlike) "__class__" = some (some (.builtin "object.__class__"))) (mo_Unlike : PySem.W.mroIn K C_Unlike (.type "object") = some true)
    (oc_g : PySem.W.specialIn K (.builtin "object.__class__") "__get__" = some (some (.builtin "getset_descriptor.__get__"))) (oc_t : PySem.W.takesIn K (.builtin "object.__class__") = some true)
    (v_VE : PySem.W.findCls K (.type "ValueError") (.type "type") "__init__" = some (.val (.builtin "ValueError.__init__")))
    (z_all : PySem.W.nsIn K mainGlobals "all" = some none)
    (z_bool : PySem.W.nsIn K mainGlobals "bool" = some none)
    (z_enumerate : PySem.W.nsIn K mainGlobals "enumerate" = some none)
    (z_int : PySem.W.nsIn K mainGlobals "int" = some none)
    (z_isinstance : PySem.W.nsIn K mainGlobals "isinstance" = some none)
    (z_len : PySem.W.nsIn K mainGlobals "len" = some none)
    (z_list : PySem.W.nsIn K mainGlobals "list" = some none)
    (z_max : PySem.W.nsIn K mainGlobals "max" = some none)
    (z_range : PySem.W.nsIn K mainGlobals "range" = some none)
    (z_set : PySem.W.nsIn K mainGlobals "set" = some none)
    (z_str : PySem.W.nsIn K mainGlobals "str" = some none)
    (z_tuple : PySem.W.nsIn K mainGlobals "tuple" = some none)
    (z_ValueError : PySem.W.nsIn K mainGlobals "ValueError" = some none)
    (q_MOST_ITEMS : PySem.W.nsIn K mainGlobals "MOST_ITEMS" = some (some (.int 8 t_MOST_ITEMS)))
    : ∃ fd : FuncData, (∀ (s : Shared) (u : Value), BindsTo s fd ⟨[u], []⟩ [("_law_script", u)]) ∧ ∀ base : Heap, K.In base → base.Ns mainGlobals mg → FnG l.prog w K mg base 84 fa fd P_law (spLaw K) := by
  have e := hfa.symm.trans (PySem.W.mg_of X G a_law)
  cases e
  have B : Bi mg := ⟨PySem.W.mg_none_of X G z_all, PySem.W.mg_none_of X G z_bool, PySem.W.mg_none_of X G z_enumerate, PySem.W.mg_none_of X G z_int, PySem.W.mg_none_of X G z_isinstance, PySem.W.mg_none_of X G z_len, PySem.W.mg_none_of X G z_list, PySem.W.mg_none_of X G z_max, PySem.W.mg_none_of X G z_range, PySem.W.mg_none_of X G z_set, PySem.W.mg_none_of X G z_str, PySem.W.mg_none_of X G z_tuple, PySem.W.mg_none_of X G z_ValueError, ⟨_, PySem.W.mg_of X G q_MOST_ITEMS⟩⟩
  have F_Lwell := fun_mk (st := s_Lwell) l_Lwell e_Lwell k_Lwell
  have F_Lturned := fun_mk (st := s_Lturned) l_Lturned e_Lturned k_Lturned
  have F_leaves_of := fun_mk (st := s_leaves_of) l_leaves_of e_leaves_of k_leaves_of
  have F_is_integer := fun_mk (st := s_is_integer) l_is_integer e_is_integer k_is_integer
  have F_is_between := fun_mk (st := s_is_between) l_is_between e_is_between k_is_between
  have F_is_tree := fun_mk (st := s_is_tree) l_is_tree e_is_tree k_is_tree
  have F_check_tree := fun_mk (st := s_check_tree) l_check_tree e_check_tree k_check_tree
  have F_turned := fun_mk (st := s_turned) l_turned e_turned k_turned
  have F_rotations := fun_mk (st := s_rotations) l_rotations e_rotations k_rotations
  have F_Ldraw := fun_mk (st := s_Ldraw) l_Ldraw e_Ldraw k_Ldraw
  have F_Lone := fun_mk (st := s_Lone) l_Lone e_Lone k_Lone
  have F_Ltree := fun_mk (st := s_Ltree) l_Ltree e_Ltree k_Ltree
  have F_Lcell_at := fun_mk (st := s_Lcell_at) l_Lcell_at e_Lcell_at k_Lcell_at
  have F_to_left := fun_mk (st := s_to_left) l_to_left e_to_left k_to_left
  have F_linked := fun_mk (st := s_linked) l_linked e_linked k_linked
  have F_Llink_right := fun_mk (st := s_Llink_right) l_Llink_right e_Llink_right k_Llink_right
  have F_Lclasses_of := fun_mk (st := s_Lclasses_of) l_Lclasses_of e_Lclasses_of k_Lclasses_of
  have F_Lraised := fun_mk (st := s_Lraised) l_Lraised e_Lraised k_Lraised
  have F_Lleaves := fun_mk (st := s_Lleaves) l_Lleaves e_Lleaves k_Lleaves
  have F_Lpairs_in := fun_mk (st := s_Lpairs_in) l_Lpairs_in e_Lpairs_in k_Lpairs_in
  have F_law := fun_mk (st := s_law) l_law e_law k_law
  have F_TollError___init__ := fundS_mk (st := s_TollError___init__) l_TollError___init__ e_TollError___init__ k_TollError___init__ lT_TollError___init__
  have ox_TollError := oex_mk lx_TollError rb_TollError sx_TollError ex_TollError tx_TollError kx_TollError
  have ox_BadTree := oex_mk lx_BadTree rb_BadTree sx_BadTree ex_BadTree tx_BadTree kx_BadTree
  have ox_Unlike := oex_mk lx_Unlike rb_Unlike sx_Unlike ex_Unlike tx_Unlike kx_Unlike
  have xc_BadTree : XfC K C_BadTree := ⟨ga_BadTree, gg_BadTree, ex_BadTree, hx_BadTree⟩
  have xc_Unlike : XfC K C_Unlike := ⟨ga_Unlike, gg_Unlike, ex_Unlike, hx_Unlike⟩
  have X_TollError : ExT K mg "TollError" C_TollError := ⟨ox_TollError, PySem.W.mg_of X G aC_TollError, ⟨rd_TollError, gt_TollError⟩⟩
  have b_Lwell := F_Lwell.binds (ps := P_Lwell) fun _ _ _ _ _ _ us hl => match us, hl with | [_], _ => rfl
  have b_Lturned := F_Lturned.binds (ps := P_Lturned) fun _ _ _ _ _ _ us hl => match us, hl with | [_], _ => rfl
  have b_leaves_of := F_leaves_of.binds (ps := P_leaves_of) fun _ _ _ _ _ _ us hl => match us, hl with | [_], _ => rfl
  have b_is_integer := F_is_integer.binds (ps := P_is_integer) fun _ _ _ _ _ _ us hl => match us, hl with | [_], _ => rfl
  have b_is_tree := F_is_tree.binds (ps := P_is_tree) fun _ _ _ _ _ _ us hl => match us, hl with | [_], _ => rfl
  have b_check_tree := F_check_tree.binds (ps := P_check_tree) fun _ _ _ _ _ _ us hl => match us, hl with | [_], _ => rfl
  have b_turned := F_turned.binds (ps := P_turned) fun _ _ _ _ _ _ us hl => match us, hl with | [_], _ => rfl
  have b_rotations := F_rotations.binds (ps := P_rotations) fun _ _ _ _ _ _ us hl => match us, hl with | [_], _ => rfl
  have b_Ldraw := F_Ldraw.binds (ps := P_Ldraw) fun _ _ _ _ _ _ us hl => match us, hl with | [_, _], _ => rfl
  have b_Lone := F_Lone.binds (ps := P_Lone) fun _ _ _ _ _ _ us hl => match us, hl with | [_, _], _ => rfl
  have b_Ltree := F_Ltree.binds (ps := P_Ltree) fun _ _ _ _ _ _ us hl => match us, hl with | [_, _, _], _ => rfl
  have b_Lcell_at := F_Lcell_at.binds (ps := P_Lcell_at) fun _ _ _ _ _ _ us hl => match us, hl with | [_, _], _ => rfl
  have b_to_left := F_to_left.binds (ps := P_to_left) fun _ _ _ _ _ _ us hl => match us, hl with | [_], _ => rfl
  have b_linked := F_linked.binds (ps := P_linked) fun _ _ _ _ _ _ us hl => match us, hl with | [_, _], _ => rfl
  have b_Llink_right := F_Llink_right.binds (ps := P_Llink_right) fun _ _ _ _ _ _ us hl => match us, hl with | [_, _, _], _ => rfl
  have b_Lclasses_of := F_Lclasses_of.binds (ps := P_Lclasses_of) fun _ _ _ _ _ _ us hl => match us, hl with | [_], _ => rfl
  have b_Lraised := F_Lraised.binds (ps := P_Lraised) fun _ _ _ _ _ _ us hl => match us, hl with | [_, _, _], _ => rfl
  have b_Lleaves := F_Lleaves.binds (ps := P_Lleaves) fun _ _ _ _ _ _ us hl => match us, hl with | [_], _ => rfl
  have b_Lpairs_in := F_Lpairs_in.binds (ps := P_Lpairs_in) fun _ _ _ _ _ _ us hl => match us, hl with | [_], _ => rfl
  have b_law := F_law.binds (ps := P_law) fun _ _ _ _ _ _ us hl => match us, hl with | [_], _ => rfl
  refine ⟨PySem.W.fnOf "law" "law" (defArgs s_law) (defBody s_law) (defScope s_law) .none kV_law dc_law pm_law an_law cd_law ct_law, fun s v => .of_eq rfl, fun base _ _ => ?_⟩
  let C : CT := ({ cl := fun n => match n with  | 15 => C_BadTree | 18 => C_Unlike | 20 => C_BadModulus | 14 => C_BadOrder | 21 => C_BadReports | 13 => C_BadRow | 16 => C_BadStep | 11 => C_BadTable | 12 => C_NoKind | 17 => C_NotFirm | 19 => C_TooLarge | 10 => C_TollError | _ => (0 : Addr) } : CT)
  let t_TollError : ∀ base : Heap, XCal l.prog w K mg base C_TollError 1 P_TollError___init__ (spTE K) := fun base => ⟨f_TollError___init__, _, ok_TollError___init__ F_TollError___init__ B v_VE, k_TollError___init__, binds_TollError___init__ F_TollError___init__, ⟨cv_TollError, rfl⟩, a_TollError___init__, i_TollError___init__⟩
  let x_BadTree : XCalU l.prog w K mg base C 15 "BadTree" 1 P_TollError___init__ okvW ["why"] id [] [] := ⟨f_TollError___init__, _, (ok_TollError___init__ F_TollError___init__ B v_VE).imp (spTE_W ox_BadTree xa_BadTree_why), binds_TollError___init__ F_TollError___init__, .nil, ox_BadTree, PySem.W.mg_of X G aC_BadTree, iX_BadTree, i_TollError___init__⟩
  let x_Unlike : XCalU l.prog w K mg base C 18 "Unlike" 1 P_TollError___init__ okvW ["why"] id [] [] := ⟨f_TollError___init__, _, (ok_TollError___init__ F_TollError___init__ B v_VE).imp (spTE_W ox_Unlike xa_Unlike_why), binds_TollError___init__ F_TollError___init__, .nil, ox_Unlike, PySem.W.mg_of X G aC_Unlike, iX_Unlike, i_TollError___init__⟩
  have em_BadTree : ∀ (k : Nat) (b : Bool), ([(15, true), (18, false)] : List (Nat × Bool)).lookup k = some b → PySem.W.exmOne K (.ref (C k)) (.ref (C 15)) = some b := look_all (all_cons (P := fun k b => PySem.W.exmOne K (.ref (C k)) (.ref (C 15)) = some b) (k := 15) (exm_mk ex_BadTree ic_BadTree tx_BadTree sb_BadTree_BadTree) (all_cons (P := fun k b => PySem.W.exmOne K (.ref (C k)) (.ref (C 15)) = some b) (k := 18) (exm_mk ex_BadTree ic_BadTree tx_BadTree sb_Unlike_BadTree) (all_nil)))
  have xf_BadTree : ∀ (k : Nat), ([(15, true), (18, false)] : List (Nat × Bool)).lookup k = some true → XfC K (C k) ∧ ∀ f ∈ (["why"] : List Str), PySem.W.findIn K (.ref (C k)) f = some none := fun k hk => look_all (P := fun k b => b = true → XfC K (C k) ∧ ∀ f ∈ (["why"] : List Str), PySem.W.findIn K (.ref (C k)) f = some none) (all_cons (P := fun k b => b = true → XfC K (C k) ∧ ∀ f ∈ (["why"] : List Str), PySem.W.findIn K (.ref (C k)) f = some none) (k := 15) (b := true) (fun _ => ⟨xc_BadTree, fun f hf => by
    simp only [List.mem_cons, List.not_mem_nil, or_false] at hf
    rcases hf with rfl
    · exact xa_BadTree_why
    ⟩) (all_cons (P := fun k b => b = true → XfC K (C k) ∧ ∀ f ∈ (["why"] : List Str), PySem.W.findIn K (.ref (C k)) f = some none) (k := 18) (b := false) (fun h => nomatch h) (all_nil))) k true hk rfl
  have em_Unlike : ∀ (k : Nat) (b : Bool), ([(15, false), (18, true)] : List (Nat × Bool)).lookup k = some b → PySem.W.exmOne K (.ref (C k)) (.ref (C 18)) = some b := look_all (all_cons (P := fun k b => PySem.W.exmOne K (.ref (C k)) (.ref (C 18)) = some b) (k := 15) (exm_mk ex_Unlike ic_Unlike tx_Unlike sb_BadTree_Unlike) (all_cons (P := fun k b => PySem.W.exmOne K (.ref (C k)) (.ref (C 18)) = some b) (k := 18) (exm_mk ex_Unlike ic_Unlike tx_Unlike sb_Unlike_Unlike) (all_nil)))
  have xf_Unlike : ∀ (k : Nat), ([(15, false), (18, true)] : List (Nat × Bool)).lookup k = some true → XfC K (C k) ∧ ∀ f ∈ (["why"] : List Str), PySem.W.findIn K (.ref (C k)) f = some none := fun k hk => look_all (P := fun k b => b = true → XfC K (C k) ∧ ∀ f ∈ (["why"] : List Str), PySem.W.findIn K (.ref (C k)) f = some none) (all_cons (P := fun k b => b = true → XfC K (C k) ∧ ∀ f ∈ (["why"] : List Str), PySem.W.findIn K (.ref (C k)) f = some none) (k := 15) (b := false) (fun h => nomatch h) (all_cons (P := fun k b => b = true → XfC K (C k) ∧ ∀ f ∈ (["why"] : List Str), PySem.W.findIn K (.ref (C k)) f = some none) (k := 18) (b := true) (fun _ => ⟨xc_Unlike, fun f hf => by
    simp only [List.mem_cons, List.not_mem_nil, or_false] at hf
    rcases hf with rfl
    · exact xa_Unlike_why
    ⟩) (all_nil))) k true hk rfl
  have ki_BadModulus : ∀ (k : Nat) (b : Bool), ([(15, false), (18, false)] : List (Nat × Bool)).lookup k = some b → PySem.W.kitOne K (.ref (C k)) (.ref (C 20)) = some b := look_all (all_cons (P := fun k b => PySem.W.kitOne K (.ref (C k)) (.ref (C 20)) = some b) (k := 15) (kit_mk ic_BadModulus tx_BadModulus sb_BadTree_BadModulus ss_BadModulus) (all_cons (P := fun k b => PySem.W.kitOne K (.ref (C k)) (.ref (C 20)) = some b) (k := 18) (kit_mk ic_BadModulus tx_BadModulus sb_Unlike_BadModulus ss_BadModulus) (all_nil)))
  have ki_BadOrder : ∀ (k : Nat) (b : Bool), ([(15, false), (18, false)] : List (Nat × Bool)).lookup k = some b → PySem.W.kitOne K (.ref (C k)) (.ref (C 14)) = some b := look_all (all_cons (P := fun k b => PySem.W.kitOne K (.ref (C k)) (.ref (C 14)) = some b) (k := 15) (kit_mk ic_BadOrder tx_BadOrder sb_BadTree_BadOrder ss_BadOrder) (all_cons (P := fun k b => PySem.W.kitOne K (.ref (C k)) (.ref (C 14)) = some b) (k := 18) (kit_mk ic_BadOrder tx_BadOrder sb_Unlike_BadOrder ss_BadOrder) (all_nil)))
  have ki_BadReports : ∀ (k : Nat) (b : Bool), ([(15, false), (18, false)] : List (Nat × Bool)).lookup k = some b → PySem.W.kitOne K (.ref (C k)) (.ref (C 21)) = some b := look_all (all_cons (P := fun k b => PySem.W.kitOne K (.ref (C k)) (.ref (C 21)) = some b) (k := 15) (kit_mk ic_BadReports tx_BadReports sb_BadTree_BadReports ss_BadReports) (all_cons (P := fun k b => PySem.W.kitOne K (.ref (C k)) (.ref (C 21)) = some b) (k := 18) (kit_mk ic_BadReports tx_BadReports sb_Unlike_BadReports ss_BadReports) (all_nil)))
  have ki_BadRow : ∀ (k : Nat) (b : Bool), ([(15, false), (18, false)] : List (Nat × Bool)).lookup k = some b → PySem.W.kitOne K (.ref (C k)) (.ref (C 13)) = some b := look_all (all_cons (P := fun k b => PySem.W.kitOne K (.ref (C k)) (.ref (C 13)) = some b) (k := 15) (kit_mk ic_BadRow tx_BadRow sb_BadTree_BadRow ss_BadRow) (all_cons (P := fun k b => PySem.W.kitOne K (.ref (C k)) (.ref (C 13)) = some b) (k := 18) (kit_mk ic_BadRow tx_BadRow sb_Unlike_BadRow ss_BadRow) (all_nil)))
  have ki_BadStep : ∀ (k : Nat) (b : Bool), ([(15, false), (18, false)] : List (Nat × Bool)).lookup k = some b → PySem.W.kitOne K (.ref (C k)) (.ref (C 16)) = some b := look_all (all_cons (P := fun k b => PySem.W.kitOne K (.ref (C k)) (.ref (C 16)) = some b) (k := 15) (kit_mk ic_BadStep tx_BadStep sb_BadTree_BadStep ss_BadStep) (all_cons (P := fun k b => PySem.W.kitOne K (.ref (C k)) (.ref (C 16)) = some b) (k := 18) (kit_mk ic_BadStep tx_BadStep sb_Unlike_BadStep ss_BadStep) (all_nil)))
  have ki_BadTable : ∀ (k : Nat) (b : Bool), ([(15, false), (18, false)] : List (Nat × Bool)).lookup k = some b → PySem.W.kitOne K (.ref (C k)) (.ref (C 11)) = some b := look_all (all_cons (P := fun k b => PySem.W.kitOne K (.ref (C k)) (.ref (C 11)) = some b) (k := 15) (kit_mk ic_BadTable tx_BadTable sb_BadTree_BadTable ss_BadTable) (all_cons (P := fun k b => PySem.W.kitOne K (.ref (C k)) (.ref (C 11)) = some b) (k := 18) (kit_mk ic_BadTable tx_BadTable sb_Unlike_BadTable ss_BadTable) (all_nil)))
  have ki_BadTree : ∀ (k : Nat) (b : Bool), ([(15, true), (18, false)] : List (Nat × Bool)).lookup k = some b → PySem.W.kitOne K (.ref (C k)) (.ref (C 15)) = some b := look_all (all_cons (P := fun k b => PySem.W.kitOne K (.ref (C k)) (.ref (C 15)) = some b) (k := 15) (kit_mk ic_BadTree tx_BadTree sb_BadTree_BadTree ss_BadTree) (all_cons (P := fun k b => PySem.W.kitOne K (.ref (C k)) (.ref (C 15)) = some b) (k := 18) (kit_mk ic_BadTree tx_BadTree sb_Unlike_BadTree ss_BadTree) (all_nil)))
  have ki_NoKind : ∀ (k : Nat) (b : Bool), ([(15, false), (18, false)] : List (Nat × Bool)).lookup k = some b → PySem.W.kitOne K (.ref (C k)) (.ref (C 12)) = some b := look_all (all_cons (P := fun k b => PySem.W.kitOne K (.ref (C k)) (.ref (C 12)) = some b) (k := 15) (kit_mk ic_NoKind tx_NoKind sb_BadTree_NoKind ss_NoKind) (all_cons (P := fun k b => PySem.W.kitOne K (.ref (C k)) (.ref (C 12)) = some b) (k := 18) (kit_mk ic_NoKind tx_NoKind sb_Unlike_NoKind ss_NoKind) (all_nil)))
  have ki_NotFirm : ∀ (k : Nat) (b : Bool), ([(15, false), (18, false)] : List (Nat × Bool)).lookup k = some b → PySem.W.kitOne K (.ref (C k)) (.ref (C 17)) = some b := look_all (all_cons (P := fun k b => PySem.W.kitOne K (.ref (C k)) (.ref (C 17)) = some b) (k := 15) (kit_mk ic_NotFirm tx_NotFirm sb_BadTree_NotFirm ss_NotFirm) (all_cons (P := fun k b => PySem.W.kitOne K (.ref (C k)) (.ref (C 17)) = some b) (k := 18) (kit_mk ic_NotFirm tx_NotFirm sb_Unlike_NotFirm ss_NotFirm) (all_nil)))
  have ki_TooLarge : ∀ (k : Nat) (b : Bool), ([(15, false), (18, false)] : List (Nat × Bool)).lookup k = some b → PySem.W.kitOne K (.ref (C k)) (.ref (C 19)) = some b := look_all (all_cons (P := fun k b => PySem.W.kitOne K (.ref (C k)) (.ref (C 19)) = some b) (k := 15) (kit_mk ic_TooLarge tx_TooLarge sb_BadTree_TooLarge ss_TooLarge) (all_cons (P := fun k b => PySem.W.kitOne K (.ref (C k)) (.ref (C 19)) = some b) (k := 18) (kit_mk ic_TooLarge tx_TooLarge sb_Unlike_TooLarge ss_TooLarge) (all_nil)))
  have ki_Unlike : ∀ (k : Nat) (b : Bool), ([(15, false), (18, true)] : List (Nat × Bool)).lookup k = some b → PySem.W.kitOne K (.ref (C k)) (.ref (C 18)) = some b := look_all (all_cons (P := fun k b => PySem.W.kitOne K (.ref (C k)) (.ref (C 18)) = some b) (k := 15) (kit_mk ic_Unlike tx_Unlike sb_BadTree_Unlike ss_Unlike) (all_cons (P := fun k b => PySem.W.kitOne K (.ref (C k)) (.ref (C 18)) = some b) (k := 18) (kit_mk ic_Unlike tx_Unlike sb_Unlike_Unlike ss_Unlike) (all_nil)))
  have ki_TollError : ∀ (k : Nat) (b : Bool), ([(15, true), (18, true)] : List (Nat × Bool)).lookup k = some b → PySem.W.kitOne K (.ref (C k)) (.ref (C 10)) = some b := look_all (all_cons (P := fun k b => PySem.W.kitOne K (.ref (C k)) (.ref (C 10)) = some b) (k := 15) (kit_mk ic_TollError tx_TollError sb_BadTree_TollError ss_TollError) (all_cons (P := fun k b => PySem.W.kitOne K (.ref (C k)) (.ref (C 10)) = some b) (k := 18) (kit_mk ic_TollError tx_TollError sb_Unlike_TollError ss_TollError) (all_nil)))
  have ec_BadTree : ∀ (k : Nat), ([(15, true), (18, false)] : List (Nat × Bool)).lookup k = some true → ExcC K (C k) := fun k hk => look_all (P := fun k b => b = true → ExcC K (C k)) (all_cons (P := fun k b => b = true → ExcC K (C k)) (k := 15) (b := true) (fun _ => ⟨ga_BadTree, gg_BadTree, ex_BadTree, hx_BadTree, dc_BadTree, oc_g, oc_t, mo_BadTree⟩) (all_cons (P := fun k b => b = true → ExcC K (C k)) (k := 18) (b := false) (fun h => nomatch h) (all_nil))) k true hk rfl
  have ec_Unlike : ∀ (k : Nat), ([(15, false), (18, true)] : List (Nat × Bool)).lookup k = some true → ExcC K (C k) := fun k hk => look_all (P := fun k b => b = true → ExcC K (C k)) (all_cons (P := fun k b => b = true → ExcC K (C k)) (k := 15) (b := false) (fun h => nomatch h) (all_cons (P := fun k b => b = true → ExcC K (C k)) (k := 18) (b := true) (fun _ => ⟨ga_Unlike, gg_Unlike, ex_Unlike, hx_Unlike, dc_Unlike, oc_g, oc_t, mo_Unlike⟩) (all_nil))) k true hk rfl
  let c_Lwell : CalU l.prog w K mg base C "_law_well" 1 P_Lwell 1 run_Lwell := ⟨f_Lwell, _, ok_Lwell (P := l.prog) (w := w) (base := base) (C := C) F_Lwell B , PySem.W.mg_of X G a_Lwell, k_Lwell, b_Lwell, Pure.defF⟩
  let c_Lturned : CalU l.prog w K mg base C "_law_turned" (1 + 12) P_Lturned 1 (run_Lturned 12) := ⟨f_Lturned, _, ok_Lturned (P := l.prog) (w := w) (base := base) (C := C) F_Lturned (PySem.W.mg_of X G a_Lturned) k_Lturned b_Lturned B  12, PySem.W.mg_of X G a_Lturned, k_Lturned, b_Lturned, (pu_Lturned 12)⟩
  let c_leaves_of : CalU l.prog w K mg base C "leaves_of" 1 P_leaves_of 1 run_leaves_of := ⟨f_leaves_of, _, ok_leaves_of (P := l.prog) (w := w) (base := base) (C := C) F_leaves_of B , PySem.W.mg_of X G a_leaves_of, k_leaves_of, b_leaves_of, Pure.defF⟩
  let c_is_integer : CalU l.prog w K mg base C "is_integer" 1 P_is_integer 1 run_is_integer := ⟨f_is_integer, _, ok_is_integer (P := l.prog) (w := w) (base := base) (C := C) F_is_integer B , PySem.W.mg_of X G a_is_integer, k_is_integer, b_is_integer, Pure.defF⟩
  let c_is_between : CalKU l.prog w K mg base C "is_between" 2 P_is_between ["low", "high"] 3 run_is_between (gapp 1) (gapp 1) := ⟨f_is_between, _, ok_is_between (P := l.prog) (w := w) (base := base) (C := C) F_is_between B  c_is_integer, PySem.W.mg_of X G a_is_between, k_is_between, (kbp12 F_is_between rfl (fun _ _ _ _ _ _ _ _ _ => rfl)), Pure.defF⟩
  let c_is_tree : CalU l.prog w K mg base C "is_tree" 3 P_is_tree 1 run_is_tree := ⟨f_is_tree, _, ok_is_tree (P := l.prog) (w := w) (base := base) (C := C) F_is_tree B  c_leaves_of c_is_between, PySem.W.mg_of X G a_is_tree, k_is_tree, b_is_tree, Pure.defF⟩
  let c_check_tree : CalU l.prog w K mg base C "check_tree" 6 P_check_tree 1 run_check_tree := ⟨f_check_tree, _, ok_check_tree (P := l.prog) (w := w) (base := base) (C := C) F_check_tree B  c_is_tree x_BadTree, PySem.W.mg_of X G a_check_tree, k_check_tree, b_check_tree, Pure.defF⟩
  let c_turned : CalU l.prog w K mg base C "turned" (1 + 12) P_turned 1 (run_turned 12) := ⟨f_turned, _, ok_turned (P := l.prog) (w := w) (base := base) (C := C) F_turned (PySem.W.mg_of X G a_turned) k_turned b_turned B  12, PySem.W.mg_of X G a_turned, k_turned, b_turned, (pu_turned 12)⟩
  let c_rotations : CalU l.prog w K mg base C "rotations" 14 P_rotations 1 run_rotations := ⟨f_rotations, _, ok_rotations (P := l.prog) (w := w) (base := base) (C := C) F_rotations B  c_check_tree c_turned, PySem.W.mg_of X G a_rotations, k_rotations, b_rotations, Pure.defF⟩
  let c_Ldraw : CalU l.prog w K mg base C "_law_draw" 1 P_Ldraw 2 run_Ldraw := ⟨f_Ldraw, _, ok_Ldraw (P := l.prog) (w := w) (base := base) (C := C) F_Ldraw B , PySem.W.mg_of X G a_Ldraw, k_Ldraw, b_Ldraw, Pure.defF⟩
  let c_Lone : CalU l.prog w K mg base C "_law_one" 2 P_Lone 2 run_Lone := ⟨f_Lone, _, ok_Lone (P := l.prog) (w := w) (base := base) (C := C) F_Lone B  c_Ldraw, PySem.W.mg_of X G a_Lone, k_Lone, b_Lone, Pure.defF⟩
  let c_Ltree : CalU l.prog w K mg base C "_law_tree" (2 + 12) P_Ltree 3 (run_Ltree 12) := ⟨f_Ltree, _, ok_Ltree (P := l.prog) (w := w) (base := base) (C := C) F_Ltree (PySem.W.mg_of X G a_Ltree) k_Ltree b_Ltree B  c_Ldraw 12, PySem.W.mg_of X G a_Ltree, k_Ltree, b_Ltree, (pu_Ltree 12)⟩
  let c_Lcell_at : CalU l.prog w K mg base C "_law_cell_at" 1 P_Lcell_at 2 run_Lcell_at := ⟨f_Lcell_at, _, ok_Lcell_at (P := l.prog) (w := w) (base := base) (C := C) F_Lcell_at B , PySem.W.mg_of X G a_Lcell_at, k_Lcell_at, b_Lcell_at, Pure.defF⟩
  let c_to_left : CalU l.prog w K mg base C "to_left" (1 + 80) P_to_left 1 (run_to_left 80) := ⟨f_to_left, _, ok_to_left (P := l.prog) (w := w) (base := base) (C := C) F_to_left (PySem.W.mg_of X G a_to_left) k_to_left b_to_left B  80, PySem.W.mg_of X G a_to_left, k_to_left, b_to_left, (pu_to_left 80)⟩
  let c_linked : CalU l.prog w K mg base C "linked" 82 P_linked 2 run_linked := ⟨f_linked, _, ok_linked (P := l.prog) (w := w) (base := base) (C := C) F_linked B  c_check_tree c_to_left x_Unlike, PySem.W.mg_of X G a_linked, k_linked, b_linked, Pure.defF⟩
  let c_Llink_right : CalU l.prog w K mg base C "_law_link_right" 14 P_Llink_right 3 run_Llink_right := ⟨f_Llink_right, _, ok_Llink_right (P := l.prog) (w := w) (base := base) (C := C) F_Llink_right B  c_Lturned c_is_tree, PySem.W.mg_of X G a_Llink_right, k_Llink_right, b_Llink_right, Pure.defF⟩
  let c_Lclasses_of : CalE l.prog w K mg base C ["why"] "_law_classes_of" 1 P_Lclasses_of 1 run_Lclasses_of := ⟨f_Lclasses_of, _, ok_Lclasses_of (P := l.prog) (w := w) (base := base) (C := C) F_Lclasses_of B  (PySem.W.mg_of X G aC_BadModulus) ki_BadModulus (PySem.W.mg_of X G aC_BadOrder) ki_BadOrder (PySem.W.mg_of X G aC_BadReports) ki_BadReports (PySem.W.mg_of X G aC_BadRow) ki_BadRow (PySem.W.mg_of X G aC_BadStep) ki_BadStep (PySem.W.mg_of X G aC_BadTable) ki_BadTable (PySem.W.mg_of X G aC_BadTree) ki_BadTree (PySem.W.mg_of X G aC_NoKind) ki_NoKind (PySem.W.mg_of X G aC_NotFirm) ki_NotFirm (PySem.W.mg_of X G aC_TooLarge) ki_TooLarge (PySem.W.mg_of X G aC_Unlike) ki_Unlike (PySem.W.mg_of X G aC_TollError) ki_TollError, PySem.W.mg_of X G a_Lclasses_of, k_Lclasses_of, b_Lclasses_of, fun _ _ _ => Pure.defF⟩
  let c_Lraised : CalU l.prog w K mg base C "_law_raised" 83 P_Lraised 3 run_Lraised := ⟨f_Lraised, _, ok_Lraised (P := l.prog) (w := w) (base := base) (C := C) F_Lraised B  c_rotations c_linked c_Lclasses_of ec_BadTree ec_Unlike (PySem.W.mg_of X G aC_BadTree) em_BadTree xf_BadTree (PySem.W.mg_of X G aC_Unlike) em_Unlike xf_Unlike, PySem.W.mg_of X G a_Lraised, k_Lraised, b_Lraised, Pure.defF⟩
  let c_Lleaves : CalU l.prog w K mg base C "_law_leaves" (1 + 12) P_Lleaves 1 (run_Lleaves 12) := ⟨f_Lleaves, _, ok_Lleaves (P := l.prog) (w := w) (base := base) (C := C) F_Lleaves (PySem.W.mg_of X G a_Lleaves) k_Lleaves b_Lleaves B  12, PySem.W.mg_of X G a_Lleaves, k_Lleaves, b_Lleaves, (pu_Lleaves 12)⟩
  let c_Lpairs_in : CalU l.prog w K mg base C "_law_pairs_in" 14 P_Lpairs_in 1 run_Lpairs_in := ⟨f_Lpairs_in, _, ok_Lpairs_in (P := l.prog) (w := w) (base := base) (C := C) F_Lpairs_in B  c_Lleaves, PySem.W.mg_of X G a_Lpairs_in, k_Lpairs_in, b_Lpairs_in, Pure.defF⟩
  exact law_fng rfl law_true (ok_law (P := l.prog) (w := w) (base := base) (C := C) F_law B  c_Lwell c_Lturned c_rotations c_Lone c_Ltree c_Lcell_at c_Ldraw c_linked c_Llink_right c_Lraised c_Lpairs_in)
theorem walk_law {l : PySem.W.OpenLaw} {q : Program} {loose : List Str} {XP : (Str → Option Value) → Heap → Prop} {YP : World → Heap → Prop} {d : DefRec} {K : Params → PySem.W.Frag} (hn : l.most = some 63) (hdf : d.params.defaults = [])
    (hY : ∀ (w : World) (h : Heap), YP w h → (K w.params).In h)
    (F : ∀ (w : World) (mg : Str → Option Value) (fa : Addr) (h : Heap), (K w.params).In h → h.Ns mainGlobals mg → mg d.name = some (.ref fa) →
      ∃ fd : FuncData, (∀ (s : Shared) (u : Value), BindsTo s fd ⟨[u], []⟩ [("_law_script", u)]) ∧ ∀ base : Heap, (K w.params).In base → base.Ns mainGlobals mg → FnG l.prog w (K w.params) mg base 84 fa fd P_law (spLaw (K w.params))) :
    PySem.W.WalkO q loose XP YP l.row.toRowW d [] (fun f vs => PySem.call f vs) :=
  J.walk_go (n := 63) (k := 84) (x := "_law_script") (sp := fun w => spLaw (K w.params)) hn (by decide) hdf ⟨rfl, by decide, by decide⟩ hY F fun _ _ a ns hl _ hS => ⟨a, ns, rfl, hS, hl, fun _ => rfl⟩
end J
open PySem PySem.W PyProof.Rows
set_option maxRecDepth 100000 in
set_option maxHeartbeats 0 in
theorem PySem.Challenge.cw_jointoll_k08_whole_rotations_link_trees_holds : PySem.Challenge.rw_jointoll_k08_whole_rotations_link_trees.Holds := by
  w_on; o_law; k_head; (case hw => w_witness2)
  k_fill
  refine J.walk_law (l := PySem.Challenge.rw_jointoll_k08_whole_rotations_link_trees) rfl rfl (fun w h Y => PySem.W.kIn_of Y) ?F
  case F =>
    intro w mg fa h KX G hmg
    refine' J.all_mk KX G hmg ?a_Lwell ?l_Lwell ?e_Lwell ?k_Lwell ?a_Lturned ?l_Lturned ?e_Lturned ?k_Lturned ?a_leaves_of ?l_leaves_of ?e_leaves_of ?k_leaves_of ?a_is_integer ?l_is_integer ?e_is_integer ?k_is_integer ?a_is_between ?l_is_between ?e_is_between ?k_is_between ?a_is_tree ?l_is_tree ?e_is_tree ?k_is_tree ?a_check_tree ?l_check_tree ?e_check_tree ?k_check_tree ?a_turned ?l_turned ?e_turned ?k_turned ?a_rotations ?l_rotations ?e_rotations ?k_rotations ?a_Ldraw ?l_Ldraw ?e_Ldraw ?k_Ldraw ?a_Lone ?l_Lone ?e_Lone ?k_Lone ?a_Ltree ?l_Ltree ?e_Ltree ?k_Ltree ?a_Lcell_at ?l_Lcell_at ?e_Lcell_at ?k_Lcell_at ?a_to_left ?l_to_left ?e_to_left ?k_to_left ?a_linked ?l_linked ?e_linked ?k_linked ?a_Llink_right ?l_Llink_right ?e_Llink_right ?k_Llink_right ?a_Lclasses_of ?l_Lclasses_of ?e_Lclasses_of ?k_Lclasses_of ?a_Lraised ?l_Lraised ?e_Lraised ?k_Lraised ?a_Lleaves ?l_Lleaves ?e_Lleaves ?k_Lleaves ?a_Lpairs_in ?l_Lpairs_in ?e_Lpairs_in ?k_Lpairs_in ?a_law ?l_law ?e_law ?k_law ?aC_TollError ?lx_TollError ?rb_TollError ?sx_TollError ?ex_TollError ?tx_TollError ?kx_TollError ?rd_TollError ?gt_TollError ?cv_TollError ?aC_BadTree ?lx_BadTree ?rb_BadTree ?sx_BadTree ?ex_BadTree ?tx_BadTree ?kx_BadTree ?ga_BadTree ?gg_BadTree ?hx_BadTree ?sb_BadTree_BadTree ?sb_BadTree_Unlike ?xa_BadTree_why ?ic_BadTree ?iX_BadTree ?aC_Unlike ?lx_Unlike ?rb_Unlike ?sx_Unlike ?ex_Unlike ?tx_Unlike ?kx_Unlike ?ga_Unlike ?gg_Unlike ?hx_Unlike ?sb_Unlike_BadTree ?sb_Unlike_Unlike ?xa_Unlike_why ?ic_Unlike ?iX_Unlike ?a_TollError___init__ ?i_TollError___init__ ?l_TollError___init__ ?e_TollError___init__ ?k_TollError___init__ ?lT_TollError___init__ ?ss_BadModulus ?aC_BadModulus ?tx_BadModulus ?ic_BadModulus ?sb_BadTree_BadModulus ?sb_Unlike_BadModulus ?ss_BadOrder ?aC_BadOrder ?tx_BadOrder ?ic_BadOrder ?sb_BadTree_BadOrder ?sb_Unlike_BadOrder ?ss_BadReports ?aC_BadReports ?tx_BadReports ?ic_BadReports ?sb_BadTree_BadReports ?sb_Unlike_BadReports ?ss_BadRow ?aC_BadRow ?tx_BadRow ?ic_BadRow ?sb_BadTree_BadRow ?sb_Unlike_BadRow ?ss_BadStep ?aC_BadStep ?tx_BadStep ?ic_BadStep ?sb_BadTree_BadStep ?sb_Unlike_BadStep ?ss_BadTable ?aC_BadTable ?tx_BadTable ?ic_BadTable ?sb_BadTree_BadTable ?sb_Unlike_BadTable ?ss_BadTree ?ss_NoKind ?aC_NoKind ?tx_NoKind ?ic_NoKind ?sb_BadTree_NoKind ?sb_Unlike_NoKind ?ss_NotFirm ?aC_NotFirm ?tx_NotFirm ?ic_NotFirm ?sb_BadTree_NotFirm ?sb_Unlike_NotFirm ?ss_TooLarge ?aC_TooLarge ?tx_TooLarge ?ic_TooLarge ?sb_BadTree_TooLarge ?sb_Unlike_TooLarge ?ss_Unlike ?ss_TollError ?ic_TollError ?sb_BadTree_TollError ?sb_Unlike_TollError ?dc_BadTree ?mo_BadTree ?dc_Unlike ?mo_Unlike ?oc_g ?oc_t ?v_VE ?z_all ?z_bool ?z_enumerate ?z_int ?z_isinstance ?z_len ?z_list ?z_max ?z_range ?z_set ?z_str ?z_tuple ?z_ValueError ?q_MOST_ITEMS
    (case aC_TollError => k_is); (case aC_BadTree => k_is); (case aC_Unlike => k_is); (case aC_BadModulus => k_is); (case aC_BadOrder => k_is); (case aC_BadReports => k_is)
    (case aC_BadRow => k_is); (case aC_BadStep => k_is); (case aC_BadTable => k_is); (case aC_NoKind => k_is); (case aC_NotFirm => k_is); (case aC_TooLarge => k_is)
    (case a_Lwell => k_is); (case l_Lwell => k_is); (case e_Lwell => k_is); (case k_Lwell => k_is); (case a_Lturned => k_is); (case l_Lturned => k_is)
    (case e_Lturned => k_is); (case k_Lturned => k_is); (case a_leaves_of => k_is); (case l_leaves_of => k_is); (case e_leaves_of => k_is); (case k_leaves_of => k_is)
    (case a_is_integer => k_is); (case l_is_integer => k_is); (case e_is_integer => k_is); (case k_is_integer => k_is); (case a_is_between => k_is); (case l_is_between => k_is)
    (case e_is_between => k_is); (case k_is_between => k_is); (case a_is_tree => k_is); (case l_is_tree => k_is); (case e_is_tree => k_is); (case k_is_tree => k_is)
    (case a_check_tree => k_is); (case l_check_tree => k_is); (case e_check_tree => k_is); (case k_check_tree => k_is); (case a_turned => k_is); (case l_turned => k_is)
    (case e_turned => k_is); (case k_turned => k_is); (case a_rotations => k_is); (case l_rotations => k_is); (case e_rotations => k_is); (case k_rotations => k_is)
    (case a_Ldraw => k_is); (case l_Ldraw => k_is); (case e_Ldraw => k_is); (case k_Ldraw => k_is); (case a_Lone => k_is); (case l_Lone => k_is)
    (case e_Lone => k_is); (case k_Lone => k_is); (case a_Ltree => k_is); (case l_Ltree => k_is); (case e_Ltree => k_is); (case k_Ltree => k_is)
    (case a_Lcell_at => k_is); (case l_Lcell_at => k_is); (case e_Lcell_at => k_is); (case k_Lcell_at => k_is); (case a_to_left => k_is); (case l_to_left => k_is)
    (case e_to_left => k_is); (case k_to_left => k_is); (case a_linked => k_is); (case l_linked => k_is); (case e_linked => k_is); (case k_linked => k_is)
    (case a_Llink_right => k_is); (case l_Llink_right => k_is); (case e_Llink_right => k_is); (case k_Llink_right => k_is); (case a_Lclasses_of => k_is); (case l_Lclasses_of => k_is)
    (case e_Lclasses_of => k_is); (case k_Lclasses_of => k_is); (case a_Lraised => k_is); (case l_Lraised => k_is); (case e_Lraised => k_is); (case k_Lraised => k_is)
    (case a_Lleaves => k_is); (case l_Lleaves => k_is); (case e_Lleaves => k_is); (case k_Lleaves => k_is); (case a_Lpairs_in => k_is); (case l_Lpairs_in => k_is)
    (case e_Lpairs_in => k_is); (case k_Lpairs_in => k_is); (case a_law => k_is); (case l_law => k_is); (case e_law => k_is); (case k_law => k_is)
    (case lx_TollError => k_is); (case rb_TollError => decide +kernel); (case sx_TollError => k_is); (case ex_TollError => k_is); (case tx_TollError => k_is); (case kx_TollError => k_is)
    (case rd_TollError => k_is); (case gt_TollError => k_is); (case lx_BadTree => k_is); (case rb_BadTree => decide +kernel); (case sx_BadTree => k_is); (case ex_BadTree => k_is)
    (case tx_BadTree => k_is); (case kx_BadTree => k_is); (case ga_BadTree => k_is); (case gg_BadTree => k_is); (case hx_BadTree => k_is); (case xa_BadTree_why => k_is)
    (case ic_BadTree => k_is); (case lx_Unlike => k_is); (case rb_Unlike => decide +kernel); (case sx_Unlike => k_is); (case ex_Unlike => k_is); (case tx_Unlike => k_is)
    (case kx_Unlike => k_is); (case ga_Unlike => k_is); (case gg_Unlike => k_is); (case hx_Unlike => k_is); (case xa_Unlike_why => k_is); (case ic_Unlike => k_is)
    (case a_TollError___init__ => k_is); (case i_TollError___init__ => k_is); (case l_TollError___init__ => k_is); (case e_TollError___init__ => k_is); (case k_TollError___init__ => k_is); (case lT_TollError___init__ => k_is)
    (case ss_BadModulus => k_is); (case tx_BadModulus => k_is); (case ic_BadModulus => k_is); (case ss_BadOrder => k_is); (case tx_BadOrder => k_is); (case ic_BadOrder => k_is)
    (case ss_BadReports => k_is); (case tx_BadReports => k_is); (case ic_BadReports => k_is); (case ss_BadRow => k_is); (case tx_BadRow => k_is); (case ic_BadRow => k_is)
    (case ss_BadStep => k_is); (case tx_BadStep => k_is); (case ic_BadStep => k_is); (case ss_BadTable => k_is); (case tx_BadTable => k_is); (case ic_BadTable => k_is)
    (case ss_BadTree => k_is); (case ss_NoKind => k_is); (case tx_NoKind => k_is); (case ic_NoKind => k_is); (case ss_NotFirm => k_is); (case tx_NotFirm => k_is)
    (case ic_NotFirm => k_is); (case ss_TooLarge => k_is); (case tx_TooLarge => k_is); (case ic_TooLarge => k_is); (case ss_Unlike => k_is); (case ss_TollError => k_is)
    (case ic_TollError => k_is); (case dc_BadTree => k_is); (case mo_BadTree => k_is); (case dc_Unlike => k_is); (case mo_Unlike => k_is); (case oc_g => k_is)
    (case oc_t => k_is); (case v_VE => k_is); (case z_all => k_is); (case z_bool => k_is); (case z_enumerate => k_is); (case z_int => k_is)
    (case z_isinstance => k_is); (case z_len => k_is); (case z_list => k_is); (case z_max => k_is); (case z_range => k_is); (case z_set => k_is)
    (case z_str => k_is); (case z_tuple => k_is); (case z_ValueError => k_is); (case q_MOST_ITEMS => k_is); (case cv_TollError => k_is); (case sb_BadTree_BadTree => k_is)
    (case sb_BadTree_Unlike => k_is); (case iX_BadTree => k_is); (case sb_Unlike_BadTree => k_is); (case sb_Unlike_Unlike => k_is); (case iX_Unlike => k_is); (case sb_BadTree_BadModulus => k_is)
    (case sb_Unlike_BadModulus => k_is); (case sb_BadTree_BadOrder => k_is); (case sb_Unlike_BadOrder => k_is); (case sb_BadTree_BadReports => k_is); (case sb_Unlike_BadReports => k_is); (case sb_BadTree_BadRow => k_is)
    (case sb_Unlike_BadRow => k_is); (case sb_BadTree_BadStep => k_is); (case sb_Unlike_BadStep => k_is); (case sb_BadTree_BadTable => k_is); (case sb_Unlike_BadTable => k_is); (case sb_BadTree_NoKind => k_is)
    (case sb_Unlike_NoKind => k_is); (case sb_BadTree_NotFirm => k_is); (case sb_Unlike_NotFirm => k_is); (case sb_BadTree_TooLarge => k_is); (case sb_Unlike_TooLarge => k_is); (case sb_BadTree_TollError => k_is)
    (case sb_Unlike_TollError => k_is)
#print axioms PySem.Challenge.cw_jointoll_k08_whole_rotations_link_trees_holds
