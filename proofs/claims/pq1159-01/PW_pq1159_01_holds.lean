import PyProof.Rows.All
import Wide.All
import OpenK.AllK
import Wide.FinOn
import PyProof.NoPylong
import PySem.Challenge.RW_pq1159_01
set_option Elab.async false
set_option maxRecDepth 100000
set_option genInjectivity false
set_option genSizeOf false
set_option genSizeOfSpec false
set_option maxHeartbeats 0
namespace MineHead
open PySem PySem.W PySem.Calls PyProof.Rows

/-! ## A head of one's own: the run is to be shown at the caller's own context alone, and it gives True -/

abbrev callerC : Code := .builtin "claim.caller" {}
/-- the caller's own context, written out -/
abbrev g0 : Ctx := ⟨callerC, none, none, [], none⟩

/-- the caller's thread ends in True, in a state that the run's own word speaks of -/
theorem thread_gives {prog : Program} {w : World} {t : Sem PySem.Fin} {s : Shared} {R : Shared → Prop} (still : s.asleep)
    (run : Sem.wp (model prog w) g0 t (fun fin _ u => fin = .done (.ret (.bool true)) ∧ leftWithCleanup u.gens = false ∧ R u) (fun _ _ _ => False) default s) :
    ∃ n s', schedN (denote table) prog w n (.single s ⟨t, callerC, default, []⟩) = .halted (.done (.ret (.bool true))) s' ∧ s'.heap.life = s.heap.life ∧ ∃ u, R u ∧ s'.heap = u.heap ∧ s'.os = u.os := by
  have both := wp_halts_full (M := model prog w) (c := callerC) (R := fun r u => r = .ok (.ret (.bool true)) ∧ R u) still
    (Sem.wp_mono _ _ _ (fun fin _ u good => by
      obtain ⟨rfl, clean, rest⟩ := good
      exact ⟨⟨rfl, rest⟩, clean⟩) (fun _ _ _ bad => bad.elim) _ _ run)
  obtain ⟨n, _, u, s', sched, single, alike, rfl, rest⟩ := both
  have parts := Shared.forget_eq alike
  exact ⟨n, s', sched, runN_life _ _ _ single, u, rest, parts.1, parts.2.2.2.1⟩

/-- the stub looks the function up and calls it -/
theorem stub_gives {M : Model} {name : Str} {f : Value} {vals : List Value} {s : Shared} {mg : Str → Option Value} {Q : PySem.Fin → Pos → Shared → Prop} {E : Value → Pos → Shared → Prop} (ns : s.heap.Ns mainGlobals mg) (named : mg name = some f)
    (run : Sem.wp M g0 (PySem.call f vals) (fun v p u => Q (.done (.ret v)) p u) E default s) : Sem.wp M g0 (callStub name vals).cur Q E default s := by
  unfold callStub
  show Sem.wp M g0 (nsGet mainGlobals name >>= _) Q E default s
  rw [Sem.wp_bind', Sem.wp_nsGet _ _ _ _ _ ns, named]
  show Sem.wp M g0 (PySem.call f vals >>= fun v => ret v) Q E default s
  rw [Sem.wp_bind']
  exact run

/-- the arguments can be laid, and what stands then -/
theorem lays {R : WRecords} {w : World} {σ : Shared} {args : List WData} {shapes : List WShape} {ord : List DictEntry → List DictEntry} (known : ∀ c, (R.fields? c).isSome = true → (classAt σ.heap c).isSome = true)
    (fit : WShape.hasAll R args shapes = true) (can : WData.layableAll args = true) (none' : σ.gens = #[]) (perm : ∀ l, (ord l).Perm l) :
    ∃ vals s as, layAllW R (classAt σ.heap) w.params ord args σ = some (vals, s) ∧ s.heap.life = σ.heap.life ∧ Laid R w σ s args vals as := by
  have is := layAllW_isSome (P := w.params) (ord := ord) known args shapes σ fit
  cases lay : layAllW R (classAt σ.heap) w.params ord args σ with
  | none => rw [lay] at is; cases is
  | some x =>
    have rest := layAllW_rest _ _ _ lay
    have look := reads_layAllW perm _ _ _ lay can x.2.heap fun _ _ h => h
    cases look with
    | intro as look => exact ⟨x.1, x.2, as, rfl, rest.2.2.2, { laid := ⟨ord, perm, lay⟩, reads := look.1, within := look.2.1, old := look.2.2, keeps := layAllW_keeps _ _ _ lay, gens := rest.1.trans none', os := rest.2.2.1 }⟩

/-- what stands as the caller calls -/
structure Begin (r : RowW) (q : Program) (loose : List Str) (XP : (Str → Option Value) → Heap → Prop) (w : World) (σ s : Shared) (mg mb : Str → Option Value) (args : List WData) (vals : List Value) (as : List Addr) : Prop where
  ground : Ground q loose r.records XP w σ mg mb s.heap
  laid : Laid r.records w σ s args vals as
  pre : r.claim.pre args = true
  can : WData.layableAll args = true
  low : ∀ a ∈ as, (a == sysModules) = false

/-- from there the function gives True, in a state that is as the claim asks -/
abbrev Gives (r : RowW) (w : World) (σ s : Shared) (args : List WData) (f : Value) (vals : List Value) : Prop :=
  Sem.wp (model r.prog w) g0 (PySem.call f vals) (fun v _ u => v = .bool true ∧ GoodWG r.claim (classAt σ.heap) (ExcName.means σ.heap) args s (.ok (.ret (.bool true))) u) (fun _ _ _ => False) default s

/-- what is to be shown of the function that the row names -/
abbrev Runs (q : Program) (loose : List Str) (XP : (Str → Option Value) → Heap → Prop) {α : Type} (Yf : Shared → α) (Ya : World → α) (r : RowW) (d : DefRec) (kwd : List (Str × Expr)) : Prop :=
  defOf q r.name = some (d, kwd) → ∀ (w : World) (σ s : Shared) (mg mb : Str → Option Value) (args : List WData) (vals : List Value) (as : List Addr), Yf σ = Ya w → Begin r q loose XP w σ s mg mb args vals as → ∃ f, mg r.name = some f ∧ Gives r w σ s args f vals

/-- what is given beside the row -/
structure Given (A : Prop) : Prop where
  out : A

theorem PySem.W.holds_openX {r : OpenRow} {q : Program} {loose : List Str} {Xt : Shared → Bool} {XP : (Str → Option Value) → Heap → Prop} {α : Type} {Yf : Shared → α} {Ya : World → α} {d : DefRec} {kwd : List (Str × Expr)} {N : Nat} {A : Prop}
    (top : LeftO r.prog q loose Xt Yf Ya N) (seen : ∀ s, Xt s = true → XP (s.heap.nsMap mainGlobals) s.heap) (stays : ∀ m h k, XP m h → (∀ b o, h.get? b = some o → k.get? b = some o) → XP m k)
    (found : defOf q r.name = some (d, kwd)) (text : r.prog.theDef r.name = some (d.params, d.body, d.scope)) (kws : kwWritten? d.params.kwonlyargs d.params.kw_defaults = some kwd)
    (_recs : ∀ s, Xt s = true → RecFacts r.records s.heap) (_wr : (!r.writes || r.records.isEmpty) = true) (said : r.wellSaid = true)
    (fit : (chainsOk q && opensWell r.prog && (frees r.toRowW && r.within.isEmpty)) = true) (bare : r.prog.bare) (some' : r.toRowW.promised)
    (runs : A → Runs q loose XP Yf Ya r.toRowW d kwd) (given : Given A := by assumption) (norec : r.toRowW.records = [] := by rfl) : r.Holds := by
  simp only [Bool.and_eq_true] at fit
  have parts := frees_parts fit.2.1
  have lone : ∀ x, x ∉ r.toRowW.claim.records := fun x hx => by
    have e : x ∈ ([] : WRecords) := norec ▸ hx
    cases e
  refine ⟨said, some', ⟨bare, fit.1.2, ?_⟩, some'.witness, fun w => ?_⟩
  · show List.map _ r.makers = []
    rw [parts.2.2.2.2]; rfl
  have far := top.behind seen fit.1.1 w
  refine ⟨far.1, fun s₀ hs₀ => ?_⟩
  obtain ⟨s₁, fence, calm, σ, ran, asleep, gens, main, ground, y⟩ := far.2 s₀ hs₀
  refine ⟨s₁, fence, calm, σ, ran, fun n hn => ?_, fun x hx => absurd hx (lone x), fun x hx => absurd hx (lone x), fun args pre can ord perm => ?_⟩
  · have is : n = r.name := by
      revert hn
      cases r.pinned with
      | true => exact List.mem_singleton.mp
      | false => exact fun h => nomatch h
    exact is ▸ pinned_of_view main ground found text kws
  have none' : σ.gens = #[] := by simpa using gens
  have G := (recFacts_nil norec).ground ground
  obtain ⟨vals, s, as, lay, life, L⟩ := lays (w := w) G.has (pre_splitW pre).1 can none' perm
  have G' := G.keeps stays L.keeps
  obtain ⟨f, named, good⟩ := runs given.out found w σ s _ _ args vals as y ⟨G', L, pre, can, L.low G.low⟩
  obtain ⟨n, s', sched, life', u, ⟨good, heap, os⟩⟩ := thread_gives (R := fun u => GoodWG r.toRowW.claim (classAt σ.heap) (ExcName.means σ.heap) args s (.ok (.ret (.bool true))) u) (Shared.asleep_of_life life asleep)
    (stub_gives G'.T.g named (Sem.wp_mono _ _ _ (fun v _ u h => ⟨by rw [h.1], leftWithCleanup_false_of_bare h.2.2.2.2, h.2⟩) (fun _ _ _ h => h) _ _ good))
  have all := good.laid parts.1 (List.isEmpty_iff.mp fit.2.2) (ident_freeW parts.2.1 parts.2.2.1 parts.2.2.2.1) L
  have old : ∀ b o, s.heap.get? b = some o → asItWas s.heap s'.heap b o := heap ▸ good.2.1.old
  refine ⟨vals, s, lay, n, _, s', sched, ?_, fun _ i x hx => ?_, fun _ => ⟨namesKept_of ran main r.keeps L.keeps old, fun x hx => absurd hx (lone x)⟩, by rw [life', life], Shared.rest_eq (os.trans all.2.1)⟩
  · rw [heap] at old ⊢
    cases all.1 with
    | inl left =>
      obtain ⟨v, is, silent, answer, same, _, inner⟩ := left
      cases is
      exact .inl ⟨_, rfl, silent, answer, same, fun b o hb _ _ _ => old b o hb, inner⟩
    | inr right =>
      obtain ⟨_, _, _, is, _⟩ := right
      cases is
  · rw [none'] at hx
    cases hx
end MineHead
namespace Mine
open PySem PySem.W PySem.W.X

/-! ## A machine of one's own: the call is run on the trees, at a written context, over a heap of which a part is known -/

noncomputable def den (c : Code) : Sem PySem.Fin := PySem.W.Fast.tw11892475500146522536 PySem.W.Fast.tw14364793385576792824 c
theorem den_eq (c : Code) : denote table c = den c := by
  rw [table_eq_tree]
  exact congrFun (congr PySem.W.Fast.te11892475500146522536 PySem.W.Fast.te14364793385576792824) c

noncomputable def qk (c : Code) : Bool := @Bool.rec (fun _ => Bool) true false (PySem.W.Fast.tw15578638425004381011 ⟨.pure (.again c), c, default, []⟩)
theorem qk_quiet {c : Code} (h : qk c = true) : c.quiet = true := by
  unfold qk at h
  rw [← PySem.W.Fast.te15578638425004381011] at h
  cases q : Thread.atCollectorCode ⟨.pure (.again c), c, default, []⟩ with
  | true => rw [q] at h; cases h
  | false =>
    unfold Code.quiet Thread.loud
    rw [q]
    rfl

/-! ### looks into a value: each with its inversion -/
def grd {α : Type} (b : Bool) (k : Option α) : Option α := match b with | true => k | false => none
theorem grd_eq {α : Type} {b : Bool} {k : Option α} {x : α} (h : grd b k = some x) : b = true ∧ k = some x := by
  cases b with
  | true => exact ⟨rfl, h⟩
  | false => cases h
def bnd {α β : Type} (a : Option α) (k : α → Option β) : Option β := match a with | none => none | some x => k x
theorem bnd_eq {α β : Type} {a : Option α} {k : α → Option β} {y : β} (h : bnd a k = some y) : ∃ x, a = some x ∧ k x = some y := by
  cases a with
  | none => cases h
  | some x => exact ⟨x, rfl, h⟩
/-- what is known of the call's own objects: by their place behind the first one -/
noncomputable def kput (n : Nat) : KT → Nat → Obj → KT :=
  @Nat.rec (fun _ => KT → Nat → Obj → KT) (fun _ _ _ => .nil) (fun _ ih t i o =>
    @KT.rec (fun _ => KT)
      (@Bool.rec (fun _ => KT) (@Bool.rec (fun _ => KT) (.node none .nil (ih .nil (i / 2 - 1) o)) (.node none (ih .nil (i / 2) o) .nil) (Nat.beq (i % 2) 1)) (.node (some o) .nil .nil) (Nat.beq i 0))
      (fun v l r _ _ => @Bool.rec (fun _ => KT) (@Bool.rec (fun _ => KT) (.node v l (ih r (i / 2 - 1) o)) (.node v (ih l (i / 2) o) r) (Nat.beq (i % 2) 1)) (.node (some o) l r) (Nat.beq i 0)) t) n

def ktV (t : KT) : Option Obj := match t with | .nil => none | .node v _ _ => v
def ktL (t : KT) : KT := match t with | .nil => .nil | .node _ l _ => l
def ktR (t : KT) : KT := match t with | .nil => .nil | .node _ _ r => r
theorem get_acc (t : KT) (j : Nat) : t.get j = if j = 0 then ktV t else if j % 2 = 1 then (ktL t).get (j / 2) else (ktR t).get (j / 2 - 1) := by
  cases t with
  | nil => exact (ite_self _).symm ▸ (ite_self _).symm
  | node v l r => exact KT.get_node v l r j
theorem kput_node (n : Nat) (t : KT) (i : Nat) (o : Obj) : kput (n + 1) t i o = .node (if i = 0 then some o else ktV t) (if i % 2 = 1 then kput n (ktL t) (i / 2) o else ktL t) (if i ≠ 0 ∧ i % 2 ≠ 1 then kput n (ktR t) (i / 2 - 1) o else ktR t) := by
  have e : kput (n + 1) t i o = @Bool.rec (fun _ => KT) (@Bool.rec (fun _ => KT) (.node (ktV t) (ktL t) (kput n (ktR t) (i / 2 - 1) o)) (.node (ktV t) (kput n (ktL t) (i / 2) o) (ktR t)) (Nat.beq (i % 2) 1)) (.node (some o) (ktL t) (ktR t)) (Nat.beq i 0) := by
    cases t <;> rfl
  rw [e, BT.beq_eq, BT.beq_eq]
  by_cases h : i = 0
  · subst h; rfl
  · rw [decide_eq_false h, if_neg h]
    by_cases p : i % 2 = 1
    · rw [decide_eq_true p, if_pos p, if_neg fun q => q.2 p]
    · rw [decide_eq_false p, if_neg p, if_pos ⟨h, p⟩]
theorem half_odd {i j : Nat} (a : i % 2 = 1) (b : j % 2 = 1) (e : j / 2 = i / 2) : j = i := by
  rw [← Nat.div_add_mod i 2, ← Nat.div_add_mod j 2, a, b, e]
theorem twice_half {i : Nat} (a : i ≠ 0 ∧ i % 2 ≠ 1) : 2 * (i / 2) = i ∧ 0 < i / 2 := by
  have h : 2 * (i / 2) = i := by
    have z := Nat.div_add_mod i 2
    rwa [Nat.mod_two_ne_one.mp a.2, Nat.add_zero] at z
  exact ⟨h, Nat.pos_of_ne_zero fun q => a.1 (by rw [← h, q])⟩
theorem half_even {i j : Nat} (a : i ≠ 0 ∧ i % 2 ≠ 1) (b0 : ¬ j = 0) (b : ¬ j % 2 = 1) (e : j / 2 - 1 = i / 2 - 1) : j = i := by
  have x := twice_half a
  have y := twice_half ⟨b0, b⟩
  rw [← x.1, ← y.1, Nat.sub_one_cancel y.2 x.2 e]
theorem kput_get (n : Nat) : ∀ (t : KT) (i : Nat) (o : Obj) (j : Nat) (o' : Obj), (kput n t i o).get j = some o' → (j = i ∧ o' = o) ∨ (j ≠ i ∧ t.get j = some o') := by
  induction n with
  | zero => exact fun _ _ _ _ _ h => by cases h
  | succ n ih =>
    intro t i o j o' h
    rw [kput_node, KT.get_node] at h
    rw [get_acc]
    by_cases j0 : j = 0
    · rw [if_pos j0] at h ⊢
      by_cases i0 : i = 0
      · rw [if_pos i0] at h
        exact .inl ⟨j0.trans i0.symm, (Option.some.inj h).symm⟩
      · rw [if_neg i0] at h
        exact .inr ⟨fun e => i0 (e ▸ j0), h⟩
    · rw [if_neg j0] at h ⊢
      by_cases pj : j % 2 = 1
      · rw [if_pos pj] at h ⊢
        by_cases pi : i % 2 = 1
        · rw [if_pos pi] at h
          exact (ih _ _ _ _ _ h).imp (fun q => ⟨half_odd pi pj q.1, q.2⟩) fun q => ⟨fun e => q.1 (e ▸ rfl), q.2⟩
        · rw [if_neg pi] at h
          exact .inr ⟨fun e => pi (e ▸ pj), h⟩
      · rw [if_neg pj] at h ⊢
        by_cases pi : i ≠ 0 ∧ i % 2 ≠ 1
        · rw [if_pos pi] at h
          exact (ih _ _ _ _ _ h).imp (fun q => ⟨half_even pi j0 pj q.1, q.2⟩) fun q => ⟨fun e => q.1 (e ▸ rfl), q.2⟩
        · rw [if_neg pi] at h
          exact .inr ⟨fun e => pi (e ▸ ⟨j0, pj⟩), h⟩

/-- what a run starts from: the library's record of it, and the generators that then stand -/
structure Base extends XV where
  gens : Array GenState
abbrev Base.Ok (V : Base) : Prop := V.toXV.Ok
abbrev Base.M (V : Base) : Model := model V.prog V.w

/-- the heap now: of the objects from before the library's word stands (base); T is what is known of the call's own objects, X what lies aside and is not touched -/
structure RepE (V : Base) (X : Nat → Option Obj) (h : Heap) (T : KT) (m : Nat) (ch : Ch) : Prop where
  base : Rep V.toXV h .nil m ch
  own : ∀ i o, T.get i = some o → h.get? (V.n₁ + i) = some o
  aside : ∀ i o, X i = some o → i < m ∧ T.get i = none ∧ h.get? (V.n₁ + i) = some o

/-- an object that is known now -/
noncomputable def known (V : Base) (T : KT) (ch : Ch) (a : Addr) : Option Obj :=
  @Bool.rec (fun _ => Option Obj) (T.get (a - V.n₁)) (look V.toXV .nil ch a) (Nat.blt a V.n₁)
/-- a table of a code that stood before, as a store makes it: it may grow alone -/
noncomputable def grows (V : Base) (ch : Ch) (f : Obj → Obj) (a : Addr) : Option (Array Value) :=
  bnd (nowTab V.toXV ch a) fun now => bnd (tabOf (f (tableObj now))) fun then' => bnd (strip now.toList then'.toList) fun _ => some then'

theorem far1 {n i a : Nat} (_ : n ≤ a) (ne : i ≠ a - n) : n + i ≠ a := fun e => ne (e ▸ (Nat.add_sub_cancel_left ..).symm)
theorem far2 {n i a : Nat} (la : a < n) : n + i ≠ a := Nat.ne_of_gt (Nat.lt_of_lt_of_le la (Nat.le_add_right ..))
theorem far3 {n i m : Nat} (h : n + i < n + m) : i < m := Nat.lt_of_add_lt_add_left h
section
variable {V : Base} {X : Nat → Option Obj} {h k : Heap} {T : KT} {m m' : Nat} {ch : Ch}
/-- the library's word is carried to a heap that keeps the objects from before -/
theorem carried (O : V.Ok) (D : Rep V.toXV h .nil m ch) (size : k.objs.size = V.n₁ + m') (same : ∀ b o, b < V.n₁ → h.get? b = some o → k.get? b = some o) : Rep V.toXV k .nil m' ch where
  size := size
  own _ _ e := nomatch e
  keep b o e q := same b o (Rep.oldLt O e) (D.keep b o e q)
  ch a vs e := match D.ch a vs e with
    | ⟨now, c, ps, more, was, is⟩ => ⟨same a _ (Rep.oldLt O was.2) now, c, ps, more, was, is⟩
theorem RepE.known (O : V.Ok) (D : RepE V X h T m ch) {a : Addr} {o : Obj} : known V T ch a = some o → h.get? a = some o := by
  unfold Mine.known
  generalize q : Nat.blt a V.n₁ = b
  cases b with
  | true => exact D.base.look O
  | false => exact fun e => Nat.add_sub_cancel' (blt_false q) ▸ D.own _ _ e
theorem RepE.lt (D : RepE V X h T m ch) {i : Nat} {o : Obj} (e : T.get i = some o) : i < m := by
  have := Heap.lt_size (D.own i o e)
  rw [D.base.size] at this
  exact far3 this
theorem RepE.alloc (O : V.Ok) (D : RepE V X h T m ch) {o : Obj} (hf : o.isFreed = false) : RepE V X (h.push o) (kput 40 T m o) (m + 1) ch where
  base := carried O D.base (by rw [Heap.size_push, D.base.size]; rfl) fun _ _ _ e => Heap.get?_push_of_some _ e
  own i o' e := by
    rcases kput_get _ _ _ _ _ _ e with ⟨rfl, rfl⟩ | ⟨_, q⟩
    · rw [← D.base.size]; exact Heap.get?_push_size _ hf
    · exact Heap.get?_push_of_some _ (D.own i o' q)
  aside i o' e := by
    have z := D.aside i o' e
    refine ⟨Nat.lt_succ_of_lt z.1, ?_, Heap.get?_push_of_some _ z.2.2⟩
    cases q : (kput 40 T m o).get i with
    | none => rfl
    | some x =>
      rcases kput_get _ _ _ _ _ _ q with ⟨rfl, rfl⟩ | ⟨_, q⟩
      · exact absurd z.1 (Nat.lt_irrefl _)
      · rw [z.2.1] at q; cases q
theorem RepE.update (O : V.Ok) (D : RepE V X h T m ch) {a : Addr} {o : Obj} {f : Obj → Obj} (ha : V.n₁ ≤ a) (e : T.get (a - V.n₁) = some o) (hf : (f o).isFreed = false) : h.get? a = some o ∧ RepE V X (h.update a f) (kput 40 T (a - V.n₁) (f o)) m ch := by
  have was : h.get? a = some o := Nat.add_sub_cancel' ha ▸ D.own _ _ e
  have same := (Heap.SameBut.update (h := h) (a := a) (f := f)).2
  exact ⟨was, {
    base := carried O D.base ((Heap.SameBut.update (h := h) (a := a) (f := f)).1.trans D.base.size) fun b _ lt g => (same b (Nat.ne_of_lt (Nat.lt_of_lt_of_le lt ha))).trans g
    own := fun i o' e' => by
      rcases kput_get _ _ _ _ _ _ e' with ⟨rfl, rfl⟩ | ⟨ne, q⟩
      · rw [Nat.add_sub_cancel' ha]; exact Heap.get?_update_self f was hf
      · exact (same _ (far1 ha ne)).trans (D.own i o' q)
    aside := fun i o' e' => by
      have y := D.aside i o' e'
      have ne : i ≠ a - V.n₁ := by rintro rfl; rw [y.2.1] at e; cases e
      refine ⟨y.1, ?_, (same _ (far1 ha ne)).trans y.2.2⟩
      cases q : (kput 40 T (a - V.n₁) (f o)).get i with
      | none => rfl
      | some x =>
        rcases kput_get _ _ _ _ _ _ q with ⟨rfl, rfl⟩ | ⟨_, q⟩
        · exact absurd rfl ne
        · rw [y.2.1] at q; cases q }⟩
theorem RepE.table (O : V.Ok) (D : RepE V X h T m ch) {a : Addr} {f : Obj → Obj} {vs : Array Value} (la : a < V.n₁) (e : grows V ch f a = some vs) : (h.get? a).isSome = true ∧ RepE V X (h.update a f) T m (chPut ch a vs) := by
  obtain ⟨now, h1, e⟩ := bnd_eq e
  obtain ⟨_, h2, e⟩ := bnd_eq e
  obtain ⟨_, h3, e⟩ := bnd_eq e
  cases e
  have both := D.base.table O h1 (tabOf_eq h2) h3
  have same := (Heap.SameBut.update (h := h) (a := a) (f := f)).2
  exact ⟨by rw [both.1]; rfl, {
    base := both.2
    own := fun i o e => (same _ (far2 la)).trans (D.own i o e)
    aside := fun i o e => ⟨(D.aside i o e).1, (D.aside i o e).2.1, (same _ (far2 la)).trans (D.aside i o e).2.2⟩ }⟩
end

structure FrE where
  Γ : Ctx
  p : Pos
  k : Result → Sem PySem.Fin

abbrev kHas : Nat := 8395601325623592240556648632771639105386101
abbrev kGetItem : Nat := 128106587276438692081757506308483082853
abbrev kGet : Nat := 8459563503104322149
abbrev kLEq : Nat := 116512336171186236184357485
abbrev kLNe : Nat := 116512115458775698011089517
abbrev kTNe : Nat := 29827101557446578626297427573
abbrev kLen : Nat := 7300717
abbrev kTuple : Nat := 439922816629
abbrev kList : Nat := 1970563693
abbrev kDict : Nat := 1969515109

abbrev kListIter : Nat := 9146042919481958196396663532141
/-- a place of the run, by the number of the codes entered so far, where a fact stands for the steps.
bit: the code hands back a bool at once: which one; num: of two ints, this int; has: a text in a tuple of texts;
dget: a dict's value at an int; dmiss: get of an empty dict; eqv: two lists or tuples alike; alias: a comprehension over a list's iterator begins at once; seg: a whole call that hands back True -/
inductive Hint where
  | bit (n : Nat) (r : Bool)
  | num (n : Nat) (x : Int)
  | has (n : Nat)
  | dget (n i : Nat)
  | dmiss (n : Nat)
  | eqv (n : Nat)
  | len (n : Nat)
  | alias (n : Nat)
  | seg (n i nt : Nat) (sl : Array (Option Value)) (as : List Nat) (F : (Nat → Tok) → List (Nat × Obj)) (m : Nat) (ch : Ch)

def Hint.at : Hint → Nat
  | .bit n _ | .num n _ | .has n | .dget n _ | .dmiss n | .eqv n | .len n | .alias n | .seg n _ _ _ _ _ _ _ => n

inductive Out where
  | bad (n a : Nat)
  | bit (b r : Bool) (o : Out)
  | num (k : Nat) (a b x : Int) (o : Out)
  | key (h k' k : Int) (hit : Bool) (o : Out)
  | eqs (l : List (Int × Int)) (o : Out)
  | seg (Γ : Ctx) (p : Pos) (i : Nat) (C : Value) (dd : Option Addr) (sl sl' : Array (Option Value)) (l : List (Nat × Obj)) (nt : Nat) (F : (Nat → Tok) → List (Nat × Obj)) (m m' : Nat) (ch ch' : Ch) (o : Out)
  | fin (r : Result) (F : Option (List (Nat × Obj))) (m : Nat) (ch : Ch)

/-- the first tokens of a stream -/
noncomputable def cutTok (nt : Nat) (σ : Nat → Tok) : Nat → Tok := fun i => @Bool.rec (fun _ => Tok) 0 (σ i) (Nat.blt i nt)

noncomputable def kputs (T : KT) (F : List (Nat × Obj)) : KT :=
  @List.rec (Nat × Obj) (fun _ => KT) T (fun p _ ih => kput 40 ih p.1 p.2) F

noncomputable def ownAt (T : KT) (F : List Nat) : Option (List (Nat × Obj)) :=
  @List.rec Nat (fun _ => Option (List (Nat × Obj))) (some []) (fun a _ ih => bnd (T.get a) fun o => bnd ih fun l => some ((a, o) :: l)) F

noncomputable def roomOk (bl : List (Code × Pos)) : Bool := Nat.ble ((bl.map fun x => x.1.cUnits).sum + 100) 9000

theorem nn {α : Type} {P : Prop} {a : α} (h : (none : Option α) = some a) : P := nomatch h
def refOf (v : Value) : Option Addr := match v with | .ref a => some a | _ => none
theorem refOf_eq {v : Value} {a : Addr} : refOf v = some a → v = .ref a :=
  Value.casesOn (motive := fun v => refOf v = some a → v = .ref a) v nn nn nn (fun _ => nn) (fun _ _ => nn) (fun _ _ => nn) (fun _ _ => nn) (fun _ _ => nn) (fun _ => nn) (fun _ => nn) (fun _ h => congrArg _ (Option.some.inj h))
def intOf (v : Value) : Option Int := match v with | .int i _ => some i | _ => none
theorem intOf_eq {v : Value} {i : Int} : intOf v = some i → ∃ t, v = .int i t :=
  Value.casesOn (motive := fun v => intOf v = some i → ∃ t, v = .int i t) v nn nn nn (fun _ => nn) (fun _ t h => ⟨t, congrArg (Value.int · t) (Option.some.inj h)⟩) (fun _ _ => nn) (fun _ _ => nn) (fun _ _ => nn) (fun _ => nn) (fun _ => nn) (fun _ => nn)
def strOf (v : Value) : Option Str := match v with | .str s _ => some s | _ => none
theorem strOf_eq {v : Value} {s : Str} : strOf v = some s → ∃ t, v = .str s t :=
  Value.casesOn (motive := fun v => strOf v = some s → ∃ t, v = .str s t) v nn nn nn (fun _ => nn) (fun _ _ => nn) (fun _ _ => nn) (fun _ t h => ⟨t, congrArg (Value.str · t) (Option.some.inj h)⟩) (fun _ _ => nn) (fun _ => nn) (fun _ => nn) (fun _ => nn)
def tyOf (v : Value) : Option String := match v with | .type n => some n | _ => none
theorem tyOf_eq {v : Value} {n : String} : tyOf v = some n → v = .type n :=
  Value.casesOn (motive := fun v => tyOf v = some n → v = .type n) v nn nn nn (fun _ => nn) (fun _ _ => nn) (fun _ _ => nn) (fun _ _ => nn) (fun _ _ => nn) (fun _ h => congrArg _ (Option.some.inj h)) (fun _ => nn) (fun _ => nn)
def isZero (i : Int) : Bool := match i with | .ofNat z => Nat.beq z 0 | .negSucc _ => false
theorem isZero_eq {i : Int} (h : isZero i = true) : i = 0 := by
  cases i with
  | ofNat z => rw [Nat.eq_of_beq_eq_true h]; rfl
  | negSucc z => cases h
/-- a small int's number -/
def intTok (v : Value) : Option (Int × Nat) := match v with | .int i t => some (i, t) | _ => none
theorem intTok_eq {v : Value} {x : Int × Nat} : intTok v = some x → v = .int x.1 x.2 :=
  Value.casesOn (motive := fun v => intTok v = some x → v = .int x.1 x.2) v nn nn nn (fun _ => nn) (fun _ _ h => congrArg (fun x : Int × Nat => Value.int x.1 x.2) (Option.some.inj h)) (fun _ _ => nn) (fun _ _ => nn) (fun _ _ => nn) (fun _ => nn) (fun _ => nn) (fun _ => nn)
def natPart (i : Int) : Option Nat := match i with | .ofNat z => some z | .negSucc _ => none
theorem natPart_eq {i : Int} {z : Nat} : natPart i = some z → i = (z : Nat) := match i with
  | .ofNat _ => fun h => congrArg Int.ofNat (Option.some.inj h)
  | .negSucc _ => nn
def natOf (v : Value) : Option Nat := bnd (intTok v) fun x => grd (Nat.beq x.2 0) (natPart x.1)
theorem natOf_eq {v : Value} {z : Nat} (h : natOf v = some z) : v = .int (z : Nat) 0 := by
  obtain ⟨x, h1, h⟩ := bnd_eq h
  obtain ⟨h2, h⟩ := grd_eq h
  rw [intTok_eq h1, natPart_eq h, Nat.eq_of_beq_eq_true h2]
def nilOf {α : Type} (l : List α) : Bool := match l with | [] => true | _ :: _ => false
theorem nilOf_eq {α : Type} {l : List α} (h : nilOf l = true) : l = [] := by
  cases l with
  | nil => rfl
  | cons _ _ => cases h
def oneOf {α : Type} (l : List α) : Option α := match l with | [] => none | v :: r => grd (nilOf r) (some v)
theorem oneOf_eq {α : Type} {l : List α} {v : α} (h : oneOf l = some v) : l = [v] := by
  cases l with
  | nil => cases h
  | cons u r =>
    obtain ⟨h1, h2⟩ := grd_eq h
    cases h2
    rw [nilOf_eq h1]
def pairOf {α : Type} (l : List α) : Option (α × α) := match l with | [] => none | v :: r => bnd (oneOf r) fun u => some (v, u)
theorem pairOf_eq {α : Type} {l : List α} {x : α × α} (h : pairOf l = some x) : l = [x.1, x.2] := by
  cases l with
  | nil => cases h
  | cons v r =>
    obtain ⟨u, h1, h2⟩ := bnd_eq h
    cases h2
    rw [oneOf_eq h1]
def seqData (d : Data) : Option (Array Value) := match d with | .seq xs _ => some xs | _ => none
theorem seqData_eq {d : Data} {xs : Array Value} : seqData d = some xs → ∃ n, d = .seq xs n :=
  Data.casesOn (motive := fun d => seqData d = some xs → ∃ n, d = .seq xs n) d nn (fun _ => nn) (fun _ n h => ⟨n, congrArg (Data.seq · n) (Option.some.inj h)⟩) (fun _ _ => nn) (fun _ _ _ => nn) (fun _ _ => nn) (fun _ => nn) (fun _ => nn) (fun _ => nn) (fun _ => nn) nn
def dictData (d : Data) : Option (Array DictEntry × Nat) := match d with | .dict es ep => some (es, ep) | _ => none
theorem dictData_eq {d : Data} {x : Array DictEntry × Nat} : dictData d = some x → d = .dict x.1 x.2 :=
  Data.casesOn (motive := fun d => dictData d = some x → d = .dict x.1 x.2) d nn (fun _ => nn) (fun _ _ => nn) (fun _ _ h => congrArg (fun x : Array DictEntry × Nat => Data.dict x.1 x.2) (Option.some.inj h)) (fun _ _ _ => nn) (fun _ _ => nn) (fun _ => nn) (fun _ => nn) (fun _ => nn) (fun _ => nn) nn
def fldData (d : Data) : Option (Array Value) := match d with | .fields vs => some vs | _ => none
theorem fldData_eq {d : Data} {vs : Array Value} : fldData d = some vs → d = .fields vs :=
  Data.casesOn (motive := fun d => fldData d = some vs → d = .fields vs) d nn (fun _ => nn) (fun _ _ => nn) (fun _ _ => nn) (fun _ _ _ => nn) (fun _ _ => nn) (fun _ => nn) (fun _ => nn) (fun _ => nn) (fun _ h => congrArg _ (Option.some.inj h)) nn
def builtinOf (c : Code) : Option (String × Args) := match c with | .builtin id args => some (id, args) | _ => none
theorem builtinOf_eq {c : Code} {x : String × Args} : builtinOf c = some x → c = .builtin x.1 x.2 :=
  Code.casesOn (motive := fun c => builtinOf c = some x → c = .builtin x.1 x.2) c (fun _ _ => nn) (fun _ _ h => congrArg (fun x : String × Args => Code.builtin x.1 x.2) (Option.some.inj h)) (fun _ _ => nn) (fun _ _ => nn) (fun _ _ _ => nn) (fun _ _ _ _ _ => nn) (fun _ _ => nn) (fun _ _ => nn) (fun _ _ _ _ => nn) (fun _ _ _ _ _ => nn) (fun _ _ _ _ _ => nn) (fun _ _ _ _ _ => nn) (fun _ _ _ _ _ => nn)
/-- a builtin of two (one) values -/
def two? (c : Code) : Option (String × Value × Value) := bnd (builtinOf c) fun x => grd (nilOf x.2.kw) (bnd (pairOf x.2.pos) fun y => some (x.1, y))
theorem two_eq {c : Code} {t : String × Value × Value} (h : two? c = some t) : c = .builtin t.1 ⟨[t.2.1, t.2.2], []⟩ := by
  obtain ⟨⟨id, pos, kw⟩, h1, h⟩ := bnd_eq h
  obtain ⟨h2, h⟩ := grd_eq h
  obtain ⟨y, h3, h⟩ := bnd_eq h
  cases h
  rw [builtinOf_eq h1, ← pairOf_eq h3, ← nilOf_eq h2]
def one? (c : Code) : Option (String × Value) := bnd (builtinOf c) fun x => grd (nilOf x.2.kw) (bnd (oneOf x.2.pos) fun y => some (x.1, y))
theorem one_eq {c : Code} {t : String × Value} (h : one? c = some t) : c = .builtin t.1 ⟨[t.2], []⟩ := by
  obtain ⟨⟨id, pos, kw⟩, h1, h⟩ := bnd_eq h
  obtain ⟨h2, h⟩ := grd_eq h
  obtain ⟨y, h3, h⟩ := bnd_eq h
  cases h
  rw [builtinOf_eq h1, ← oneOf_eq h3, ← nilOf_eq h2]
/-- an object of the exact class whose name has this number -/
def isTy (k : Nat) (o : Obj) : Bool := match tyOf o.cls with | some n => Nat.beq (code n) k | none => false
theorem isTy_eq {k : Nat} {n : String} (hk : code n = k) {o : Obj} (h : isTy k o = true) : o.cls = .type n := by
  cases q : tyOf o.cls with
  | none => unfold isTy at h; rw [q] at h; cases h
  | some m =>
    unfold isTy at h; rw [q] at h
    rw [tyOf_eq q, code_inj _ _ ((Nat.eq_of_beq_eq_true h).trans hk.symm)]
/-- the items of an exact tuple (list) -/
def seqOf (k : Nat) (o : Obj) : Option (Array Value) := grd (isTy k o) (seqData o.data)
theorem seqOf_eq {k : Nat} {n : String} (hk : code n = k) {o : Obj} {xs : Array Value} (h : seqOf k o = some xs) : ∃ dd n' sl, o = ⟨.type n, dd, .seq xs n', sl⟩ := by
  obtain ⟨h1, h2⟩ := grd_eq h
  obtain ⟨n', h2⟩ := seqData_eq h2
  exact ⟨o.dict, n', o.slots, by rw [← h2, ← isTy_eq hk h1]⟩
def dictOf' (o : Obj) : Option (Array DictEntry × Nat) := grd (isTy kDict o) (grd o.dict.isNone (grd (nilOf o.slots.toList) (dictData o.data)))
theorem dictOf_eq {o : Obj} {x : Array DictEntry × Nat} (h : dictOf' o = some x) : o = ⟨.type "dict", none, .dict x.1 x.2, #[]⟩ := by
  obtain ⟨h1, h⟩ := grd_eq h
  obtain ⟨h2, h⟩ := grd_eq h
  obtain ⟨h3, h⟩ := grd_eq h
  obtain ⟨c, dd, d, sl⟩ := o
  have e1 : c = .type "dict" := isTy_eq (show code "dict" = kDict by decide +kernel) h1
  have e2 : dd = none := Option.isNone_iff_eq_none.mp h2
  have e3 : sl = #[] := Array.ext' (nilOf_eq h3)
  have e4 : d = .dict x.1 x.2 := dictData_eq h
  rw [e1, e2, e3, e4]

/-- the list of an exact list's iterator -/
def iterOf (o : Obj) : Option (Addr × Nat) := grd (isTy kListIter o) (bnd (fldData o.data) fun vs => bnd (pairOf vs.toList) fun x => bnd (refOf x.1) fun l => bnd (natOf x.2) fun i => some (l, i))
theorem iterOf_eq {o : Obj} {x : Addr × Nat} (h : iterOf o = some x) : o.cls = .type "list_iterator" ∧ o.data = .fields #[.ref x.1, .int (x.2 : Nat) 0] := by
  obtain ⟨h1, h⟩ := grd_eq h
  obtain ⟨vs, h2, h⟩ := bnd_eq h
  obtain ⟨y, h3, h⟩ := bnd_eq h
  obtain ⟨l, h4, h⟩ := bnd_eq h
  obtain ⟨i, h5, h⟩ := bnd_eq h
  cases h
  refine ⟨isTy_eq (show code "list_iterator" = kListIter by decide +kernel) h1, ?_⟩
  rw [fldData_eq h2, ← refOf_eq h4, ← natOf_eq h5]
  exact congrArg _ (Array.ext' (pairOf_eq h3))
/-- a list comprehension's first code: its parts -/
def startOf (c : Code) : Option (Expr × Nat × Value × Value × Env) := match c with | .compStart ex d it acc env => some (ex, d, it, acc, env) | _ => none
theorem startOf_eq {c : Code} {x : Expr × Nat × Value × Value × Env} : startOf c = some x → c = .compStart x.1 x.2.1 x.2.2.1 x.2.2.2.1 x.2.2.2.2 :=
  Code.casesOn (motive := fun c => startOf c = some x → c = .compStart x.1 x.2.1 x.2.2.1 x.2.2.2.1 x.2.2.2.2) c (fun _ _ => nn) (fun _ _ => nn) (fun _ _ => nn) (fun _ _ => nn) (fun _ _ _ => nn) (fun _ _ _ _ _ => nn) (fun _ _ => nn) (fun _ _ => nn) (fun _ _ _ _ => nn) (fun _ _ _ _ _ => nn) (fun _ _ _ _ _ => nn) (fun _ _ _ _ _ h => congrArg (fun x : Expr × Nat × Value × Value × Env => Code.compStart x.1 x.2.1 x.2.2.1 x.2.2.2.1 x.2.2.2.2) (Option.some.inj h)) (fun _ _ _ _ _ => nn)
def gensOf (e : Expr) : Option (List Comprehension) := match e with | .ListComp _ gens _ _ => some gens | _ => none
theorem gensOf_eq {e : Expr} {l : List Comprehension} : gensOf e = some l → ∃ elt scope pos, e = .ListComp elt l scope pos :=
  Expr.casesOn (motive_1 := fun e => gensOf e = some l → ∃ elt scope pos, e = .ListComp elt l scope pos) e (fun _ _ _ => nn) (fun _ _ _ => nn) (fun _ _ _ _ => nn) (fun _ _ _ => nn) (fun _ _ _ _ => nn) (fun _ _ _ _ => nn) (fun _ _ _ => nn) (fun _ _ _ => nn) (fun elt _ scope pos h => ⟨elt, scope, pos, congrArg (Expr.ListComp elt · scope pos) (Option.some.inj h)⟩) (fun _ _ _ _ => nn) (fun _ _ _ _ _ => nn) (fun _ _ _ _ => nn) (fun _ _ => nn) (fun _ _ => nn) (fun _ _ => nn) (fun _ _ _ _ => nn) (fun _ _ _ _ => nn) (fun _ _ _ _ => nn) (fun _ _ => nn) (fun _ _ _ => nn) (fun _ _ _ => nn) (fun _ _ _ => nn) (fun _ _ => nn) (fun _ _ => nn) (fun _ _ => nn) (fun _ _ _ => nn) (fun _ _ _ _ => nn)
def headOf {α : Type} (l : List α) : Option (α × List α) := match l with | [] => none | v :: r => some (v, r)
theorem headOf_eq {α : Type} {l : List α} {x : α × List α} : headOf l = some x → l = x.1 :: x.2 := match l with
  | [] => nn
  | _ :: _ => fun h => congrArg (fun x : α × List α => x.1 :: x.2) (Option.some.inj h)
def loopOf (c : Code) : Option (Addr × Code) := bnd (startOf c) fun x => grd (Nat.beq x.2.1 0) (bnd (refOf x.2.2.1) fun a => bnd (gensOf x.1) fun gs => bnd (headOf gs) fun g => grd (isZero g.1.is_async) (some (a, .compLoop x.1 0 (.ref a) x.2.2.2.1 x.2.2.2.2)))
theorem loopOf_eq {c : Code} {x : Addr × Code} (h : loopOf c = some x) : ∃ elt g rest scope pos acc env, g.is_async = 0 ∧
    c = .compStart (.ListComp elt (g :: rest) scope pos) 0 (.ref x.1) acc env ∧ x.2 = .compLoop (.ListComp elt (g :: rest) scope pos) 0 (.ref x.1) acc env := by
  obtain ⟨y, h1, h⟩ := bnd_eq h
  obtain ⟨h2, h⟩ := grd_eq h
  obtain ⟨a, h3, h⟩ := bnd_eq h
  obtain ⟨l, h4, h⟩ := bnd_eq h
  obtain ⟨g, h5, h⟩ := bnd_eq h
  obtain ⟨h6, h⟩ := grd_eq h
  obtain ⟨elt, scope, pos, h4⟩ := gensOf_eq h4
  rw [headOf_eq h5] at h4
  rw [h4] at h
  refine ⟨elt, g.1, g.2, scope, pos, y.2.2.2.1, y.2.2.2.2, isZero_eq h6, ?_, ?_⟩
  · rw [startOf_eq h1, h4, Nat.eq_of_beq_eq_true h2, refOf_eq h3, ← Option.some.inj h]
  · rw [← Option.some.inj h]

noncomputable def hasIn (s : Str) (l : List Value) : Option Bool :=
  @List.rec Value (fun _ => Option Bool) (some false) (fun v _ ih => bnd (strOf v) fun x => bnd ih fun b => some (match Fast.sEq x s with | true => true | false => b)) l

/-- the i-th entry's value; each key is told -/
noncomputable def keysOf (k : Int) (l : List DictEntry) : Nat → Nat → Option (Option Value × (Out → Out)) :=
  @List.rec DictEntry (fun _ => Nat → Nat → Option (Option Value × (Out → Out))) (fun _ _ => some (none, fun o => o)) (fun e _ ih j i => bnd (intOf e.key) fun k' => bnd (ih (j + 1) i) fun x => match Nat.beq j i with
    | true => some (some e.val, fun o => .key e.hash k' k true (x.2 o))
    | false => some (x.1, fun o => .key e.hash k' k false (x.2 o))) l

noncomputable def cpsOk (l : List Nat) : Bool := @List.rec Nat (fun _ => Bool) true (fun c _ ih => match Nat.blt c 1114112 with | true => ih | false => false) l

noncomputable def zipE (f : Value → Value → Option (List (Int × Int))) (l : List Value) : List Value → Option (List (Int × Int)) :=
  @List.rec Value (fun _ => List Value → Option (List (Int × Int))) (fun l' => grd (nilOf l') (some [])) (fun v _ ih l' => match l' with
    | [] => none
    | u :: r' => bnd (f v u) fun a => bnd (ih r') fun b => some (a ++ b)) l
/-- two values alike, but for the pairs of ints that are told -/
noncomputable def eqD (look : Addr → Option Obj) (n : Nat) : Value → Value → Option (List (Int × Int)) :=
  @Nat.rec (fun _ => Value → Value → Option (List (Int × Int))) (fun _ _ => none) (fun _ ih v u => match v with
    | .int i _ => bnd (intOf u) fun j => some [(i, j)]
    | .str x _ => bnd (strOf u) fun y => grd (Fast.sEq x y) (grd (cpsOk x.cps.toList) (some []))
    | .ref a => bnd (refOf u) fun b => bnd (look a) fun o => bnd (look b) fun o' => match isTy kTuple o with
      | true => bnd (seqOf kTuple o) fun xs => bnd (seqOf kTuple o') fun ys => zipE ih xs.toList ys.toList
      | false => bnd (seqOf kList o) fun xs => bnd (seqOf kList o') fun ys => zipE ih xs.toList ys.toList
    | _ => none) n

abbrev Rest := KT → Nat → Nat → Nat → Ch → List Hint → Out
abbrev EvTy := Ctx → Pos → List FrE → Sem PySem.Fin → Rest

/-- what stands for a code's steps: a value at once; an int with a new token; another code, begun; a whole call -/
inductive Use where
  | now (f : Out → Out) (v : Value)
  | tok (f : Out → Out) (x : Int)
  | go (c : Code) (q : Pos) (t : Sem PySem.Fin)
  | seg (i nt : Nat) (sl' : Array (Option Value)) (F : (Nat → Tok) → List (Nat × Obj)) (m' : Nat) (ch' : Ch) (o : Obj) (es : Array DictEntry) (ep : Nat) (l : List (Nat × Obj))

def pureOf (t : Sem PySem.Fin) : Option PySem.Fin := match t with | .pure f => some f | _ => none
theorem pureOf_eq {t : Sem PySem.Fin} {f : PySem.Fin} : pureOf t = some f → t = .pure f :=
  Sem.casesOn (motive := fun t => pureOf t = some f → t = .pure f) t (fun _ h => congrArg _ (Option.some.inj h)) (fun _ => nn) (fun _ => nn) (fun _ => nn) (fun _ _ => nn) (fun _ _ => nn) (fun _ _ _ => nn) (fun _ _ _ _ => nn) (fun _ _ => nn) (fun _ _ => nn) (fun _ _ => nn) (fun _ _ => nn) (fun _ => nn) (fun _ => nn) (fun _ _ _ => nn) (fun _ _ _ => nn) (fun _ _ _ _ _ => nn) (fun _ _ => nn) (fun _ _ => nn) (fun _ _ => nn) (fun _ _ _ _ => nn) (fun _ _ _ _ => nn) (fun _ => nn) (fun _ _ => nn) (fun _ => nn) (fun _ _ _ _ _ => nn)
def doneOf (f : PySem.Fin) : Option Flow := match f with | .done g => some g | .again _ => none
theorem doneOf_eq {f : PySem.Fin} {g : Flow} : doneOf f = some g → f = .done g :=
  PySem.Fin.casesOn (motive := fun f => doneOf f = some g → f = .done g) f (fun _ h => congrArg _ (Option.some.inj h)) (fun _ => nn)
def retOf (f : Flow) : Option Value := match f with | .ret v => some v | _ => none
theorem retOf_eq {f : Flow} {v : Value} : retOf f = some v → f = .ret v :=
  Flow.casesOn (motive := fun f => retOf f = some v → f = .ret v) f nn nn nn (fun _ h => congrArg _ (Option.some.inj h))
def bitOf (v : Value) : Option Bool := match v with | .bool b => some b | _ => none
theorem bitOf_eq {v : Value} {b : Bool} : bitOf v = some b → v = .bool b :=
  Value.casesOn (motive := fun v => bitOf v = some b → v = .bool b) v nn nn nn (fun _ h => congrArg _ (Option.some.inj h)) (fun _ _ => nn) (fun _ _ => nn) (fun _ _ => nn) (fun _ _ => nn) (fun _ => nn) (fun _ => nn) (fun _ => nn)
def boolOf (t : Sem PySem.Fin) : Option Bool := bnd (pureOf t) fun f => bnd (doneOf f) fun g => bnd (retOf g) bitOf
theorem boolOf_eq {t : Sem PySem.Fin} {b : Bool} (h : boolOf t = some b) : t = .pure (.done (.ret (.bool b))) := by
  obtain ⟨f, h1, h⟩ := bnd_eq h
  obtain ⟨g, h2, h⟩ := bnd_eq h
  obtain ⟨v, h3, h⟩ := bnd_eq h
  rw [pureOf_eq h1, doneOf_eq h2, retOf_eq h3, bitOf_eq h]
def atOf (t : Sem PySem.Fin) : Option (Pos × Sem PySem.Fin) := match t with
  | .at q k => some (q, k ())
  | _ => none
theorem atOf_eq {t : Sem PySem.Fin} {x : Pos × Sem PySem.Fin} : atOf t = some x → ∃ k, t = .at x.1 k ∧ x.2 = k () :=
  Sem.casesOn (motive := fun t => atOf t = some x → ∃ k, t = .at x.1 k ∧ x.2 = k ()) t (fun _ => nn) (fun _ => nn) (fun _ => nn) (fun _ => nn) (fun _ _ => nn) (fun _ k h => ⟨k, congrArg (Sem.at · k) (congrArg Prod.fst (Option.some.inj h)), (congrArg Prod.snd (Option.some.inj h)).symm⟩) (fun _ _ _ => nn) (fun _ _ _ _ => nn) (fun _ _ => nn) (fun _ _ => nn) (fun _ _ => nn) (fun _ _ => nn) (fun _ => nn) (fun _ => nn) (fun _ _ _ => nn) (fun _ _ _ => nn) (fun _ _ _ _ _ => nn) (fun _ _ => nn) (fun _ _ => nn) (fun _ _ => nn) (fun _ _ _ _ => nn) (fun _ _ _ _ => nn) (fun _ => nn) (fun _ _ => nn) (fun _ => nn) (fun _ _ _ _ _ => nn)
noncomputable def needBit (r : Bool) (c : Code) : Option Use := bnd (boolOf (den c)) fun b => some (.now (.bit b r) (.bool r))
def needNum (x : Int) (c : Code) : Option Use := bnd (two? c) fun t => bnd (intOf t.2.1) fun a => bnd (intOf t.2.2) fun b => some (.tok (.num (code t.1) a b x) x)
noncomputable def needHas (look : Addr → Option Obj) (c : Code) : Option Use := bnd (two? c) fun t => grd (Nat.beq (code t.1) kHas) (bnd (refOf t.2.1) fun a => bnd (strOf t.2.2) fun s => bnd (look a) fun o => bnd (seqOf kTuple o) fun xs =>
  bnd (hasIn s xs.toList) fun b => some (.now (fun o => o) (.bool b)))
/-- a dict's value is asked: by getitem or by get, whatever the default -/
noncomputable def askOk (id : String) (a : Addr) : Bool := match Nat.beq (code id) kGetItem with
  | true => true
  | false => match Nat.beq (code id) kGet with
    | true => not (Nat.beq a sysModules)
    | false => false
noncomputable def needDget (look : Addr → Option Obj) (i : Nat) (c : Code) : Option Use := bnd (two? c) fun t => bnd (refOf t.2.1) fun a => bnd (intOf t.2.2) fun k => bnd (look a) fun o => bnd (dictOf' o) fun es => bnd (keysOf k es.1.toList 0 i) fun x =>
  bnd x.1 fun v => grd (askOk t.1 a) (some (.now x.2 v))
noncomputable def needDmiss (look : Addr → Option Obj) (c : Code) : Option Use := bnd (two? c) fun t => bnd (refOf t.2.1) fun a => bnd (intOf t.2.2) fun _ => bnd (look a) fun o => bnd (dictOf' o) fun es =>
  grd (nilOf es.1.toList) (grd (Nat.beq (code t.1) kGet) (grd (not (Nat.beq a sysModules)) (some (.now (fun o => o) .none))))
noncomputable def needEqs (look : Addr → Option Obj) (c : Code) (kT : Nat) (kOp : Nat) (r : Bool) : Option Use := bnd (two? c) fun t => grd (Nat.beq (code t.1) kOp) (bnd (refOf t.2.1) fun a => bnd (refOf t.2.2) fun b => bnd (look a) fun o => bnd (look b) fun o' =>
  bnd (seqOf kT o) fun xs => bnd (seqOf kT o') fun ys => bnd (zipE (eqD look 6) xs.toList ys.toList) fun l => some (.now (.eqs l) (.bool r)))
noncomputable def needLen (look : Addr → Option Obj) (c : Code) : Option Use := bnd (one? c) fun t => grd (Nat.beq (code t.1) kLen) (bnd (refOf t.2) fun a => bnd (look a) fun o => bnd (seqOf kList o) fun xs =>
  some (.tok (.bit (Nat.blt xs.size 4096) true) xs.size))
noncomputable def needLoop (look : Addr → Option Obj) (c : Code) : Option Use := bnd (loopOf c) fun x => bnd (look x.1) fun o => bnd (iterOf o) fun _ => bnd (atOf (den x.2)) fun y => some (.go x.2 y.1 y.2)
noncomputable def needSeg (T : KT) (m : Nat) (i nt : Nat) (sl' : Array (Option Value)) (as : List Nat) (F : (Nat → Tok) → List (Nat × Obj)) (m' : Nat) (ch' : Ch) : Option Use :=
  bnd (T.get i) fun o => bnd (dictData o.data) fun d => grd (Nat.ble m m') (bnd (ownAt T as) fun l => some (.seg i nt sl' F m' ch' o d.1 d.2 l))
/-- which of two lists or tuples' comparisons this is -/
noncomputable def opOf (c : Code) : Nat := match two? c with | some t => code t.1 | none => 0
noncomputable def needE (V : Base) (h : Hint) (Γ : Ctx) (T : KT) (m : Nat) (ch : Ch) : Option Use := match h with
  | .bit _ r => needBit r Γ.code
  | .num _ x => needNum x Γ.code
  | .has _ => needHas (known V T ch) Γ.code
  | .dget _ i => needDget (known V T ch) i Γ.code
  | .dmiss _ => needDmiss (known V T ch) Γ.code
  | .eqv _ => grd (roomOk Γ.below) (match Nat.beq (opOf Γ.code) kTNe with
    | true => needEqs (known V T ch) Γ.code kTuple kTNe false
    | false => match Nat.beq (opOf Γ.code) kLEq with
      | true => needEqs (known V T ch) Γ.code kList kLEq true
      | false => needEqs (known V T ch) Γ.code kList kLNe false)
  | .len _ => needLen (known V T ch) Γ.code
  | .alias _ => needLoop (known V T ch) Γ.code
  | .seg _ i nt sl' as F m' ch' => needSeg T m i nt sl' as F m' ch'

/-- a code's value in the place of its steps -/
noncomputable def useE (V : Base) (τ : Nat → Tok) (ih : EvTy) (h : Hint) (Γ : Ctx) (p : Pos) (κ : List FrE) : Rest := fun T m j e ch hs => match needE V h Γ T m ch with
  | none => .bad 70 e
  | some u => match u with
    | .now f v => f (ih Γ p κ (.pure (.done (.ret v))) T m j (e + 1) ch hs)
    | .tok f x => f (ih Γ p κ (.pure (.done (.ret (.int x (τ j))))) T m (j + 1) (e + 1) ch hs)
    | .go c q t => ih (Γ.goto c) q κ t T m j (e + 2) ch hs
    | .seg i nt sl' F m' ch' o es ep l => .seg Γ p i o.cls o.dict o.slots sl' l nt F m m' ch ch'
      (ih Γ p κ (.pure (.done (.ret (.bool true)))) (kputs (kput 40 T i ⟨o.cls, o.dict, .dict es ep, sl'⟩) (F (cutTok nt fun i => τ (j + i)))) m' (j + nt) (e + 1) ch' hs)

noncomputable def enterE (V : Base) (τ : Nat → Tok) (ih : EvTy) (Γ : Ctx) (p : Pos) (κ : List FrE) : Rest := fun T m j e ch hs => match hs with
  | [] => ih Γ p κ (den Γ.code) T m j (e + 1) ch []
  | h :: rest => match Nat.beq h.at e with
    | false => ih Γ p κ (den Γ.code) T m j (e + 1) ch (h :: rest)
    | true => useE V τ ih h Γ p κ T m j e ch rest

noncomputable def retE (keep : List Nat) (ih : EvTy) (r : Result) (κ : List FrE) : Rest := match κ with
  | [] => fun T m _ _ ch _ => .fin r (ownAt T keep) m ch
  | fr :: κ => ih fr.Γ fr.p κ (fr.k r)

/-- go on with what is known, or stop -/
def got {α : Type} (n a : Nat) (x : Option α) (go : α → Out) : Out := match x with | some y => go y | none => .bad n a
def stands (o : Obj) : Bool := match o.isFreed with | true => false | false => true
theorem stands_eq {o : Obj} (h : stands o = true) : o.isFreed = false := by
  unfold stands at h
  cases q : o.isFreed with
  | false => rfl
  | true => rw [q] at h; cases h
/-- one of the call's own objects, as a store makes it -/
noncomputable def stored (V : Base) (T : KT) (f : Obj → Obj) (a : Addr) : Option Obj := bnd (T.get (a - V.n₁)) fun o => grd (stands (f o)) (some (f o))

noncomputable def stepE (V : Base) (keep : List Nat) (τ : Nat → Tok) (ih : EvTy) : EvTy := fun Γ p κ t => match t with
  | .pure (.done f) => retE keep ih (.ok f) κ
  | .pure (.again c) => fun T m j e ch hs => @Bool.rec (fun _ => Out) (.bad 5 e) (enterE V τ ih (Γ.goto c) p κ T m j e ch hs) (qk c)
  | .raise x => retE keep ih (.error x) κ
  | .ask k => ih Γ p κ (k { program := V.prog, params := V.w.params })
  | .load a _ k => fun T m j e ch hs => got 1 a (known V T ch a) fun o => ih Γ p κ (k o) T m j e ch hs
  | .loadIfAlive a k => fun T m j e ch hs => got 2 a (known V T ch a) fun o => ih Γ p κ (k (some o)) T m j e ch hs
  | .rule _ k => ih Γ p κ (k ())
  | .at q k => ih Γ q κ (k ())
  | .point _ k => ih Γ p κ (k ())
  | .alloc o k => fun T m j e ch hs => @Bool.rec (fun _ => Out) (.bad 3 m) (ih Γ p κ (k (V.n₁ + m)) (kput 40 T m o) (m + 1) j e ch hs) (stands o)
  | .update a _ f k => fun T m j e ch hs => @Bool.rec (fun _ => Out)
      (got 4 a (stored V T f a) fun o => ih Γ p κ (k ()) (kput 40 T (a - V.n₁) o) m j e ch hs)
      (got 6 a (grows V ch f a) fun vs => ih Γ p κ (k ()) T m j e (chPut ch a vs) hs) (Nat.blt a V.n₁)
  | .fresh k => fun T m j e ch hs => ih Γ p κ (k (τ j)) T m (j + 1) e ch hs
  | .handled own k => match own with
    | false => ih Γ p κ (k Γ.handled)
    | true => ih Γ p κ (k Γ.own)
  | .stack k => ih Γ p κ (k ((Γ.code, p) :: Γ.below))
  | .call c hd _ _ k => enterE V τ ih (Γ.enter c hd p) p (⟨Γ, p, k⟩ :: κ)
  | .unsupported _ => fun _ _ _ e _ _ => .bad 30 e
  | .finish _ => fun _ _ _ e _ _ => .bad 31 e
  | .register .. => fun _ _ _ e _ _ => .bad 32 e
  | .choose .. => fun _ _ _ e _ _ => .bad 33 e
  | .os .. => fun _ _ _ e _ _ => .bad 34 e
  | .fork .. => fun _ _ _ e _ _ => .bad 35 e
  | .thread _ => fun _ _ _ e _ _ => .bad 36 e
  | .await .. => fun _ _ _ e _ _ => .bad 37 e
  | .newGen .. => fun _ _ _ e _ _ => .bad 38 e
  | .genState .. => fun _ _ _ e _ _ => .bad 39 e
  | .resume .. => fun _ _ _ e _ _ => .bad 40 e
  | .yield .. => fun _ _ _ e _ _ => .bad 41 e

noncomputable def ev (V : Base) (keep : List Nat) (τ : Nat → Tok) (n : Nat) : EvTy :=
  @Nat.rec (fun _ => EvTy) (fun _ _ _ _ _ _ _ e _ _ => .bad 50 e) (fun _ ih => stepE V keep τ ih) n
end Mine
namespace Mine
open PySem PySem.W PySem.W.X PyProof.Rows

/-! ## What the built-ins hand back where a hint stands -/
def arOf (Γ : Ctx) : Around := { handled := Γ.handled, depth := frameCount Γ.below, frames := none, guards := none, units := unitsOf Γ.below }
theorem below_arOf (Γ : Ctx) : Γ.Below (arOf Γ) := ⟨rfl, Nat.le_refl _, (fun _ h => by cases h), (fun _ h => by cases h), Nat.le_refl _⟩
theorem code_of_any {M : Model} {Γ : Ctx} {c : Code} {R : Result → Shared → Prop} {p : Pos} {s : Shared} (hc : Γ.code = c) (h : codeAny M (arOf Γ) c R s) : wpCode M Γ R p s := h Γ p hc (below_arOf Γ)

theorem sEq_beq (x y : Str) : (x == y) = Fast.sEq x y := by
  cases h : Fast.sEq x y with
  | true => have := Fast.sEq_iff.mp h; subst this; simp
  | false =>
    have : x ≠ y := fun e => by rw [Fast.sEq_iff.mpr e] at h; cases h
    simp [this]
theorem hasIn_eq {s : Str} {l : List Value} : ∀ {b : Bool}, hasIn s l = some b → ∃ ys, StrsAre l ys ∧ ys.any (· == s) = b := by
  induction l with
  | nil => exact fun h => ⟨[], .nil, Option.some.inj h⟩
  | cons v l ih =>
    intro b h
    obtain ⟨x, h1, h⟩ := bnd_eq (show bnd (strOf v) _ = some b from h)
    obtain ⟨b', h2, h⟩ := bnd_eq h
    obtain ⟨t, h1⟩ := strOf_eq h1
    obtain ⟨ys, h3, h4⟩ := ih h2
    refine ⟨x :: ys, h1 ▸ .cons x t h3, ?_⟩
    rw [List.any_cons, sEq_beq, h4, ← Option.some.inj h]
    cases Fast.sEq x s <;> rfl

section
variable {prog : Program} {w : World} {Γ : Ctx} {p : Pos} {s : Shared} {R : Result → Shared → Prop}
theorem has_wp {id : String} {a : Addr} {x : Str} {u : Tok} {o : Obj} {xs : Array Value} {b : Bool} (hc : Γ.code = .builtin id ⟨[.ref a, .str x u], []⟩) (hid : code id = kHas) (ho : s.heap.get? a = some o)
    (hx : seqOf kTuple o = some xs) (hb : hasIn x xs.toList = some b) (h : R (.ok (.ret (.bool b))) s) : wpCode (model prog w) Γ R p s := by
  have := code_inj _ _ (hid.trans (show kHas = code "tuple.__contains__" by decide +kernel))
  subst this
  obtain ⟨dd, n', sl, rfl⟩ := seqOf_eq (n := "tuple") (by decide +kernel) hx
  obtain ⟨ys, h1, h2⟩ := hasIn_eq hb
  refine code_of_any hc (codeAny_builtin PyProof.Rows.entry_tuple_contains ?_)
  exact tuple_contains_strs ⟨_, ho, rfl, n', rfl⟩ h1 (by rw [h2]; exact h)
end

theorem dict_map {prog : Program} {w : World} {s : Shared} {a : Addr} {es : Array DictEntry} {ep : Nat} (ho : s.heap.get? a = some ⟨.type "dict", none, .dict es ep, #[]⟩)
    (hk : ∀ e ∈ es.toList, ∃ k' t, e.key = .int k' t ∧ e.hash = hashInt k') : s.heap.MapOf (intKind prog w) a (findBy Value.isInt es) :=
  Heap.IntMap.mapOf ⟨_, es, ep, ho, rfl, rfl, fun e he => hk e (by simpa using he), fun _ => rfl⟩ fun o h => by rw [ho] at h; cases h; exact ⟨rfl, rfl⟩
theorem findBy_list {es : Array DictEntry} {k : Int} : findBy Value.isInt es k = (es.toList.find? fun e => Value.isInt k e.key).map (·.val) := by
  obtain ⟨l⟩ := es
  simp only [findBy, List.find?_toArray]

section
variable {prog : Program} {w : World} {Γ : Ctx} {p : Pos} {s : Shared} {R : Result → Shared → Prop}
theorem getitem_wp {id : String} {a : Addr} {k : Int} {u : Tok} {es : Array DictEntry} {ep : Nat} {v : Value} (hc : Γ.code = .builtin id ⟨[.ref a, .int k u], []⟩) (hid : code id = kGetItem)
    (ho : s.heap.get? a = some ⟨.type "dict", none, .dict es ep, #[]⟩) (hk : ∀ e ∈ es.toList, ∃ k' t, e.key = .int k' t ∧ e.hash = hashInt k')
    (hv : (es.toList.find? fun e => Value.isInt k e.key).map (·.val) = some v) (h : R (.ok (.ret v)) { s with toks := s.toks + 1 }) : wpCode (model prog w) Γ R p s := by
  have := code_inj _ _ (hid.trans (show kGetItem = code "dict.__getitem__" by decide +kernel))
  subst this
  refine code_of_any hc (codeAny_builtin F.entry_dict_getitem ?_)
  rw [Around.under_plainId (by decide +kernel)]
  exact meets_dict_getitem (intKind prog w) a (k := k) (by simp [intKind, Value.isInt]) _ R s ⟨_, v, dict_map ho hk, by rw [findBy_list]; exact hv, h⟩
theorem get_wp {id : String} {a : Addr} {k : Int} {u : Tok} {es : Array DictEntry} {ep : Nat} (hc : Γ.code = .builtin id ⟨[.ref a, .int k u], []⟩) (hid : code id = kGet) (hs : Nat.beq a sysModules = false)
    (ho : s.heap.get? a = some ⟨.type "dict", none, .dict es ep, #[]⟩) (hk : ∀ e ∈ es.toList, ∃ k' t, e.key = .int k' t ∧ e.hash = hashInt k')
    (h : R (.ok (.ret (((es.toList.find? fun e => Value.isInt k e.key).map (·.val)).getD .none))) { s with toks := s.toks + 1 }) : wpCode (model prog w) Γ R p s := by
  have := code_inj _ _ (hid.trans (show kGet = code "dict.get" by decide +kernel))
  subst this
  refine code_of_any hc (codeAny_builtin F.entry_dict_get ?_)
  rw [Around.under_plainId (by decide +kernel)]
  exact meets_dict_get (intKind prog w) a (k := k) (by simp [intKind, Value.isInt]) (by rw [BT.beq_eq] at hs; simpa using hs) _ R s ⟨_, dict_map ho hk, by rw [findBy_list]; exact h⟩
end

theorem cpsOk_all {l : List Nat} : cpsOk l = true → ∀ c ∈ l, c < 1114112 := by
  induction l with
  | nil => exact fun _ _ hx => nomatch hx
  | cons c l ih =>
    intro h x hx
    have e : (match (generalizing := false) Nat.blt c 1114112 with | true => cpsOk l | false => false) = true := h
    cases q : Nat.blt c 1114112 with
    | false => rw [q] at e; exact nomatch e
    | true =>
      rw [q] at e
      rcases List.mem_cons.mp hx with rfl | hx
      · exact Nat.le_of_ble_eq_true q
      · exact ih e x hx

theorem all_true {α : Type} (l : List α) : (l.all fun _ => true) = true := List.all_eq_true.mpr fun _ _ => rfl
/-- both values are the heap's reading of one datum -/
def Alike (h : Heap) (n : Nat) (v u : Value) : Prop := ∃ d as bs, Reads h v d as ∧ Reads h u d bs ∧ d.canLay0 = true ∧ d.depth ≤ n
def AlikeAll (h : Heap) (n : Nat) (l l' : List Value) : Prop := ∃ ds as bs, ReadsAll h l ds as ∧ ReadsAll h l' ds bs ∧ PyData.canLayAll0 ds = true ∧ PyData.depthAll ds ≤ n
theorem and_true {d : PyData} {ds : List PyData} (a : d.canLay0 = true) (b : PyData.canLayAll0 ds = true) : PyData.canLayAll0 (d :: ds) = true := by
  simp [PyData.canLayAll0, a, b]
theorem depth_le {n : Nat} {d : PyData} {ds : List PyData} (a : d.depth ≤ n) (b : PyData.depthAll ds ≤ n) : PyData.depthAll (d :: ds) ≤ n := by
  rw [PyData.depthAll]
  exact Nat.max_le.mpr ⟨a, b⟩
theorem zipE_all {h : Heap} {n : Nat} {f : Value → Value → Option (List (Int × Int))} (hf : ∀ v u a, f v u = some a → (∀ q ∈ a, q.1 = q.2) → Alike h n v u) {l : List Value} :
    ∀ {l' : List Value} {r : List (Int × Int)}, zipE f l l' = some r → (∀ q ∈ r, q.1 = q.2) → AlikeAll h n l l' := by
  induction l with
  | nil =>
    intro l' r e _
    rw [nilOf_eq (grd_eq (show grd (nilOf l') _ = _ from e)).1]
    exact ⟨[], [], [], .nil, .nil, rfl, Nat.zero_le _⟩
  | cons v l ih =>
    intro l' r e hr
    cases l' with
    | nil => exact nn e
    | cons u l' =>
      obtain ⟨a, h1, e⟩ := bnd_eq (show bnd (f v u) _ = _ from e)
      obtain ⟨b, h2, e⟩ := bnd_eq e
      rw [← Option.some.inj e] at hr
      obtain ⟨d, as, bs, h1, h2', h3, h4⟩ := hf v u a h1 fun x hx => hr x (List.mem_append_left _ hx)
      obtain ⟨ds, as', bs', g1, g2, g3, g4⟩ := ih h2 fun x hx => hr x (List.mem_append_right _ hx)
      exact ⟨d :: ds, as ++ as', bs ++ bs', .cons h1 g1, .cons h2' g2, and_true h3 g3, depth_le h4 g4⟩
theorem kT : code "tuple" = kTuple := by decide +kernel
theorem kL : code "list" = kList := by decide +kernel
theorem str_lay {x : Str} (q : cpsOk x.cps.toList = true) : (PyData.str x).canLay0 = true := by
  rw [PyData.canLay0]
  unfold PyData.strOk
  rw [← Array.all_toList, List.all_eq_true]
  exact fun c hc => decide_eq_true (cpsOk_all q c hc)
theorem deep_tuple {n : Nat} {ds : List PyData} (h : PyData.depthAll ds ≤ n) : (PyData.tuple ds).depth ≤ n + 1 := by
  rw [PyData.depth]
  exact Nat.succ_le_succ h
theorem deep_list {n : Nat} {ds : List PyData} (h : PyData.depthAll ds ≤ n) : (PyData.list ds).depth ≤ n + 1 := by
  rw [PyData.depth]
  exact Nat.succ_le_succ h
theorem eqD_alike {h : Heap} {look : Addr → Option Obj} (hl : ∀ a o, look a = some o → h.get? a = some o) (n : Nat) : ∀ v u r, eqD look n v u = some r → (∀ q ∈ r, q.1 = q.2) → Alike h n v u := by
  induction n with
  | zero => exact fun _ _ _ => nn
  | succ n ih =>
    intro v u r e hr
    cases v with
    | int i t =>
      obtain ⟨j, h1, e⟩ := bnd_eq (show bnd (intOf u) _ = _ from e)
      obtain ⟨t', h1⟩ := intOf_eq h1
      rw [← Option.some.inj e] at hr
      have : i = j := hr (i, j) (List.mem_cons_self ..)
      rw [h1, ← this]
      exact ⟨.int i, [], [], .int i t, .int i t', rfl, Nat.zero_le _⟩
    | str x t =>
      obtain ⟨y, h1, e⟩ := bnd_eq (show bnd (strOf u) _ = _ from e)
      obtain ⟨t', h1⟩ := strOf_eq h1
      obtain ⟨h2, e⟩ := grd_eq e
      rw [h1, ← Fast.sEq_iff.mp h2]
      exact ⟨.str x, [], [], .str x t, .str x t', str_lay (grd_eq e).1, Nat.zero_le _⟩
    | ref a =>
      obtain ⟨b, h1, e⟩ := bnd_eq (show bnd (refOf u) _ = _ from e)
      obtain ⟨o, h2, e⟩ := bnd_eq e
      obtain ⟨o', h3, e⟩ := bnd_eq e
      rw [refOf_eq h1]
      have g1 := hl a o h2
      have g2 := hl b o' h3
      cases q : isTy kTuple o with
      | true =>
        rw [q] at e
        obtain ⟨xs, h4, e⟩ := bnd_eq e
        obtain ⟨ys, h5, e⟩ := bnd_eq e
        obtain ⟨ds, as, bs, r1, r2, r3, r4⟩ := zipE_all ih e hr
        obtain ⟨dd, n', sl, h4⟩ := seqOf_eq kT h4
        obtain ⟨dd2, n2, sl2, h5⟩ := seqOf_eq kT h5
        exact ⟨.tuple ds, as, bs, .tuple (h4 ▸ g1) rfl rfl r1, .tuple (h5 ▸ g2) rfl rfl r2, r3, deep_tuple r4⟩
      | false =>
        rw [q] at e
        obtain ⟨xs, h4, e⟩ := bnd_eq e
        obtain ⟨ys, h5, e⟩ := bnd_eq e
        obtain ⟨ds, as, bs, r1, r2, r3, r4⟩ := zipE_all ih e hr
        obtain ⟨dd, n', sl, h4⟩ := seqOf_eq kL h4
        obtain ⟨dd2, n2, sl2, h5⟩ := seqOf_eq kL h5
        exact ⟨.list ds, a :: as, b :: bs, .list (h4 ▸ g1) rfl rfl r1, .list (h5 ▸ g2) rfl rfl r2, r3, deep_list r4⟩
    | _ => exact nn e

theorem lay_both {d : PyData} {ds : List PyData} (h : PyData.canLayAll0 (d :: ds) = true) : d.canLay0 = true ∧ PyData.canLayAll0 ds = true := by
  simpa [PyData.canLayAll0] using h
theorem depth_both {n : Nat} {d : PyData} {ds : List PyData} (h : PyData.depthAll (d :: ds) ≤ n) : d.depth ≤ n ∧ PyData.depthAll ds ≤ n := by
  rw [PyData.depthAll] at h
  exact Nat.max_le.mp h
theorem alikeAll_at {h : Heap} {n : Nat} {l : List Value} : ∀ {l' : List Value}, AlikeAll h n l l' → l.length = l'.length ∧ ∀ j (h1 : j < l.length) (h2 : j < l'.length), Alike h n l[j] l'[j] := by
  induction l with
  | nil =>
    rintro l' ⟨ds, as, bs, r1, r2, _⟩
    cases r1; cases r2
    exact ⟨rfl, fun j h1 _ => absurd h1 (Nat.not_lt_zero j)⟩
  | cons v l ih =>
    rintro l' ⟨ds, as, bs, r1, r2, r3, r4⟩
    cases r1 with
    | cons a1 a2 =>
      cases r2 with
      | cons b1 b2 =>
        have k := ih ⟨_, _, _, a2, b2, (lay_both r3).2, (depth_both r4).2⟩
        refine ⟨congrArg (· + 1) k.1, fun j h1 h2 => ?_⟩
        cases j with
        | zero => exact ⟨_, _, _, a1, b1, (lay_both r3).1, (depth_both r4).1⟩
        | succ j => exact k.2 j (Nat.lt_of_succ_lt_succ h1) (Nat.lt_of_succ_lt_succ h2)
theorem eqAt_alike {A : Around} {s : Shared} {n : Nat} {v u : Value} (x : Alike s.heap n v u) (hu : A.units + n < cLine) : SeqAt.EqAt A s v u true := fun prog w E Q hq => by
  obtain ⟨d, as, bs, r1, r2, r3, r4⟩ := x
  refine SeqAt.eqBoolOverData prog w A E s v u d d as bs Q r1 r2 r3 r3 (Nat.lt_of_le_of_lt (Nat.add_le_add_left (Nat.le_trans (Nat.min_le_left ..) r4) _) hu) ?_
  rw [SeqAt.eqv_refl d r3]
  exact hq

section
variable {prog : Program} {w : World} {Γ : Ctx} {p : Pos} {s : Shared} {R : Result → Shared → Prop}
theorem eqv_lists {id : String} {a b : Addr} {o o' : Obj} {xs ys : Array Value} (hroom : roomOk Γ.below = true) (hc : Γ.code = .builtin id ⟨[.ref a, .ref b], []⟩)
    (ho : s.heap.get? a = some o) (ho' : s.heap.get? b = some o') (hx : seqOf kList o = some xs) (hy : seqOf kList o' = some ys) (he : AlikeAll s.heap 6 xs.toList ys.toList) :
    (code id = kLEq → R (.ok (.ret (.bool true))) s → wpCode (model prog w) Γ R p s) ∧ (code id = kLNe → R (.ok (.ret (.bool false))) s → wpCode (model prog w) Γ R p s) := by
  obtain ⟨dd, n', sl, rfl⟩ := seqOf_eq kL hx
  obtain ⟨dd2, n2, sl2, rfl⟩ := seqOf_eq kL hy
  have hr : unitsOf Γ.below + 100 ≤ 9000 := Nat.le_of_ble_eq_true hroom
  obtain ⟨hl, hj⟩ := alikeAll_at he
  have hE : ∀ j (h1 : j < xs.size) (h2 : j < ys.size), SeqAt.EqAt (arOf Γ).in1 s xs[j] ys[j] true := fun j h1 h2 => by
    have z := hj j (by simpa using h1) (by simpa using h2)
    have := eqAt_alike (A := (arOf Γ).in1) (s := s) z (by show (unitsOf Γ.below + 1) + 6 < 9900; omega)
    simpa using this
  refine ⟨fun hid h => ?_, fun hid h => ?_⟩
  · have := code_inj _ _ (hid.trans (show kLEq = code "list.__eq__" by decide +kernel))
    subst this
    refine code_of_any hc (codeAny_builtin F.entry_list_eq ?_)
    rw [Around.under_plainId (by decide +kernel)]
    exact SeqAt.list_eqAt a b xs ys n' n2 dd dd2 sl sl2 (by simpa using hl) (fun _ => true) prog w _ R s ⟨ho, ho', hE, by rw [all_true]; exact h⟩
  · have := code_inj _ _ (hid.trans (show kLNe = code "list.__ne__" by decide +kernel))
    subst this
    refine code_of_any hc (codeAny_builtin F.entry_list_ne ?_)
    rw [Around.under_plainId (by decide +kernel)]
    exact SeqAt.list_neAt a b xs ys n' n2 dd dd2 sl sl2 (by simpa using hl) (fun _ => true) prog w _ R s ⟨ho, ho', hE, by rw [all_true]; exact h⟩
theorem eqv_tuples {id : String} {a b : Addr} {o o' : Obj} {xs ys : Array Value} (hroom : roomOk Γ.below = true) (hc : Γ.code = .builtin id ⟨[.ref a, .ref b], []⟩)
    (ho : s.heap.get? a = some o) (ho' : s.heap.get? b = some o') (hx : seqOf kTuple o = some xs) (hy : seqOf kTuple o' = some ys) (he : AlikeAll s.heap 6 xs.toList ys.toList)
    (hid : code id = kTNe) (h : R (.ok (.ret (.bool false))) s) : wpCode (model prog w) Γ R p s := by
  obtain ⟨dd, n', sl, rfl⟩ := seqOf_eq kT hx
  obtain ⟨dd2, n2, sl2, rfl⟩ := seqOf_eq kT hy
  have hr : unitsOf Γ.below + 100 ≤ 9000 := Nat.le_of_ble_eq_true hroom
  obtain ⟨hl, hj⟩ := alikeAll_at he
  have hl' : xs.size = ys.size := by simpa using hl
  have hE : ∀ j (h1 : j < xs.size) (h2 : j < ys.size), SeqAt.EqAt (arOf Γ).in1 s xs[j] ys[j] true := fun j h1 h2 => by
    have z := hj j (by simpa using h1) (by simpa using h2)
    have := eqAt_alike (A := (arOf Γ).in1) (s := s) z (by show (unitsOf Γ.below + 1) + 6 < 9900; omega)
    simpa using this
  have := code_inj _ _ (hid.trans (show kTNe = code "tuple.__ne__" by decide +kernel))
  subst this
  refine code_of_any hc (codeAny_builtin F.entry_tuple_ne ?_)
  rw [Around.under_plainId (by decide +kernel)]
  exact SeqAt.tuple_neAt a b xs ys n' n2 dd dd2 sl sl2 (fun _ => true) prog w _ R s ⟨ho, ho', hE, by rw [all_true, hl']; simpa using h⟩
end
end Mine
namespace Mine
open PySem PySem.W PySem.W.X PyProof.Rows

theorem alias_wp {prog : Program} {w : World} {Γ : Ctx} {p : Pos} {s : Shared} {R : Result → Shared → Prop} {x : Addr × Code} {o : Obj} {y : Addr × Nat} (hc : loopOf Γ.code = some x) (ho : s.heap.get? x.1 = some o) (hi : iterOf o = some y)
    (h : ∀ p', wpCode (model prog w) (Γ.goto x.2) R p' s) : wpCode (model prog w) Γ R p s := by
  obtain ⟨elt, ⟨target, iter, ifs, _⟩, rest, scope, pos, acc, env, rfl, h1, h2⟩ := loopOf_eq hc
  rw [wpCode_iff_wp, h1]
  show Sem.wp _ _ (Sem.onRaise (compStart _ _ _ _ _) _) _ _ p s
  rw [Sem.wp_onRaise]
  unfold compStart
  rw [h2] at h
  show Sem.wp _ _ (ask >>= _) _ _ p s
  rw [Sem.wp_bind']
  show Sem.wp _ _ (if w.params.followText "comprehension-iter-twice" = true then _ else _) _ _ p s
  split
  · exact ⟨rfl, h p⟩
  · show Sem.wp _ _ (rule _ >>= _) _ _ p s
    rw [Sem.wp_bind']
    show Sem.wp _ _ (standAt iter.pos >>= _) _ _ p s
    rw [Sem.wp_bind']
    show Sem.wp _ _ (pyIter (.ref x.1) >>= _) _ _ iter.pos s
    rw [Sem.wp_bind']
    have z := wpAny_pyIter_listiter (prog := prog) (w := w) (A := (arOf Γ).under Γ.code) (E := fun _ _ => False) (Q := fun v s' => v = .ref x.1 ∧ s' = s) (s := s) ⟨o, ho, (iterOf_eq hi).1, (iterOf_eq hi).2⟩ ⟨rfl, rfl⟩ Γ iter.pos (below_arOf Γ).in
    refine Sem.wp_mono _ _ _ ?_ (fun _ _ _ q => q.elim) _ _ z
    rintro v p' s' ⟨rfl, rfl⟩
    exact ⟨rfl, h p'⟩

theorem len_wp {prog : Program} {w : World} {Γ : Ctx} {p : Pos} {s : Shared} {R : Result → Shared → Prop} {id : String} {a : Addr} {o : Obj} {xs : Array Value} (hc : Γ.code = .builtin id ⟨[.ref a], []⟩) (hid : code id = kLen) (ho : s.heap.get? a = some o)
    (hs : seqOf kList o = some xs) (hn : Nat.blt xs.size 4096 = true) (h : R (.ok (.ret (.int xs.size (s.toks + 1)))) { s with toks := s.toks + 1 + 1 }) : wpCode (model prog w) Γ R p s := by
  have := code_inj _ _ (hid.trans (show kLen = code "len" by decide +kernel))
  subst this
  refine code_of_any hc (codeAny_builtin entry_len ?_)
  rw [Around.under_plainId plain_len]
  obtain ⟨dd, n, sl, rfl⟩ := seqOf_eq kL hs
  have hn' : xs.size < 4096 := by simpa [Nat.blt_eq] using hn
  exact wpAny_mono (wpAny_len_body_list (Q := fun r s' => R (.ok (.ret r)) s') ⟨_, ho, rfl, n, rfl⟩ (by omega) h)
    (fun fin s' h' => by obtain ⟨r, rfl, hq⟩ := h'; exact hq) fun _ _ e => e
end Mine
namespace Mine
open PySem PySem.W PySem.W.X

structure Still (V : Base) (s : Shared) : Prop where
  gens : s.gens = V.gens
  drawn : s.drawn = V.d
  os : s.os = V.os

/-- of two ints, this int -/
def NumQ (M : Model) (k : Nat) (a b x : Int) : Prop :=
  ∀ (id : String) (t u : Tok) (Γ : Ctx) (p : Pos) (s : Shared) (R : Result → Shared → Prop), code id = k → Γ.code = .builtin id ⟨[.int a t, .int b u], []⟩ → (∀ v n, R (.ok (.ret (.int x v))) { s with toks := n }) → wpCode M Γ R p s

/-- a whole call that hands back True; the caller's frame is at place i -/
def Seg (V : Base) (Γ : Ctx) (p : Pos) (i : Nat) (C : Value) (dd : Option Addr) (sl sl' : Array (Option Value)) (l : List (Nat × Obj)) (nt : Nat) (F : (Nat → Tok) → List (Nat × Obj)) (m m' : Nat) (ch ch' : Ch) : Prop :=
  ∀ (X : Nat → Option Obj) (T : KT) (s : Shared) (es : Array DictEntry) (ep : Nat), Still V s → RepE V X s.heap T m ch → T.get i = some ⟨C, dd, .dict es ep, sl⟩ → (∀ x ∈ l, T.get x.1 = some x.2) →
    wpCode V.M Γ (fun r s' => r = .ok (.ret (.bool true)) ∧ Still V s' ∧ ∃ σ, RepE V X s'.heap (kputs (kput 40 T i ⟨C, dd, .dict es ep, sl'⟩) (F (cutTok nt σ))) m' ch') p s

def Out.Ok (V : Base) (R : Result → Option (List (Nat × Obj)) → Nat → Ch → Prop) : Out → Prop
  | .bad _ _ => False
  | .bit b r o => b = r ∧ o.Ok V R
  | .num k a b x o => NumQ V.M k a b x ∧ o.Ok V R
  | .key h k' k hit o => (h = hashInt k' ∧ (hit = true ↔ k' = k)) ∧ o.Ok V R
  | .eqs l o => (∀ q ∈ l, q.1 = q.2) ∧ o.Ok V R
  | .seg Γ p i C dd sl sl' l nt F m m' ch ch' o => Seg V Γ p i C dd sl sl' l nt F m m' ch ch' ∧ o.Ok V R
  | .fin r F m ch => R r F m ch

theorem keys_cons {d : DictEntry} {l : List DictEntry} {k' : Int} {t : Tok} (h1 : d.key = .int k' t) (a1 : d.hash = hashInt k') (h : ∀ e ∈ l, ∃ k' t, e.key = .int k' t ∧ e.hash = hashInt k') : ∀ e ∈ d :: l, ∃ k' t, e.key = .int k' t ∧ e.hash = hashInt k' := fun e he => by
  rcases List.mem_cons.mp he with rfl | he
  · exact ⟨k', t, h1, a1⟩
  · exact h e he
theorem find_hit {d : DictEntry} {l : List DictEntry} {k : Int} {t : Tok} (h1 : d.key = .int k t) : (((d :: l).find? fun e => Value.isInt k e.key).map (·.val)) = some d.val := by
  rw [List.find?_cons_of_pos (by rw [h1]; exact decide_eq_true rfl)]
  rfl
theorem find_miss {d : DictEntry} {l : List DictEntry} {k k' : Int} {t : Tok} (h1 : d.key = .int k' t) (ne : ¬ k' = k) : (((d :: l).find? fun e => Value.isInt k e.key).map (·.val)) = ((l.find? fun e => Value.isInt k e.key).map (·.val)) := by
  rw [List.find?_cons_of_neg (by rw [h1]; exact fun q => ne (of_decide_eq_true q))]
theorem keysOf_ok {V : Base} {R : Result → Option (List (Nat × Obj)) → Nat → Ch → Prop} {k : Int} {i : Nat} {o : Out} {l : List DictEntry} : ∀ {j : Nat} {x : Option Value × (Out → Out)}, keysOf k l j i = some x → (x.2 o).Ok V R →
    o.Ok V R ∧ (∀ e ∈ l, ∃ k' t, e.key = .int k' t ∧ e.hash = hashInt k') ∧ (∀ v, x.1 = some v → (l.find? fun e => Value.isInt k e.key).map (·.val) = some v) := by
  induction l with
  | nil =>
    intro j x h H
    rw [← Option.some.inj (show some _ = some x from h)] at H ⊢
    exact ⟨H, fun _ h => (nomatch h), fun _ => nn⟩
  | cons d l ih =>
    intro j x h H
    obtain ⟨k', h1, h⟩ := bnd_eq (show bnd (intOf d.key) _ = some x from h)
    obtain ⟨y, h2, h⟩ := bnd_eq h
    obtain ⟨t, h1⟩ := intOf_eq h1
    cases q : Nat.beq j i with
    | true =>
      rw [q] at h
      rw [← Option.some.inj h] at H ⊢
      obtain ⟨⟨a1, a2⟩, a3⟩ := H
      refine ⟨(ih h2 a3).1, keys_cons h1 a1 (ih h2 a3).2.1, fun v hv => ?_⟩
      rw [find_hit (by rw [h1, a2.mp rfl])]
      exact hv
    | false =>
      rw [q] at h
      rw [← Option.some.inj h] at H ⊢
      obtain ⟨⟨a1, a2⟩, a3⟩ := H
      refine ⟨(ih h2 a3).1, keys_cons h1 a1 (ih h2 a3).2.1, fun v hv => ?_⟩
      rw [find_miss h1 fun z => nomatch a2.mpr z]
      exact (ih h2 a3).2.2 v hv

def KP (V : Base) (Rb : Result → Shared → Prop) : List FrE → Result → Shared → Prop
  | [] => Rb
  | fr :: κ => fun r s => Sem.wp V.M fr.Γ (fr.k r) (Sem.finPost V.M fr.Γ (KP V Rb κ)) (fun e _ s' => KP V Rb κ (.error e) s') fr.p s
def Means (V : Base) (Rb : Result → Shared → Prop) (Γ : Ctx) (p : Pos) (κ : List FrE) (t : Sem PySem.Fin) (s : Shared) : Prop :=
  Sem.wp V.M Γ t (Sem.finPost V.M Γ (KP V Rb κ)) (fun e _ s' => KP V Rb κ (.error e) s') p s

theorem code_of_means {V : Base} {Rb : Result → Shared → Prop} {Γ : Ctx} {p : Pos} {κ : List FrE} {s : Shared} (h : Means V Rb Γ p κ (den Γ.code) s) : wpCode V.M Γ (KP V Rb κ) p s := by
  rw [wpCode_iff_wp]
  show Sem.wp V.M Γ (denote table Γ.code) _ _ p s
  rw [den_eq]
  exact h

theorem own_hold {T : KT} {F : List Nat} : ∀ {l : List (Nat × Obj)}, ownAt T F = some l → ∀ x ∈ l, T.get x.1 = some x.2 := by
  induction F with
  | nil =>
    intro l e x hx
    rw [← Option.some.inj (show some [] = some l from e)] at hx
    exact nomatch hx
  | cons a as ih =>
    intro l e x hx
    obtain ⟨o, h1, e⟩ := bnd_eq (show bnd (T.get a) _ = some l from e)
    obtain ⟨l', h2, e⟩ := bnd_eq e
    rw [← Option.some.inj e] at hx
    rcases List.mem_cons.mp hx with rfl | hx
    · exact h1
    · exact ih h2 x hx
def setTok (τ : Nat → Tok) (j : Nat) (v : Tok) : Nat → Tok := fun i => if i = j then v else τ i
theorem agree_set {τ₀ τ : Nat → Tok} {j : Nat} {v : Tok} (h : ∀ i < j + 1, τ i = setTok τ₀ j v i) : (∀ i < j, τ i = τ₀ i) ∧ τ j = v := by
  refine ⟨fun i hi => ?_, ?_⟩
  · rw [h i (Nat.lt_succ_of_lt hi)]
    exact if_neg (Nat.ne_of_lt hi)
  · rw [h j (Nat.lt_succ_self j)]
    exact if_pos rfl

def setToks (τ : Nat → Tok) (j : Nat) (σ : Nat → Tok) : Nat → Tok := fun i => if i < j then τ i else σ (i - j)
theorem agree_sets {τ₀ τ σ : Nat → Tok} {j nt : Nat} (h : ∀ i < j + nt, τ i = setToks τ₀ j σ i) : (∀ i < j, τ i = τ₀ i) ∧ cutTok nt (fun i => τ (j + i)) = cutTok nt σ := by
  refine ⟨fun i hi => ?_, funext fun i => ?_⟩
  · rw [h i (Nat.lt_of_lt_of_le hi (Nat.le_add_right ..))]
    exact if_pos hi
  · unfold cutTok
    cases q : Nat.blt i nt with
    | false => rfl
    | true =>
      have hi : i < nt := blt_true q
      show τ (j + i) = σ i
      rw [h (j + i) (Nat.add_lt_add_left hi j)]
      show (if j + i < j then τ₀ (j + i) else σ (j + i - j)) = σ i
      rw [if_neg (Nat.not_lt.mpr (Nat.le_add_right ..)), Nat.add_sub_cancel_left]

section
variable {V : Base} (O : V.Ok) {X : Nat → Option Obj} {keep : List Nat} {R : Result → Option (List (Nat × Obj)) → Nat → Ch → Prop} {Rb : Result → Shared → Prop}
  (hR : ∀ r T m ch s, R r (ownAt T keep) m ch → Still V s → RepE V X s.heap T m ch → Rb r s)

/-- what a run says, for tokens that begin as τ₀ -/
def Says (V : Base) (R : Result → Option (List (Nat × Obj)) → Nat → Ch → Prop) (τ₀ : Nat → Tok) (j : Nat) (f : (Nat → Tok) → Out) : Prop := ∀ τ : Nat → Tok, (∀ i < j, τ i = τ₀ i) → (f τ).Ok V R

/-- the turn below -/
def Below (V : Base) (keep : List Nat) (X : Nat → Option Obj) (R : Result → Option (List (Nat × Obj)) → Nat → Ch → Prop) (Rb : Result → Shared → Prop) (n : Nat) : Prop :=
  ∀ (Γ : Ctx) (p : Pos) (κ : List FrE) (t : Sem PySem.Fin) (T : KT) (m j e : Nat) (ch : Ch) (hs : List Hint) (τ₀ : Nat → Tok) (s : Shared),
    Says V R τ₀ j (fun τ => ev V keep τ n Γ p κ t T m j e ch hs) → Still V s → RepE V X s.heap T m ch → Means V Rb Γ p κ t s

end
/-- what a use says: of the outcomes behind it, and of the code -/
def NowOk (V : Base) (R : Result → Option (List (Nat × Obj)) → Nat → Ch → Prop) (Γ : Ctx) (p : Pos) (s : Shared) (f : Out → Out) (v : Value) : Prop :=
  ∀ o, (f o).Ok V R → o.Ok V R ∧ ∀ Q : Result → Shared → Prop, (∀ k, Q (.ok (.ret v)) { s with toks := k }) → wpCode V.M Γ Q p s
def TokOk (V : Base) (R : Result → Option (List (Nat × Obj)) → Nat → Ch → Prop) (Γ : Ctx) (p : Pos) (s : Shared) (f : Out → Out) (x : Int) : Prop :=
  ∀ o, (f o).Ok V R → o.Ok V R ∧ ∀ Q : Result → Shared → Prop, (∀ t k, Q (.ok (.ret (.int x t))) { s with toks := k }) → wpCode V.M Γ Q p s
def Use.Ok (V : Base) (R : Result → Option (List (Nat × Obj)) → Nat → Ch → Prop) (Γ : Ctx) (p : Pos) (s : Shared) (T : KT) : Use → Prop
  | .now f v => NowOk V R Γ p s f v
  | .tok f x => TokOk V R Γ p s f x
  | .go c q t => ∃ k, den c = .at q k ∧ t = k () ∧ ∀ Q : Result → Shared → Prop, (∀ p', wpCode V.M (Γ.goto c) Q p' s) → wpCode V.M Γ Q p s
  | .seg i _ _ _ _ _ o es ep l => T.get i = some ⟨o.cls, o.dict, .dict es ep, o.slots⟩ ∧ ∀ x ∈ l, T.get x.1 = some x.2

section
variable {V : Base} {R : Result → Option (List (Nat × Obj)) → Nat → Ch → Prop} {Γ : Ctx} {p : Pos} {s : Shared} {T : KT} {u : Use} {look : Addr → Option Obj}
theorem bit_ok {r : Bool} (h : needBit r Γ.code = some u) : u.Ok V R Γ p s T := by
  obtain ⟨b, h1, h⟩ := bnd_eq h
  rw [← Option.some.inj h]
  rintro o ⟨rfl, H⟩
  refine ⟨H, fun Q hQ => ?_⟩
  rw [wpCode_iff_wp]
  show Sem.wp V.M Γ (denote table Γ.code) _ _ p s
  rw [den_eq, boolOf_eq h1, Sem.wp_pure]
  exact hQ s.toks
theorem num_ok {x : Int} (h : needNum x Γ.code = some u) : u.Ok V R Γ p s T := by
  obtain ⟨t, h1, h⟩ := bnd_eq h
  obtain ⟨a, h2, h⟩ := bnd_eq h
  obtain ⟨b, h3, h⟩ := bnd_eq h
  obtain ⟨ta, h2⟩ := intOf_eq h2
  obtain ⟨tb, h3⟩ := intOf_eq h3
  have hc := two_eq h1
  rw [h2, h3] at hc
  rw [← Option.some.inj h]
  exact fun o H => ⟨H.2, fun Q hQ => H.1 t.1 ta tb Γ p s Q rfl hc hQ⟩
theorem has_ok (hl : ∀ a o, look a = some o → s.heap.get? a = some o) (h : needHas look Γ.code = some u) : u.Ok V R Γ p s T := by
  obtain ⟨t, h1, h⟩ := bnd_eq h
  obtain ⟨h2, h⟩ := grd_eq h
  obtain ⟨a, h3, h⟩ := bnd_eq h
  obtain ⟨x, h4, h⟩ := bnd_eq h
  obtain ⟨o, h5, h⟩ := bnd_eq h
  obtain ⟨xs, h6, h⟩ := bnd_eq h
  obtain ⟨b, h7, h⟩ := bnd_eq h
  obtain ⟨tx, h4⟩ := strOf_eq h4
  have hc := two_eq h1
  rw [refOf_eq h3, h4] at hc
  rw [← Option.some.inj h]
  exact fun o H => ⟨H, fun Q hQ => has_wp hc (Nat.eq_of_beq_eq_true h2) (hl _ _ h5) h6 h7 (hQ s.toks)⟩
theorem askOk_eq {id : String} {a : Addr} (h : askOk id a = true) : code id = kGetItem ∨ (code id = kGet ∧ Nat.beq a sysModules = false) := by
  unfold askOk at h
  cases q : Nat.beq (code id) kGetItem with
  | true => exact .inl (Nat.eq_of_beq_eq_true q)
  | false =>
    cases q2 : Nat.beq (code id) kGet with
    | true =>
      rw [q, q2] at h
      exact .inr ⟨Nat.eq_of_beq_eq_true q2, (Bool.not_eq_true' _).mp h⟩
    | false => rw [q, q2] at h; exact nomatch h
theorem dget_ok {i : Nat} (hl : ∀ a o, look a = some o → s.heap.get? a = some o) (h : needDget look i Γ.code = some u) : u.Ok V R Γ p s T := by
  obtain ⟨t, h1, h⟩ := bnd_eq h
  obtain ⟨a, h3, h⟩ := bnd_eq h
  obtain ⟨k, h4, h⟩ := bnd_eq h
  obtain ⟨o, h5, h⟩ := bnd_eq h
  obtain ⟨es, h6, h⟩ := bnd_eq h
  obtain ⟨x, h7, h⟩ := bnd_eq h
  obtain ⟨v, h8, h⟩ := bnd_eq h
  obtain ⟨h9, h⟩ := grd_eq h
  obtain ⟨tk, h4⟩ := intOf_eq h4
  have hc := two_eq h1
  rw [refOf_eq h3, h4] at hc
  have ho := hl _ _ h5
  rw [dictOf_eq h6] at ho
  rw [← Option.some.inj h]
  intro o H
  have y := keysOf_ok h7 H
  refine ⟨y.1, fun Q hQ => ?_⟩
  rcases askOk_eq h9 with q | q
  · exact getitem_wp hc q ho y.2.1 (y.2.2 v h8) (hQ _)
  · refine get_wp hc q.1 q.2 ho y.2.1 ?_
    rw [y.2.2 v h8]
    exact hQ _
theorem dmiss_ok (hl : ∀ a o, look a = some o → s.heap.get? a = some o) (h : needDmiss look Γ.code = some u) : u.Ok V R Γ p s T := by
  obtain ⟨t, h1, h⟩ := bnd_eq h
  obtain ⟨a, h3, h⟩ := bnd_eq h
  obtain ⟨k, h4, h⟩ := bnd_eq h
  obtain ⟨o, h5, h⟩ := bnd_eq h
  obtain ⟨es, h6, h⟩ := bnd_eq h
  obtain ⟨h7, h⟩ := grd_eq h
  obtain ⟨h8, h⟩ := grd_eq h
  obtain ⟨h9, h⟩ := grd_eq h
  obtain ⟨tk, h4⟩ := intOf_eq h4
  have hc := two_eq h1
  rw [refOf_eq h3, h4] at hc
  have ho := hl _ _ h5
  rw [dictOf_eq h6] at ho
  rw [← Option.some.inj h]
  refine fun o H => ⟨H, fun Q hQ => get_wp hc (Nat.eq_of_beq_eq_true h8) ((Bool.not_eq_true' _).mp h9) ho (nilOf_eq h7 ▸ fun _ h => (nomatch h)) ?_⟩
  rw [nilOf_eq h7]
  exact hQ _
theorem eqs_ok {kT' kOp : Nat} {r : Bool} (hl : ∀ a o, look a = some o → s.heap.get? a = some o)
    (hw : ∀ {id : String} {a b : Addr} {o o' : Obj} {xs ys : Array Value} {Q : Result → Shared → Prop}, Γ.code = .builtin id ⟨[.ref a, .ref b], []⟩ → s.heap.get? a = some o → s.heap.get? b = some o' → seqOf kT' o = some xs → seqOf kT' o' = some ys →
      AlikeAll s.heap 6 xs.toList ys.toList → code id = kOp → Q (.ok (.ret (.bool r))) s → wpCode V.M Γ Q p s) (h : needEqs look Γ.code kT' kOp r = some u) : u.Ok V R Γ p s T := by
  obtain ⟨t, h1, h⟩ := bnd_eq h
  obtain ⟨h2, h⟩ := grd_eq h
  obtain ⟨a, h3, h⟩ := bnd_eq h
  obtain ⟨b, h4, h⟩ := bnd_eq h
  obtain ⟨o, h5, h⟩ := bnd_eq h
  obtain ⟨o', h6, h⟩ := bnd_eq h
  obtain ⟨xs, h7, h⟩ := bnd_eq h
  obtain ⟨ys, h8, h⟩ := bnd_eq h
  obtain ⟨l, h9, h⟩ := bnd_eq h
  have hc := two_eq h1
  rw [refOf_eq h3, refOf_eq h4] at hc
  rw [← Option.some.inj h]
  exact fun o H => ⟨H.2, fun Q hQ => hw hc (hl _ _ h5) (hl _ _ h6) h7 h8 (zipE_all (eqD_alike hl 6) h9 H.1) (Nat.eq_of_beq_eq_true h2) (hQ s.toks)⟩
theorem len_ok (hl : ∀ a o, look a = some o → s.heap.get? a = some o) (h : needLen look Γ.code = some u) : u.Ok V R Γ p s T := by
  obtain ⟨t, h1, h⟩ := bnd_eq h
  obtain ⟨h2, h⟩ := grd_eq h
  obtain ⟨a, h3, h⟩ := bnd_eq h
  obtain ⟨o, h5, h⟩ := bnd_eq h
  obtain ⟨xs, h7, h⟩ := bnd_eq h
  have hc := one_eq h1
  rw [refOf_eq h3] at hc
  rw [← Option.some.inj h]
  exact fun o H => ⟨H.2, fun Q hQ => len_wp hc (Nat.eq_of_beq_eq_true h2) (hl _ _ h5) h7 H.1 (hQ _ _)⟩
theorem loop_ok (hl : ∀ a o, look a = some o → s.heap.get? a = some o) (h : needLoop look Γ.code = some u) : u.Ok V R Γ p s T := by
  obtain ⟨x, h1, h⟩ := bnd_eq h
  obtain ⟨o, h5, h⟩ := bnd_eq h
  obtain ⟨i, h6, h⟩ := bnd_eq h
  obtain ⟨y, h7, h⟩ := bnd_eq h
  obtain ⟨k, h7, h8⟩ := atOf_eq h7
  rw [← Option.some.inj h]
  exact ⟨k, h7, h8, fun Q hQ => alias_wp h1 (hl _ _ h5) h6 hQ⟩
theorem seg_ok {m i nt : Nat} {sl' : Array (Option Value)} {as : List Nat} {F : (Nat → Tok) → List (Nat × Obj)} {m' : Nat} {ch' : Ch} (h : needSeg T m i nt sl' as F m' ch' = some u) : u.Ok V R Γ p s T := by
  obtain ⟨o, h1, h⟩ := bnd_eq h
  obtain ⟨d, h2, h⟩ := bnd_eq h
  obtain ⟨_, h⟩ := grd_eq h
  obtain ⟨l, h3, h⟩ := bnd_eq h
  rw [← Option.some.inj h]
  refine ⟨?_, own_hold h3⟩
  rw [h1, ← dictData_eq h2]
end
theorem need_ok {V : Base} (O : V.Ok) {X : Nat → Option Obj} {R : Result → Option (List (Nat × Obj)) → Nat → Ch → Prop} {Γ : Ctx} {p : Pos} {s : Shared} {T : KT} {m : Nat} {ch : Ch} (D : RepE V X s.heap T m ch) : ∀ {h : Hint} {u : Use}, needE V h Γ T m ch = some u → u.Ok V R Γ p s T
  | .bit _ _, _, h => bit_ok h
  | .num _ _, _, h => num_ok h
  | .has _, _, h => has_ok (fun _ _ => D.known O) h
  | .dget _ _, _, h => dget_ok (fun _ _ => D.known O) h
  | .dmiss _, _, h => dmiss_ok (fun _ _ => D.known O) h
  | .eqv _, _, h => by
    obtain ⟨q, h⟩ := grd_eq h
    split at h
    · exact eqs_ok (fun _ _ => D.known O) (eqv_tuples q) h
    · split at h
      · exact eqs_ok (fun _ _ => D.known O) (fun a b c d e f => (eqv_lists q a b c d e f).1) h
      · exact eqs_ok (fun _ _ => D.known O) (fun a b c d e f => (eqv_lists q a b c d e f).2) h
  | .len _, _, h => len_ok (fun _ _ => D.known O) h
  | .alias _, _, h => loop_ok (fun _ _ => D.known O) h
  | .seg .., _, h => seg_ok h

section
variable {V : Base} (O : V.Ok) {X : Nat → Option Obj} {keep : List Nat} {R : Result → Option (List (Nat × Obj)) → Nat → Ch → Prop} {Rb : Result → Shared → Prop}
  (hR : ∀ r T m ch s, R r (ownAt T keep) m ch → Still V s → RepE V X s.heap T m ch → Rb r s)
include O in
theorem use_sound {n : Nat} (ih : Below V keep X R Rb n) (h : Hint) (Γ : Ctx) (p : Pos) (κ : List FrE) (T : KT) (m j e : Nat) (ch : Ch) (hs : List Hint) (τ₀ : Nat → Tok) (s : Shared)
    (H : Says V R τ₀ j fun τ => useE V τ (ev V keep τ n) h Γ p κ T m j e ch hs) (S : Still V s) (D : RepE V X s.heap T m ch) : wpCode V.M Γ (KP V Rb κ) p s := by
  unfold useE at H
  cases q : needE V h Γ T m ch with
  | none => rw [q] at H; exact (H τ₀ fun _ _ => rfl).elim
  | some u =>
    rw [q] at H
    have U := need_ok (R := R) (p := p) O D q
    cases u with
    | now f v => exact (U _ (H τ₀ fun _ _ => rfl)).2 _ fun k => ih Γ p κ (.pure (.done (.ret v))) T m j (e + 1) ch hs τ₀ { s with toks := k } (fun τ hτ => (U _ (H τ hτ)).1) ⟨S.gens, S.drawn, S.os⟩ D
    | tok f x =>
      exact (U _ (H τ₀ fun _ _ => rfl)).2 _ fun t k => ih Γ p κ (.pure (.done (.ret (.int x t)))) T m (j + 1) (e + 1) ch hs (setTok τ₀ j t) { s with toks := k } (fun τ hτ => by
        have y := agree_set hτ
        have w := (U _ (H τ y.1)).1
        rw [y.2] at w
        exact w) ⟨S.gens, S.drawn, S.os⟩ D
    | go c q' t =>
      obtain ⟨k, h1, rfl, h2⟩ := U
      refine h2 _ fun p' => code_of_means (κ := κ) ?_
      show Means V Rb (Γ.goto c) p' κ (den c) s
      rw [h1]
      unfold Means
      rw [Sem.wp_at]
      exact ih (Γ.goto c) q' κ (k ()) T m j (e + 2) ch hs τ₀ s H S D
    | seg i nt sl' F m' ch' o es ep l =>
      refine wpCode_mono ?_ ((H τ₀ fun _ _ => rfl).1 X T s es ep S D U.1 U.2)
      rintro r s' ⟨rfl, S', σ, D'⟩
      exact ih Γ p κ (.pure (.done (.ret (.bool true)))) _ m' (j + nt) (e + 1) ch' hs (setToks τ₀ j σ) s' (fun τ hτ => by
        have y := agree_sets hτ
        have w := (H τ y.1).2
        rw [y.2] at w
        exact w) S' D'

include O in
theorem enter_sound {n : Nat} (ih : Below V keep X R Rb n) (Γ : Ctx) (p : Pos) (κ : List FrE) (T : KT) (m j e : Nat) (ch : Ch) (hs : List Hint) (τ₀ : Nat → Tok) (s : Shared)
    (H : Says V R τ₀ j fun τ => enterE V τ (ev V keep τ n) Γ p κ T m j e ch hs) (S : Still V s) (D : RepE V X s.heap T m ch) : wpCode V.M Γ (KP V Rb κ) p s := by
  cases hs with
  | nil => exact code_of_means (ih _ _ _ _ _ _ _ _ _ _ _ _ H S D)
  | cons hd rest =>
    cases q : Nat.beq hd.at e with
    | false => exact code_of_means (ih _ _ _ _ _ _ _ _ _ _ τ₀ _ (fun τ hτ => by have z := H τ hτ; simp only [enterE, q] at z; exact z) S D)
    | true => exact use_sound O ih hd Γ p κ T m j e ch rest τ₀ s (fun τ hτ => by have z := H τ hτ; simp only [enterE, q] at z; exact z) S D

include hR in
theorem ret_sound {n : Nat} (ih : Below V keep X R Rb n) (r : Result) (κ : List FrE) (T : KT) (m j e : Nat) (ch : Ch) (hs : List Hint) (τ₀ : Nat → Tok) (s : Shared)
    (H : Says V R τ₀ j fun τ => retE keep (ev V keep τ n) r κ T m j e ch hs) (S : Still V s) (D : RepE V X s.heap T m ch) : KP V Rb κ r s := by
  cases κ with
  | nil => exact hR _ _ _ _ _ (H τ₀ fun _ _ => rfl) S D
  | cons fr κ => exact ih _ _ _ _ _ _ _ _ _ _ _ _ H S D

theorem says_got {R : Result → Option (List (Nat × Obj)) → Nat → Ch → Prop} {τ₀ : Nat → Tok} {j : Nat} {α : Type} {n a : Nat} {x : Option α} {go : (Nat → Tok) → α → Out} (H : Says V R τ₀ j fun τ => got n a x (go τ)) : ∃ y, x = some y ∧ Says V R τ₀ j fun τ => go τ y := by
  cases x with
  | none => exact (H τ₀ fun _ _ => rfl).elim
  | some y => exact ⟨y, rfl, H⟩
theorem says_if {R : Result → Option (List (Nat × Obj)) → Nat → Ch → Prop} {τ₀ : Nat → Tok} {j : Nat} {n a : Nat} {b : Bool} {go : (Nat → Tok) → Out} (H : Says V R τ₀ j fun τ => @Bool.rec (fun _ => Out) (.bad n a) (go τ) b) : b = true ∧ Says V R τ₀ j go := by
  cases b with
  | false => exact (H τ₀ fun _ _ => rfl).elim
  | true => exact ⟨rfl, H⟩

include O hR in
theorem sound (n : Nat) : Below V keep X R Rb n := by
  induction n with
  | zero => exact fun _ _ _ _ _ _ _ _ _ _ τ₀ _ H _ _ => (H τ₀ fun _ _ => rfl).elim
  | succ n ih =>
    intro Γ p κ t T m j e ch hs τ₀ s H S D
    have H : Says V R τ₀ j fun τ => stepE V keep τ (ev V keep τ n) Γ p κ t T m j e ch hs := H
    unfold Means
    cases t with
    | pure fin =>
      rw [Sem.wp_pure]
      cases fin with
      | done f => exact ret_sound hR ih _ _ _ _ _ _ _ _ _ _ H S D
      | again c =>
        have z := says_if (b := qk c) (go := fun τ => enterE V τ (ev V keep τ n) (Γ.goto c) p κ T m j e ch hs) H
        exact ⟨qk_quiet z.1, enter_sound O ih _ _ _ _ _ _ _ _ _ τ₀ _ z.2 S D⟩
    | raise x => rw [Sem.wp_raise]; exact ret_sound hR ih _ _ _ _ _ _ _ _ _ _ H S D
    | rule tag k => rw [Sem.wp_rule]; exact ih _ _ _ _ _ _ _ _ _ _ _ _ H S D
    | «at» q k => rw [Sem.wp_at]; exact ih _ _ _ _ _ _ _ _ _ _ _ _ H S D
    | point l k => rw [Sem.wp_point]; exact ih _ _ _ _ _ _ _ _ _ _ _ _ H S D
    | ask k => rw [Sem.wp_ask]; exact ih _ _ _ _ _ _ _ _ _ _ _ _ H S D
    | load a q k =>
      rw [Sem.wp_load]
      obtain ⟨o, ho, H⟩ := says_got (go := fun τ o => ev V keep τ n Γ p κ (k o) T m j e ch hs) H
      exact ⟨o, D.known O ho, ih _ _ _ _ _ _ _ _ _ _ _ _ H S D⟩
    | loadIfAlive a k =>
      rw [Sem.wp_loadIfAlive]
      obtain ⟨o, ho, H⟩ := says_got (go := fun τ o => ev V keep τ n Γ p κ (k (some o)) T m j e ch hs) H
      rw [D.known O ho]
      exact ih _ _ _ _ _ _ _ _ _ _ _ _ H S D
    | alloc o k =>
      rw [Sem.wp_alloc]
      have z := says_if (go := fun τ => ev V keep τ n Γ p κ (k (V.n₁ + m)) (kput 40 T m o) (m + 1) j e ch hs) H
      rw [D.base.size]
      exact ih _ _ _ _ _ _ _ _ _ _ _ _ z.2 ⟨S.gens, S.drawn, S.os⟩ (D.alloc O (stands_eq z.1))
    | update a q f k =>
      rw [Sem.wp_update]
      have H : Says V R τ₀ j fun τ => @Bool.rec (fun _ => Out) (got 4 a (stored V T f a) fun o => ev V keep τ n Γ p κ (k ()) (kput 40 T (a - V.n₁) o) m j e ch hs)
        (got 6 a (grows V ch f a) fun vs => ev V keep τ n Γ p κ (k ()) T m j e (chPut ch a vs) hs) (Nat.blt a V.n₁) := H
      generalize hb : Nat.blt a V.n₁ = b at H
      cases b with
      | false =>
        obtain ⟨_, ho, H⟩ := says_got (go := fun τ o => ev V keep τ n Γ p κ (k ()) (kput 40 T (a - V.n₁) o) m j e ch hs) H
        obtain ⟨o, h1, ho⟩ := bnd_eq ho
        obtain ⟨h2, ho⟩ := grd_eq ho
        cases ho
        have z := D.update O (blt_false hb) h1 (stands_eq h2)
        exact ⟨by rw [z.1]; rfl, ih _ _ _ _ _ _ _ _ _ _ _ _ H ⟨S.gens, S.drawn, S.os⟩ z.2⟩
      | true =>
        obtain ⟨vs, hv, H⟩ := says_got (go := fun τ vs => ev V keep τ n Γ p κ (k ()) T m j e (chPut ch a vs) hs) H
        have z := D.table O (blt_true hb) hv
        exact ⟨z.1, ih _ _ _ _ _ _ _ _ _ _ _ _ H ⟨S.gens, S.drawn, S.os⟩ z.2⟩
    | fresh k =>
      rw [Sem.wp_fresh]
      exact ih _ _ _ _ _ _ (j + 1) _ _ _ (setTok τ₀ j s.toks) _ (fun τ hτ => by
        have y := agree_set hτ
        have w := H τ y.1
        simp only [stepE, y.2] at w
        exact w) ⟨S.gens, S.drawn, S.os⟩ D
    | handled own k =>
      rw [Sem.wp_handled]
      cases own with
      | false => exact ih _ _ _ _ _ _ _ _ _ _ _ _ H S D
      | true => exact ih _ _ _ _ _ _ _ _ _ _ _ _ H S D
    | stack k => rw [Sem.wp_stack]; exact ih _ _ _ _ _ _ _ _ _ _ _ _ H S D
    | call c hd g l k =>
      rw [Sem.wp_call]
      exact enter_sound O ih _ _ (⟨Γ, p, k⟩ :: κ) _ _ _ _ _ _ _ _ H S D
    | unsupported | finish | register | choose | os | fork | thread | await | newGen | genState | resume | «yield» => exact (H τ₀ fun _ _ => rfl).elim
end
end Mine
namespace Mine
open PySem PySem.W PySem.W.X

/-! ## The places of this law's run -/
noncomputable def arrAt (kt : KT) (a : Nat) : Array Value := match kt.get a with
  | some o => match tabOf o with
    | some vs => vs
    | none => #[]
  | none => #[]
noncomputable def fdAt (kt : KT) (a : Nat) : FuncData := match kt.get a with
  | some o => match o.data with
    | .func fd => fd
    | _ => default
  | none => default
def stmtsOf (fd : FuncData) : List Stmt := match fd.body with
  | .stmts b => b
  | .expr _ => []
def scriptObj (its : Array Value) : Obj := { cls := .type "list", data := .seq its }

/-- law's own frame: its place, its slots ahead of the first exception and behind it -/
def sl0 : Array (Option Value) := #[]
def sl1 : Array (Option Value) := #[some (.ref 306), some (.ref 3), none, some .notImplemented, none, some (.ref 307), some (.ref 0)]
noncomputable def lawCode (kt : KT) : Code := .func (stmtsOf (fdAt kt 307))
  { scope := (fdAt kt 307).scope, locals := 309, globals := 3, cells := [], qual := ⟨#[108, 97, 119, 46, 60, 108, 111, 99, 97, 108, 115, 62, 46]⟩, func := some 307, code := .ref 306, frame := some 309, builtins := 0 }
def caller0 : Code := .builtin "claim.caller" {}
/-- a call out of law's body -/
noncomputable def inLaw (kt : KT) (c : Code) (p : Pos) : Ctx := ⟨c, none, none, [(lawCode kt, p), (caller0, default)], none⟩
noncomputable def baseOf (prog : Program) (w : World) (h₀ : Heap) (kt : KT) (g : Array GenState) (d : Drawn) (os : OsState) : Base :=
  { prog, w, h₀, n₁ := 309, kt, tabs := [(269, arrAt kt 269), (288, arrAt kt 288), (295, arrAt kt 295)], A₀ := callerA, R₀ := fun _ _ => True, d, t₀ := 0, os, gens := g }
noncomputable def frameT (C : Value) (dd : Option Addr) (es : Array DictEntry) (ep : Nat) (sl : Array (Option Value)) : KT := kput 40 .nil 0 ⟨C, dd, .dict es ep, sl⟩
/-- the run of a call out of law's body: at the m-th object, the e-th code -/
noncomputable def callRun (keep : List Nat) (F₀ : List (Nat × Obj)) (prog : Program) (w : World) (kt : KT) (τ : Nat → Tok) (N : Nat) (c : Code) (p : Pos) (es : Array DictEntry) (ep : Nat) (sl : Array (Option Value)) (m e : Nat) (ch : Ch) (hs : List Hint) (h₀ : Heap) (g : Array GenState) (d : Drawn) (os : OsState) : Out :=
  ev (baseOf prog w h₀ kt g d os) keep τ N (inLaw kt c p) p [] (den c) (kputs (frameT (.type "frame") none es ep sl) F₀) m 0 e ch hs
/-- the code object that the first call of _law_made makes, by its tokens -/
def obj35 (σ : Nat → Tok) : Obj := { cls := .type "code", data := .fields #[.str ⟨#[60, 108, 97, 109, 98, 100, 97, 62]⟩ (σ 0),
  .str ⟨#[95, 108, 97, 119, 95, 109, 97, 100, 101, 46, 60, 108, 111, 99, 97, 108, 115, 62, 46, 60, 108, 97, 109, 98, 100, 97, 62]⟩ (σ 1),
  .str ⟨#[47, 99, 108, 97, 105, 109, 47, 99, 117, 116, 46, 112, 121]⟩ (σ 2), .int 172 0, .int 0 0, .int 0 0, .int 0 0, .int 19 0, .ref 339, .bool true, .int 181 0, .ref 340, .none, .ref 341, .ref 342, .ref 343,
  .int (Int.ofNat (σ 3)) 0, .int 172 0, .str ⟨#[47, 99, 108, 97, 105, 109, 47, 99, 117, 116, 46, 112, 121]⟩ (σ 4)] }
def F35 (σ : Nat → Tok) : List (Nat × Obj) := [(35, obj35 σ)]
def ch1 : Ch := [(269, #[.int 172 0, .int 21 0, .ref 344])]
def ch2 : Ch := [(269, #[.int 172 0, .int 21 0, .ref 344]), (288, #[.int 187 0, .int 59 0, .ref 805])]
def ch3 : Ch := [(269, #[.int 172 0, .int 21 0, .ref 344]), (288, #[.int 187 0, .int 59 0, .ref 805]), (295, #[.int 195 0, .int 53 0, .ref 1510])]
end Mine
namespace Mine
open PySem PySem.W PySem.W.X
abbrev lawCall : Code := .call (.ref 307) ⟨[.ref 308], []⟩
abbrev g0 : Ctx := ⟨.builtin "claim.caller" {}, none, none, [], none⟩
noncomputable def mainRun (prog : Program) (w : World) (kt : KT) (τ : Nat → Tok) (N : Nat) (hs : List Hint) (h₀ : Heap) (g : Array GenState) (d : Drawn) (os : OsState) : Out :=
  ev (baseOf prog w h₀ kt g d os) [] τ N (g0.enter lawCall none default) default [] (den lawCall) .nil 0 0 1 [] hs
end Mine
namespace Mine
open PySem PySem.W PySem.W.X

/-! ## A check's run as one step of law's body -/
theorem kputs_get : ∀ (F : List (Nat × Obj)) (T : KT) (j : Nat) (o : Obj), (kputs T F).get j = some o → (j, o) ∈ F ∨ T.get j = some o
  | [], _, _, _, h => .inr h
  | x :: F, T, j, o, h => by
    have h : (kput 40 (kputs T F) x.1 x.2).get j = some o := h
    rcases kput_get _ _ _ _ _ _ h with ⟨rfl, rfl⟩ | ⟨_, q⟩
    · exact .inl (List.mem_cons_self ..)
    · rcases kputs_get F T j o q with q | q
      · exact .inl (List.mem_cons_of_mem _ q)
      · exact .inr q
theorem nil_get (j : Nat) : (KT.nil).get j = none := by
  cases j <;> rfl
theorem frameT_get {C : Value} {dd : Option Addr} {es : Array DictEntry} {ep : Nat} {sl : Array (Option Value)} {j : Nat} {o : Obj} (h : (frameT C dd es ep sl).get j = some o) : j = 0 ∧ o = ⟨C, dd, .dict es ep, sl⟩ := by
  rcases kput_get _ _ _ _ _ _ h with q | ⟨_, q⟩
  · exact q
  · rw [nil_get] at q; cases q

theorem seg_of_run {prog : Program} {w : World} {h₀ : Heap} {kt : KT} {g : Array GenState} {d : Drawn} {os : OsState} (O : (baseOf prog w h₀ kt g d os).Ok) {c : Code} {p : Pos} {sl sl' : Array (Option Value)} {m m' e nt N : Nat} {ch ch' : Ch} {hs : List Hint} {F₀ : List (Nat × Obj)} {F : (Nat → Tok) → List (Nat × Obj)} (keep : List Nat)
    (H : ∀ τ es ep, (callRun keep F₀ prog w kt τ N c p es ep sl m e ch hs h₀ g d os).Ok (baseOf prog w h₀ kt g d os) (fun r F' m₁ ch₁ => r = .ok (.ret (.bool true)) ∧ m₁ = m' ∧ ch₁ = ch' ∧ ∃ σ, F' = some ((0, ⟨.type "frame", none, .dict es ep, sl'⟩) :: (F₀ ++ F (cutTok nt σ))))) :
    Seg (baseOf prog w h₀ kt g d os) (inLaw kt c p) p 0 (.type "frame") none sl sl' F₀ nt F m m' ch ch' := by
  intro X T s es ep S D hT hl
  have hT₀ : ∀ i o, (kputs (frameT (.type "frame") none es ep sl) F₀).get i = some o → T.get i = some o := fun i o h => by
    rcases kputs_get _ _ _ _ h with q | q
    · exact hl _ q
    · obtain ⟨rfl, rfl⟩ := frameT_get q
      exact hT
  have hn : ∀ i o, (kputs (frameT (.type "frame") none es ep sl) F₀).get i = some o → i = 0 ∨ (i, o) ∈ F₀ := fun i o h => by
    rcases kputs_get _ _ _ _ h with q | q
    · exact .inr q
    · exact .inl (frameT_get q).1
  have D₀ : RepE (baseOf prog w h₀ kt g d os) (fun i => match X i with
      | some o => some o
      | none => match (kputs (frameT (.type "frame") none es ep sl) F₀).get i with
        | some _ => none
        | none => T.get i) s.heap (kputs (frameT (.type "frame") none es ep sl) F₀) m ch := by
    refine ⟨D.base, fun i o h => D.own i o (hT₀ i o h), fun i o h => ?_⟩
    cases q : X i with
    | some o' =>
      rw [q] at h
      cases h
      have y := D.aside i o q
      refine ⟨y.1, ?_, y.2.2⟩
      cases q2 : (kputs (frameT (.type "frame") none es ep sl) F₀).get i with
      | none => rfl
      | some o' => have := hT₀ i o' q2; rw [y.2.1] at this; cases this
    | none =>
      rw [q] at h
      dsimp only at h
      cases q2 : (kputs (frameT (.type "frame") none es ep sl) F₀).get i with
      | some o' => rw [q2] at h; cases h
      | none => rw [q2] at h; exact ⟨D.lt h, rfl, D.own i o h⟩
  refine code_of_means (V := baseOf prog w h₀ kt g d os) (κ := []) (sound (V := baseOf prog w h₀ kt g d os) O (keep := keep) (R := fun r F' m₁ ch₁ => r = .ok (.ret (.bool true)) ∧ m₁ = m' ∧ ch₁ = ch' ∧ ∃ σ, F' = some ((0, ⟨.type "frame", none, .dict es ep, sl'⟩) :: (F₀ ++ F (cutTok nt σ))))
    (Rb := fun r s' => r = .ok (.ret (.bool true)) ∧ Still (baseOf prog w h₀ kt g d os) s' ∧ ∃ σ, RepE (baseOf prog w h₀ kt g d os) X s'.heap (kputs (kput 40 T 0 ⟨.type "frame", none, .dict es ep, sl'⟩) (F (cutTok nt σ))) m' ch')
    ?_ N _ _ [] _ _ _ 0 e _ hs (fun _ => 0) s (fun τ _ => H τ es ep) S D₀)
  rintro r T' m₁ ch₁ s' ⟨rfl, rfl, rfl, σ, hF⟩ S' D'
  refine ⟨rfl, S', σ, ?_⟩
  have hk := own_hold hF
  have hk0 : T'.get 0 = some ⟨.type "frame", none, .dict es ep, sl'⟩ := hk _ (List.mem_cons_self ..)
  have hkF : ∀ i o, (i, o) ∈ F₀ → T'.get i = some o := fun i o h => hk (i, o) (List.mem_cons_of_mem _ (List.mem_append_left _ h))
  have hkG : ∀ i o, (i, o) ∈ F (cutTok nt σ) → T'.get i = some o := fun i o h => hk (i, o) (List.mem_cons_of_mem _ (List.mem_append_right _ h))
  refine ⟨D'.base, fun i o h => ?_, fun i o h => ?_⟩
  · rcases kputs_get _ _ _ _ h with q | q
    · exact D'.own i o (hkG i o q)
    · rcases kput_get _ _ _ _ _ _ q with ⟨rfl, rfl⟩ | ⟨ne, q⟩
      · exact D'.own _ _ hk0
      · cases q2 : (kputs (frameT (.type "frame") none es ep sl) F₀).get i with
        | some o' =>
          rcases hn i o' q2 with rfl | q3
          · exact absurd rfl ne
          · have : o' = o := Option.some.inj ((hT₀ i o' q2).symm.trans q)
            subst this
            exact D'.own _ _ (hkF _ _ q3)
        | none =>
          cases q3 : X i with
          | some o' => have := (D.aside i o' q3).2.1; rw [q] at this; cases this
          | none => exact (D'.aside i o (by rw [q3]; dsimp only; rw [q2]; exact q)).2.2
  · have y := D'.aside i o (by rw [h])
    refine ⟨y.1, ?_, y.2.2⟩
    cases q : (kputs (kput 40 T 0 ⟨.type "frame", none, .dict es ep, sl'⟩) (F (cutTok nt σ))).get i with
    | none => rfl
    | some o' =>
      rcases kputs_get _ _ _ _ q with q | q
      · have := hkG i o' q; rw [y.2.1] at this; cases this
      · rcases kput_get _ _ _ _ _ _ q with ⟨rfl, rfl⟩ | ⟨_, q⟩
        · rw [y.2.1] at hk0; cases hk0
        · have := (D.aside i o h).2.1; rw [q] at this; cases this
end Mine
namespace Mine
open PySem PySem.W PySem.W.X

/-! ## Of two ints, this int -/
theorem numq_of {prog : Program} {w : World} {id : String} {B : Builtin} {a b x : Int} (entry : entryFor table id = some B) (plain : plainId id = true) (g : ∀ t u, Gives (B ⟨[.int a t, .int b u], []⟩) (.int x)) : NumQ (model prog w) (code id) a b x := by
  intro id' t u Γ p s R hid hc h
  have := code_inj _ _ hid
  subst this
  refine code_of_any hc (codeAny_builtin entry ?_)
  rw [Around.under_plainId plain]
  exact g t u _ _ _ R s (h _ _)
section
variable {prog : Program} {w : World} {a b : Int}
theorem numq_add : NumQ (model prog w) (code "int.__add__") a b (a + b) := numq_of F.entry_int_add (by decide +kernel) fun t u => AutoIntG4.int___add___int_int_0 a t b u
theorem numq_sub : NumQ (model prog w) (code "int.__sub__") a b (a - b) := numq_of F.entry_int_sub (by decide +kernel) fun t u => AutoIntG9.int___sub___int_int_0 a t b u
theorem numq_mod (h : b ≠ 0) : NumQ (model prog w) (code "int.__mod__") a b (a.fmod b) := numq_of F.entry_int_mod (by decide +kernel) fun t u => AutoIntG6.int___mod___int_int_1 a t b u (by simpa using h)
theorem numq_mul (h : IntMulOk a b) : NumQ (model prog w) (code "int.__mul__") a b (a * b) := numq_of F.entry_int_mul (by decide +kernel) fun t u => gives_int_mul a b t u h
theorem numq_div (h : b ≠ 0) (h' : b.natAbs.log2 < 9000) : NumQ (model prog w) (code "int.__floordiv__") a b (a.fdiv b) := numq_of F.entry_int_floordiv (by decide +kernel) fun t u => AutoIntG4.int___floordiv___int_int_1 a t b u (by simpa using h) (by rw [PyProof.noPylong_of_log2 h']; exact fun h => by cases h)
end
end Mine
namespace Mine
open PySem PySem.W PySem.W.X

/-! ## The four checks: hints, outcomes -/
def hW : List Hint := [.alias 76, .dget 123 0, .has 141, .dget 211 0, .has 229, .dget 299 0, .dget 383 0, .dget 467 0, .dget 551 0, .eqv 593, .dget 637 0, .has 655, .bit 663 true, .bit 667 true, .bit 669 true, .has 685, .alias 718, .dget 724 0, .eqv 740]
def hP : List Hint := [.dget 1063 1, .has 1081, .dget 1114 0, .has 1132, .bit 1140 true, .bit 1144 true, .bit 1146 true, .has 1162, .alias 1200, .dget 1206 1, .dget 1215 0, .eqv 1231]
def hA : List Hint := [.has 1283, .has 1335, .has 1403, .has 1455, .has 1523, .has 1575, .has 2401, .alias 2431, .eqv 2444, .has 2469, .has 2572, .alias 2602, .eqv 2615, .has 2640, .bit 2750 true, .bit 2752 true, .alias 2782, .eqv 2795, .bit 2827 true, .bit 2829 true, .eqv 2887]
def hM : List Hint := [.has 2933, .dget 2981 0, .has 2999, .bit 3007 true, .bit 3011 true, .bit 3013 true, .has 3029, .alias 3068, .alias 3080, .has 3120, .alias 3189, .dget 3195 0, .dget 3217 0, .bit 3245 true, .bit 3249 true, .alias 3322, .dget 3328 0, .dmiss 3350, .alias 3394, .dget 3400 0, .dget 3422 0, .bit 3450 true, .bit 3454 true, .eqv 3466]
def tk35 (τ : Nat → Tok) : Nat → Tok := fun i => τ (match i with | 0 => 18 | 1 => 19 | 2 => 20 | 3 => 23 | _ => 24)
noncomputable def outW (place G low high : Int) (τ : Nat → Tok) (es : Array DictEntry) (ep : Nat) : Out := .key place place place true  <| .key place place place true  <| .key place place place true  <| .key place place place true  <| .key place place place true  <| .key place place place true  <| .eqs []  <| .key place place place true  <| .bit (decide (0 ≤ low)) true  <| .bit (decide (low ≤ high)) true  <| .bit (decide (high ≤ G)) true  <| .key place place place true  <| .eqs [(place, place), (low, low), (high, high)]  <| .fin (.ok (.ret (.bool true))) (some [(0, ⟨.type "frame", none, .dict es ep, sl1⟩), (35, obj35 (cutTok 5 (tk35 τ)))]) 268 ch1
noncomputable def outP (low : Int) (σ : Nat → Tok) (es : Array DictEntry) (ep : Nat) : Out := .key 9 9 0 false  <| .key 0 0 0 true  <| .key 9 9 9 true  <| .key 0 0 9 false  <| .bit (decide (0 ≤ low)) true  <| .bit (decide (low ≤ low)) true  <| .bit (decide (low ≤ 65535)) true  <| .key 9 9 0 false  <| .key 0 0 0 true  <| .key 9 9 9 true  <| .key 0 0 9 false  <| .eqs [(0, 0), (1, 1), (1, 1), (9, 9), (low, low), (low, low)]  <| .fin (.ok (.ret (.bool true))) (some [(0, ⟨.type "frame", none, .dict es ep, sl1⟩), (35, obj35 (cutTok 5 σ))]) 447 ch1
noncomputable def outA (number : Int) (σ : Nat → Tok) (es : Array DictEntry) (ep : Nat) : Out := .eqs []  <| .eqs []  <| .bit (decide (0 ≤ number)) true  <| .bit (decide (number ≤ 7)) true  <| .eqs [(number, number)]  <| .bit (decide (0 ≤ number)) true  <| .bit (decide (number ≤ 7)) true  <| .eqs [(number, number)]  <| .fin (.ok (.ret (.bool true))) (some [(0, ⟨.type "frame", none, .dict es ep, sl1⟩), (35, obj35 (cutTok 5 σ))]) 1108 ch2
noncomputable def outM (low high : Int) (es : Array DictEntry) (ep : Nat) : Out := .key 7 7 7 true  <| .bit (decide (0 ≤ low)) true  <| .bit (decide (low ≤ high)) true  <| .bit (decide (high ≤ 255)) true  <| .key 7 7 7 true  <| .key 7 7 7 true  <| .bit (decide (low ≤ low)) true  <| .bit (decide (high ≤ high)) true  <| .key 7 7 7 true  <| .key 7 7 7 true  <| .key 7 7 7 true  <| .bit (decide (low ≤ low)) true  <| .bit (decide (high ≤ high)) true  <| .eqs [(2, 2), (0, 0)]  <| .fin (.ok (.ret (.bool true))) (some [(0, ⟨.type "frame", none, .dict es ep, sl1⟩)]) 1313 ch3
def EqW (prog : Program) (w : World) (kt : KT) (place G : Int) : Prop := ∀ (low high : Int) (t1 t2 t3 : Tok) (τ : Nat → Tok) (es : Array DictEntry) (ep : Nat) (h₀ : Heap) (g : Array GenState) (d : Drawn) (os : OsState),
  callRun [0, 35] [] prog w kt τ 16000 (.call (.ref 279) ⟨[.int place t1, .int low t2, .int high t3], []⟩) ⟨202, 11, 202, 62⟩ es ep sl0 11 71 [] hW h₀ g d os = outW place G low high τ es ep
def EqP (prog : Program) (w : World) (kt : KT) : Prop := ∀ (low : Int) (t1 : Tok) (σ : Nat → Tok) (τ : Nat → Tok) (es : Array DictEntry) (ep : Nat) (h₀ : Heap) (g : Array GenState) (d : Drawn) (os : OsState),
  callRun [0, 35] [(35, obj35 (cutTok 5 σ))] prog w kt τ 16000 (.call (.ref 286) ⟨[.int low t1], []⟩) ⟨202, 70, 202, 92⟩ es ep sl1 268 742 ch1 hP h₀ g d os = outP low σ es ep
def EqA (prog : Program) (w : World) (kt : KT) : Prop := ∀ (number : Int) (t1 : Tok) (σ : Nat → Tok) (τ : Nat → Tok) (es : Array DictEntry) (ep : Nat) (h₀ : Heap) (g : Array GenState) (d : Drawn) (os : OsState),
  callRun [0, 35] [(35, obj35 (cutTok 5 σ))] prog w kt τ 16000 (.call (.ref 293) ⟨[.int number t1], []⟩) ⟨204, 11, 204, 51⟩ es ep sl1 448 1234 ch1 hA h₀ g d os = outA number σ es ep
def EqM (prog : Program) (w : World) (kt : KT) : Prop := ∀ (low high : Int) (t1 t2 : Tok) (τ : Nat → Tok) (es : Array DictEntry) (ep : Nat) (h₀ : Heap) (g : Array GenState) (d : Drawn) (os : OsState),
  callRun [0] [] prog w kt τ 16000 (.call (.ref 300) ⟨[.int low t1, .int high t2], []⟩) ⟨206, 11, 206, 81⟩ es ep sl1 1110 2897 ch2 hM h₀ g d os = outM low high es ep

theorem ok_bit {V : Base} {R : Result → Option (List (Nat × Obj)) → Nat → Ch → Prop} {p : Prop} [Decidable p] {o : Out} (h : p) (k : o.Ok V R) : (Out.bit (decide p) true o).Ok V R := ⟨decide_eq_true h, k⟩
theorem ok_no {V : Base} {R : Result → Option (List (Nat × Obj)) → Nat → Ch → Prop} {p : Prop} [Decidable p] {o : Out} (h : ¬ p) (k : o.Ok V R) : (Out.bit (decide p) false o).Ok V R := ⟨decide_eq_false h, k⟩
theorem ok_hit {V : Base} {R : Result → Option (List (Nat × Obj)) → Nat → Ch → Prop} {a : Int} {o : Out} (h : a = hashInt a) (k : o.Ok V R) : (Out.key a a a true o).Ok V R := ⟨⟨h, fun _ => rfl, fun _ => rfl⟩, k⟩
theorem ok_off {V : Base} {R : Result → Option (List (Nat × Obj)) → Nat → Ch → Prop} {a b : Int} {o : Out} (h : a = hashInt a) (n : a ≠ b) (k : o.Ok V R) : (Out.key a a b false o).Ok V R := ⟨⟨h, fun z => (by cases z), fun z => absurd z n⟩, k⟩
theorem ok_eqs {V : Base} {R : Result → Option (List (Nat × Obj)) → Nat → Ch → Prop} {l : List (Int × Int)} {o : Out} (h : ∀ q ∈ l, q.1 = q.2) (k : o.Ok V R) : (Out.eqs l o).Ok V R := ⟨h, k⟩

/-! ## The checks as steps -/
structure Steps (prog : Program) (w : World) (kt : KT) : Prop where
  w0 : EqW prog w kt 0 281474976710655
  w1 : EqW prog w kt 1 281474976710655
  w2 : EqW prog w kt 2 65535
  w3 : EqW prog w kt 3 4095
  w4 : EqW prog w kt 4 7
  w5 : EqW prog w kt 5 4294967295
  w6 : EqW prog w kt 6 4294967295
  w7 : EqW prog w kt 7 255
  w8 : EqW prog w kt 8 65535
  w9 : EqW prog w kt 9 65535
  p : EqP prog w kt
  a : EqA prog w kt
  m : EqM prog w kt

theorem ten {P : Int → Prop} (h0 : P 0) (h1 : P 1) (h2 : P 2) (h3 : P 3) (h4 : P 4) (h5 : P 5) (h6 : P 6) (h7 : P 7) (h8 : P 8) (h9 : P 9) {x : Int} (a : 0 ≤ x) (b : x < 10) : P x := by
  obtain ⟨n, rfl⟩ := Int.eq_ofNat_of_zero_le a
  exact match n, Int.ofNat_lt.mp b with
  | 0, _ => h0 | 1, _ => h1 | 2, _ => h2 | 3, _ => h3 | 4, _ => h4 | 5, _ => h5 | 6, _ => h6 | 7, _ => h7 | 8, _ => h8 | 9, _ => h9
theorem same_all (l : List Int) : ∀ q ∈ l.map (fun x => (x, x)), q.1 = q.2 := fun q h => by
  obtain ⟨x, _, rfl⟩ := List.mem_map.mp h
  rfl
theorem no_eqs : ∀ q ∈ ([] : List (Int × Int)), q.1 = q.2 := fun _ h => (nomatch h)
section
variable {prog : Program} {w : World} {h₀ : Heap} {kt : KT} {g : Array GenState} {d : Drawn} {os : OsState} (O : (baseOf prog w h₀ kt g d os).Ok)
include O

theorem segW_of {place G low high : Int} {t1 t2 t3 : Tok} (hh : place = hashInt place) (h : EqW prog w kt place G) (h1 : 0 ≤ low) (h2 : low ≤ high) (h3 : high ≤ G) :
    Seg (baseOf prog w h₀ kt g d os) (inLaw kt (.call (.ref 279) ⟨[.int place t1, .int low t2, .int high t3], []⟩) ⟨202, 11, 202, 62⟩) ⟨202, 11, 202, 62⟩ 0 (.type "frame") none sl0 sl1 [] 5 F35 11 268 [] ch1 :=
  seg_of_run O (hs := hW) (N := 16000) (e := 71) [0, 35] fun τ es ep => by
    rw [h low high t1 t2 t3 τ es ep h₀ g d os]
    exact ok_hit hh <| ok_hit hh <| ok_hit hh <| ok_hit hh <| ok_hit hh <| ok_hit hh <| ok_eqs no_eqs <| ok_hit hh <| ok_bit h1 <| ok_bit h2 <| ok_bit h3 <| ok_hit hh <| ok_eqs (same_all [place, low, high]) <| ⟨rfl, rfl, rfl, tk35 τ, rfl⟩
theorem segP_of {low : Int} {t1 : Tok} (σ : Nat → Tok) (h : EqP prog w kt) (h1 : 0 ≤ low) (h2 : low ≤ 7) :
    Seg (baseOf prog w h₀ kt g d os) (inLaw kt (.call (.ref 286) ⟨[.int low t1], []⟩) ⟨202, 70, 202, 92⟩) ⟨202, 70, 202, 92⟩ 0 (.type "frame") none sl1 sl1 [(35, obj35 (cutTok 5 σ))] 0 (fun _ => []) 268 447 ch1 ch1 :=
  seg_of_run O (hs := hP) (N := 16000) (e := 742) [0, 35] fun τ es ep => by
    rw [h low t1 σ τ es ep h₀ g d os]
    exact ok_off (by decide) (by decide) <| ok_hit (by decide) <| ok_hit (by decide) <| ok_off (by decide) (by decide) <| ok_bit h1 <| ok_bit (Int.le_refl _) <| ok_bit (Int.le_trans h2 (by decide)) <| ok_off (by decide) (by decide) <| ok_hit (by decide) <| ok_hit (by decide) <| ok_off (by decide) (by decide) <| ok_eqs (same_all [0, 1, 1, 9, low, low]) <| ⟨rfl, rfl, rfl, τ, rfl⟩
theorem segA_of {number : Int} {t1 : Tok} (σ : Nat → Tok) (h : EqA prog w kt) (h1 : 0 ≤ number) (h2 : number ≤ 7) :
    Seg (baseOf prog w h₀ kt g d os) (inLaw kt (.call (.ref 293) ⟨[.int number t1], []⟩) ⟨204, 11, 204, 51⟩) ⟨204, 11, 204, 51⟩ 0 (.type "frame") none sl1 sl1 [(35, obj35 (cutTok 5 σ))] 0 (fun _ => []) 448 1108 ch1 ch2 :=
  seg_of_run O (hs := hA) (N := 16000) (e := 1234) [0, 35] fun τ es ep => by
    rw [h number t1 σ τ es ep h₀ g d os]
    exact ok_eqs no_eqs <| ok_eqs no_eqs <| ok_bit h1 <| ok_bit h2 <| ok_eqs (same_all [number]) <| ok_bit h1 <| ok_bit h2 <| ok_eqs (same_all [number]) <| ⟨rfl, rfl, rfl, τ, rfl⟩
theorem segM_of {low high : Int} {t1 t2 : Tok} (h : EqM prog w kt) (h1 : 0 ≤ low) (h2 : low ≤ high) (h3 : high ≤ 255) :
    Seg (baseOf prog w h₀ kt g d os) (inLaw kt (.call (.ref 300) ⟨[.int low t1, .int high t2], []⟩) ⟨206, 11, 206, 81⟩) ⟨206, 11, 206, 81⟩ 0 (.type "frame") none sl1 sl1 [] 0 (fun _ => []) 1110 1313 ch2 ch3 :=
  seg_of_run O (hs := hM) (N := 16000) (e := 2897) [0] fun τ es ep => by
    rw [h low high t1 t2 τ es ep h₀ g d os]
    exact ok_hit (by decide) <| ok_bit h1 <| ok_bit h2 <| ok_bit h3 <| ok_hit (by decide) <| ok_hit (by decide) <| ok_bit (Int.le_refl _) <| ok_bit (Int.le_refl _) <| ok_hit (by decide) <| ok_hit (by decide) <| ok_hit (by decide) <| ok_bit (Int.le_refl _) <| ok_bit (Int.le_refl _) <| ok_eqs (same_all [2, 0]) <| ⟨rfl, rfl, rfl, τ, rfl⟩
theorem segW_all {place low high : Int} {t1 t2 t3 : Tok} (h : Steps prog w kt) (p1 : 0 ≤ place) (p2 : place < 10) (h1 : 0 ≤ low) (h2 : low ≤ high) (h3 : high ≤ 7) :
    Seg (baseOf prog w h₀ kt g d os) (inLaw kt (.call (.ref 279) ⟨[.int place t1, .int low t2, .int high t3], []⟩) ⟨202, 11, 202, 62⟩) ⟨202, 11, 202, 62⟩ 0 (.type "frame") none sl0 sl1 [] 5 F35 11 268 [] ch1 :=
  ten (P := fun place => Seg (baseOf prog w h₀ kt g d os) (inLaw kt (.call (.ref 279) ⟨[.int place t1, .int low t2, .int high t3], []⟩) ⟨202, 11, 202, 62⟩) ⟨202, 11, 202, 62⟩ 0 (.type "frame") none sl0 sl1 [] 5 F35 11 268 [] ch1)
    (segW_of O (by decide) h.w0 h1 h2 (Int.le_trans h3 (by decide)))
    (segW_of O (by decide) h.w1 h1 h2 (Int.le_trans h3 (by decide)))
    (segW_of O (by decide) h.w2 h1 h2 (Int.le_trans h3 (by decide)))
    (segW_of O (by decide) h.w3 h1 h2 (Int.le_trans h3 (by decide)))
    (segW_of O (by decide) h.w4 h1 h2 (Int.le_trans h3 (by decide)))
    (segW_of O (by decide) h.w5 h1 h2 (Int.le_trans h3 (by decide)))
    (segW_of O (by decide) h.w6 h1 h2 (Int.le_trans h3 (by decide)))
    (segW_of O (by decide) h.w7 h1 h2 (Int.le_trans h3 (by decide)))
    (segW_of O (by decide) h.w8 h1 h2 (Int.le_trans h3 (by decide)))
    (segW_of O (by decide) h.w9 h1 h2 (Int.le_trans h3 (by decide))) p1 p2
end

/-! ## Law's own body -/
theorem nq_sub {prog : Program} {w : World} {a b x : Int} (h : x = a - b) : NumQ (model prog w) (code "int.__sub__") a b x := h ▸ numq_sub
theorem nq_add {prog : Program} {w : World} {a b x : Int} (h : x = a + b) : NumQ (model prog w) (code "int.__add__") a b x := h ▸ numq_add
theorem nq_mod {prog : Program} {w : World} {a b x : Int} (h : x = a.fmod b) (hb : 0 < b) : NumQ (model prog w) (code "int.__mod__") a b x := h ▸ numq_mod (Int.ne_of_gt hb)
theorem nq_mulR {prog : Program} {w : World} {a b x : Int} (h : x = a * b) (hb : 0 ≤ b ∧ b < 2147483647) : NumQ (model prog w) (code "int.__mul__") a b x := h ▸ numq_mul (.of_right (intBits_le_64 (Int.lt_of_lt_of_le (by decide) hb.1) (Int.lt_of_lt_of_le hb.2 (by decide))))
theorem nq_div {prog : Program} {w : World} {a b x : Int} (h : x = a.fdiv b) (hb : 0 < b) (hb' : b ≤ 1000) : NumQ (model prog w) (code "int.__floordiv__") a b x := h ▸ numq_div (Int.ne_of_gt hb) (by
  have : b.natAbs.log2 < 10 := (Nat.log2_lt (by omega)).mpr (by omega)
  exact Nat.lt_trans this (by decide))
theorem fmod_b {a b x : Int} (h : x = a.fmod b) (hb : 0 < b) : 0 ≤ x ∧ x < b := h ▸ ⟨Int.fmod_nonneg_of_pos a hb, Int.fmod_lt_of_pos a hb⟩
theorem fdiv_ge {a b x : Int} (k c : Int) (h : x = a.fdiv b) (hb : 0 < b) (hc : b ≤ c) (hk : 0 ≤ k) (ha : k * c ≤ a) : k ≤ x := by
  subst h
  rw [Int.fdiv_eq_ediv_of_nonneg a (Int.le_of_lt hb)]
  exact Int.le_ediv_of_mul_le hb (Int.le_trans (Int.mul_le_mul_of_nonneg_left hc hk) ha)
theorem left_of {a b : Int} (ha : 0 ≤ a ∧ a < 8) (h : b = 8 - a) : 0 < b ∧ b ≤ 8 := by omega
theorem range_of {a b c d : Int} (ha : b = 8 - a) (hc : 0 ≤ c ∧ c < b) (hd : d = a + c) : a ≤ d ∧ d ≤ 7 := by omega
theorem mask_of {a b c : Int} (ha : 0 ≤ a ∧ a < 128) (hb : 0 ≤ b ∧ b < 128) (hc : c = 128 + b) : a ≤ c ∧ c ≤ 255 := by omega
theorem len_pos (n : Nat) : (0 : Int) < ((n + 1 : Nat) : Int) := Int.natCast_pos.mpr (Nat.succ_pos n)

section
variable {prog : Program} {w : World} {h₀ : Heap} {kt : KT} {g : Array GenState} {d : Drawn} {os : OsState}
def hTA (c v1 v2 v3 v4 v5 v6 v7 v8 v9 v10 v11 v12 v13 v14 v15 v16 v17 v18 v19 v20 v21 v22 v23 v24 v25 v26 v27 v28 v29 v30 v31 v32 v33 v34 v35 v36 v37 v38 v39 v40 v41 v42 v43 v44 v45 v46 v47 v48 v49 v50 v51 : Int) : List Hint := [.num 30 v1, .num 36 v2, .num 40 v3, .num 42 v4, .num 44 v5, .num 46 v6, .bit 50 false, .num 60 0, .num 70 v7, .num 72 v8, .num 74 v9, .num 82 v10, .num 84 v11, .num 86 v12, .num 88 v13, .num 90 v14, .num 100 v15, .num 102 v16, .num 104 v17, .num 112 v18, .num 114 v19, .num 116 v20, .num 118 v21, .num 120 v22, .num 130 v23, .num 132 v24, .num 134 v25, .num 142 v26, .num 144 v27, .num 146 v28, .num 148 v29, .seg 149 0 5 sl1 [] (F35) 268 ch1, .seg 150 0 0 sl1 [35] (fun _ => []) 447 ch1, .num 160 v30, .num 162 v31, .num 164 v32, .num 172 v33, .num 174 v34, .num 176 v35, .num 178 v36, .seg 179 0 0 sl1 [35] (fun _ => []) 1108 ch2, .num 189 v37, .num 191 v38, .num 193 v39, .num 201 v40, .num 203 v41, .num 205 v42, .num 207 v43, .num 217 v44, .num 219 v45, .num 221 v46, .num 229 v47, .num 231 v48, .num 233 v49, .num 235 v50, .num 237 v51, .seg 238 0 0 sl1 [] (fun _ => []) 1313 ch3]
noncomputable def oTA (kt : KT) (u0 u1 u2 u3 u4 u5 : Tok) (σ : Nat → Tok) (c v1 v2 v3 v4 v5 v6 v7 v8 v9 v10 v11 v12 v13 v14 v15 v16 v17 v18 v19 v20 v21 v22 v23 v24 v25 v26 v27 v28 v29 v30 v31 v32 v33 v34 v35 v36 v37 v38 v39 v40 v41 v42 v43 v44 v45 v46 v47 v48 v49 v50 v51 : Int) : Out := .num (code "int.__mod__") c 2147483629 v1  <| .num (code "int.__add__") v1 0 v2  <| .num (code "int.__add__") v2 0 v3  <| .num (code "int.__add__") v3 17 v4  <| .num (code "int.__mul__") v4 48271 v5  <| .num (code "int.__mod__") v5 2147483647 v6  <| .bit (decide (1000000000000000000 ≤ c)) false  <| .num (code "int.__mul__") c 0 0  <| .num (code "int.__mul__") v6 39373 v7  <| .num (code "int.__add__") v7 7 v8  <| .num (code "int.__mod__") v8 2147483647 v9  <| .num (code "int.__mul__") v9 v9 v10  <| .num (code "int.__mod__") v10 2147483629 v11  <| .num (code "int.__floordiv__") v11 32 v12  <| .num (code "int.__mod__") v12 8 v13  <| .num (code "int.__sub__") 8 v13 v14  <| .num (code "int.__mul__") v9 39373 v15  <| .num (code "int.__add__") v15 7 v16  <| .num (code "int.__mod__") v16 2147483647 v17  <| .num (code "int.__mul__") v17 v17 v18  <| .num (code "int.__mod__") v18 2147483629 v19  <| .num (code "int.__floordiv__") v19 32 v20  <| .num (code "int.__mod__") v20 v14 v21  <| .num (code "int.__add__") v13 v21 v22  <| .num (code "int.__mul__") v17 39373 v23  <| .num (code "int.__add__") v23 7 v24  <| .num (code "int.__mod__") v24 2147483647 v25  <| .num (code "int.__mul__") v25 v25 v26  <| .num (code "int.__mod__") v26 2147483629 v27  <| .num (code "int.__floordiv__") v27 32 v28  <| .num (code "int.__mod__") v28 10 v29  <| .seg (inLaw kt (.call (.ref 279) ⟨[.int v29 u0, .int v13 u1, .int v22 u2], []⟩) ⟨202, 11, 202, 62⟩) ⟨202, 11, 202, 62⟩ 0 (.type "frame") none sl0 sl1 [] 5 (F35) 11 268 [] ch1  <| .seg (inLaw kt (.call (.ref 286) ⟨[.int v13 u1], []⟩) ⟨202, 70, 202, 92⟩) ⟨202, 70, 202, 92⟩ 0 (.type "frame") none sl1 sl1 [(35, obj35 (cutTok 5 σ))] 0 (fun _ => []) 268 447 ch1 ch1  <| .num (code "int.__mul__") v25 39373 v30  <| .num (code "int.__add__") v30 7 v31  <| .num (code "int.__mod__") v31 2147483647 v32  <| .num (code "int.__mul__") v32 v32 v33  <| .num (code "int.__mod__") v33 2147483629 v34  <| .num (code "int.__floordiv__") v34 32 v35  <| .num (code "int.__mod__") v35 8 v36  <| .seg (inLaw kt (.call (.ref 293) ⟨[.int v36 u3], []⟩) ⟨204, 11, 204, 51⟩) ⟨204, 11, 204, 51⟩ 0 (.type "frame") none sl1 sl1 [(35, obj35 (cutTok 5 σ))] 0 (fun _ => []) 448 1108 ch1 ch2  <| .num (code "int.__mul__") v32 39373 v37  <| .num (code "int.__add__") v37 7 v38  <| .num (code "int.__mod__") v38 2147483647 v39  <| .num (code "int.__mul__") v39 v39 v40  <| .num (code "int.__mod__") v40 2147483629 v41  <| .num (code "int.__floordiv__") v41 32 v42  <| .num (code "int.__mod__") v42 128 v43  <| .num (code "int.__mul__") v39 39373 v44  <| .num (code "int.__add__") v44 7 v45  <| .num (code "int.__mod__") v45 2147483647 v46  <| .num (code "int.__mul__") v46 v46 v47  <| .num (code "int.__mod__") v47 2147483629 v48  <| .num (code "int.__floordiv__") v48 32 v49  <| .num (code "int.__mod__") v49 128 v50  <| .num (code "int.__add__") 128 v50 v51  <| .seg (inLaw kt (.call (.ref 300) ⟨[.int v43 u4, .int v51 u5], []⟩) ⟨206, 11, 206, 81⟩) ⟨206, 11, 206, 81⟩ 0 (.type "frame") none sl1 sl1 [] 0 (fun _ => []) 1110 1313 ch2 ch3  <| .fin (.ok (.ret (.bool true))) (some []) 1313 ch3
theorem tA (O : (baseOf prog w h₀ kt g d os).Ok) (st : Steps prog w kt) {c : Int} (h1 : c < 1000000000000000000) {P : Prop}
    (k : ∀ v1 v2 v3 v4 v5 v6 v7 v8 v9 v10 v11 v12 v13 v14 v15 v16 v17 v18 v19 v20 v21 v22 v23 v24 v25 v26 v27 v28 v29 v30 v31 v32 v33 v34 v35 v36 v37 v38 v39 v40 v41 v42 v43 v44 v45 v46 v47 v48 v49 v50 v51 : Int, (∀ u0 u1 u2 u3 u4 u5 σ, (oTA kt u0 u1 u2 u3 u4 u5 σ c v1 v2 v3 v4 v5 v6 v7 v8 v9 v10 v11 v12 v13 v14 v15 v16 v17 v18 v19 v20 v21 v22 v23 v24 v25 v26 v27 v28 v29 v30 v31 v32 v33 v34 v35 v36 v37 v38 v39 v40 v41 v42 v43 v44 v45 v46 v47 v48 v49 v50 v51).Ok (baseOf prog w h₀ kt g d os) (fun r _ _ _ => r = .ok (.ret (.bool true)))) → P) : P := by
  obtain ⟨v1, hv1⟩ : ∃ y : Int, y = (c).fmod 2147483629 := ⟨_, rfl⟩
  have bv1 := fmod_b hv1 (by decide)
  obtain ⟨v2, hv2⟩ : ∃ y : Int, y = v1 + 0 := ⟨_, rfl⟩
  obtain ⟨v3, hv3⟩ : ∃ y : Int, y = v2 + 0 := ⟨_, rfl⟩
  obtain ⟨v4, hv4⟩ : ∃ y : Int, y = v3 + 17 := ⟨_, rfl⟩
  obtain ⟨v5, hv5⟩ : ∃ y : Int, y = v4 * 48271 := ⟨_, rfl⟩
  obtain ⟨v6, hv6⟩ : ∃ y : Int, y = (v5).fmod 2147483647 := ⟨_, rfl⟩
  have bv6 := fmod_b hv6 (by decide)
  obtain ⟨v7, hv7⟩ : ∃ y : Int, y = v6 * 39373 := ⟨_, rfl⟩
  obtain ⟨v8, hv8⟩ : ∃ y : Int, y = v7 + 7 := ⟨_, rfl⟩
  obtain ⟨v9, hv9⟩ : ∃ y : Int, y = (v8).fmod 2147483647 := ⟨_, rfl⟩
  have bv9 := fmod_b hv9 (by decide)
  obtain ⟨v10, hv10⟩ : ∃ y : Int, y = v9 * v9 := ⟨_, rfl⟩
  obtain ⟨v11, hv11⟩ : ∃ y : Int, y = (v10).fmod 2147483629 := ⟨_, rfl⟩
  have bv11 := fmod_b hv11 (by decide)
  obtain ⟨v12, hv12⟩ : ∃ y : Int, y = (v11).fdiv 32 := ⟨_, rfl⟩
  obtain ⟨v13, hv13⟩ : ∃ y : Int, y = (v12).fmod 8 := ⟨_, rfl⟩
  have bv13 := fmod_b hv13 (by decide)
  obtain ⟨v14, hv14⟩ : ∃ y : Int, y = 8 - v13 := ⟨_, rfl⟩
  have p14 := left_of bv13 hv14
  obtain ⟨v15, hv15⟩ : ∃ y : Int, y = v9 * 39373 := ⟨_, rfl⟩
  obtain ⟨v16, hv16⟩ : ∃ y : Int, y = v15 + 7 := ⟨_, rfl⟩
  obtain ⟨v17, hv17⟩ : ∃ y : Int, y = (v16).fmod 2147483647 := ⟨_, rfl⟩
  have bv17 := fmod_b hv17 (by decide)
  obtain ⟨v18, hv18⟩ : ∃ y : Int, y = v17 * v17 := ⟨_, rfl⟩
  obtain ⟨v19, hv19⟩ : ∃ y : Int, y = (v18).fmod 2147483629 := ⟨_, rfl⟩
  have bv19 := fmod_b hv19 (by decide)
  obtain ⟨v20, hv20⟩ : ∃ y : Int, y = (v19).fdiv 32 := ⟨_, rfl⟩
  obtain ⟨v21, hv21⟩ : ∃ y : Int, y = (v20).fmod v14 := ⟨_, rfl⟩
  have bv21 := fmod_b hv21 p14.1
  obtain ⟨v22, hv22⟩ : ∃ y : Int, y = v13 + v21 := ⟨_, rfl⟩
  have rg := range_of hv14 bv21 hv22
  obtain ⟨v23, hv23⟩ : ∃ y : Int, y = v17 * 39373 := ⟨_, rfl⟩
  obtain ⟨v24, hv24⟩ : ∃ y : Int, y = v23 + 7 := ⟨_, rfl⟩
  obtain ⟨v25, hv25⟩ : ∃ y : Int, y = (v24).fmod 2147483647 := ⟨_, rfl⟩
  have bv25 := fmod_b hv25 (by decide)
  obtain ⟨v26, hv26⟩ : ∃ y : Int, y = v25 * v25 := ⟨_, rfl⟩
  obtain ⟨v27, hv27⟩ : ∃ y : Int, y = (v26).fmod 2147483629 := ⟨_, rfl⟩
  have bv27 := fmod_b hv27 (by decide)
  obtain ⟨v28, hv28⟩ : ∃ y : Int, y = (v27).fdiv 32 := ⟨_, rfl⟩
  obtain ⟨v29, hv29⟩ : ∃ y : Int, y = (v28).fmod 10 := ⟨_, rfl⟩
  have bv29 := fmod_b hv29 (by decide)
  obtain ⟨v30, hv30⟩ : ∃ y : Int, y = v25 * 39373 := ⟨_, rfl⟩
  obtain ⟨v31, hv31⟩ : ∃ y : Int, y = v30 + 7 := ⟨_, rfl⟩
  obtain ⟨v32, hv32⟩ : ∃ y : Int, y = (v31).fmod 2147483647 := ⟨_, rfl⟩
  have bv32 := fmod_b hv32 (by decide)
  obtain ⟨v33, hv33⟩ : ∃ y : Int, y = v32 * v32 := ⟨_, rfl⟩
  obtain ⟨v34, hv34⟩ : ∃ y : Int, y = (v33).fmod 2147483629 := ⟨_, rfl⟩
  have bv34 := fmod_b hv34 (by decide)
  obtain ⟨v35, hv35⟩ : ∃ y : Int, y = (v34).fdiv 32 := ⟨_, rfl⟩
  obtain ⟨v36, hv36⟩ : ∃ y : Int, y = (v35).fmod 8 := ⟨_, rfl⟩
  have bv36 := fmod_b hv36 (by decide)
  obtain ⟨v37, hv37⟩ : ∃ y : Int, y = v32 * 39373 := ⟨_, rfl⟩
  obtain ⟨v38, hv38⟩ : ∃ y : Int, y = v37 + 7 := ⟨_, rfl⟩
  obtain ⟨v39, hv39⟩ : ∃ y : Int, y = (v38).fmod 2147483647 := ⟨_, rfl⟩
  have bv39 := fmod_b hv39 (by decide)
  obtain ⟨v40, hv40⟩ : ∃ y : Int, y = v39 * v39 := ⟨_, rfl⟩
  obtain ⟨v41, hv41⟩ : ∃ y : Int, y = (v40).fmod 2147483629 := ⟨_, rfl⟩
  have bv41 := fmod_b hv41 (by decide)
  obtain ⟨v42, hv42⟩ : ∃ y : Int, y = (v41).fdiv 32 := ⟨_, rfl⟩
  obtain ⟨v43, hv43⟩ : ∃ y : Int, y = (v42).fmod 128 := ⟨_, rfl⟩
  have bv43 := fmod_b hv43 (by decide)
  obtain ⟨v44, hv44⟩ : ∃ y : Int, y = v39 * 39373 := ⟨_, rfl⟩
  obtain ⟨v45, hv45⟩ : ∃ y : Int, y = v44 + 7 := ⟨_, rfl⟩
  obtain ⟨v46, hv46⟩ : ∃ y : Int, y = (v45).fmod 2147483647 := ⟨_, rfl⟩
  have bv46 := fmod_b hv46 (by decide)
  obtain ⟨v47, hv47⟩ : ∃ y : Int, y = v46 * v46 := ⟨_, rfl⟩
  obtain ⟨v48, hv48⟩ : ∃ y : Int, y = (v47).fmod 2147483629 := ⟨_, rfl⟩
  have bv48 := fmod_b hv48 (by decide)
  obtain ⟨v49, hv49⟩ : ∃ y : Int, y = (v48).fdiv 32 := ⟨_, rfl⟩
  obtain ⟨v50, hv50⟩ : ∃ y : Int, y = (v49).fmod 128 := ⟨_, rfl⟩
  have bv50 := fmod_b hv50 (by decide)
  obtain ⟨v51, hv51⟩ : ∃ y : Int, y = 128 + v50 := ⟨_, rfl⟩
  have mk := mask_of bv43 bv50 hv51
  exact k v1 v2 v3 v4 v5 v6 v7 v8 v9 v10 v11 v12 v13 v14 v15 v16 v17 v18 v19 v20 v21 v22 v23 v24 v25 v26 v27 v28 v29 v30 v31 v32 v33 v34 v35 v36 v37 v38 v39 v40 v41 v42 v43 v44 v45 v46 v47 v48 v49 v50 v51 fun u0 u1 u2 u3 u4 u5 σ => ⟨nq_mod hv1 (by decide), ⟨nq_add hv2, ⟨nq_add hv3, ⟨nq_add hv4, ⟨nq_mulR hv5 (by decide), ⟨nq_mod hv6 (by decide), ok_no (Int.not_le.mpr h1) (⟨nq_mulR (Int.mul_zero _).symm (by decide), ⟨nq_mulR hv7 (by decide), ⟨nq_add hv8, ⟨nq_mod hv9 (by decide), ⟨nq_mulR hv10 bv9, ⟨nq_mod hv11 (by decide), ⟨nq_div hv12 (by decide) (by decide), ⟨nq_mod hv13 (by decide), ⟨nq_sub hv14, ⟨nq_mulR hv15 (by decide), ⟨nq_add hv16, ⟨nq_mod hv17 (by decide), ⟨nq_mulR hv18 bv17, ⟨nq_mod hv19 (by decide), ⟨nq_div hv20 (by decide) (by decide), ⟨nq_mod hv21 p14.1, ⟨nq_add hv22, ⟨nq_mulR hv23 (by decide), ⟨nq_add hv24, ⟨nq_mod hv25 (by decide), ⟨nq_mulR hv26 bv25, ⟨nq_mod hv27 (by decide), ⟨nq_div hv28 (by decide) (by decide), ⟨nq_mod hv29 (by decide), ⟨segW_all O st bv29.1 bv29.2 bv13.1 rg.1 rg.2, ⟨segP_of O _ st.p bv13.1 (Int.le_of_lt_add_one bv13.2), ⟨nq_mulR hv30 (by decide), ⟨nq_add hv31, ⟨nq_mod hv32 (by decide), ⟨nq_mulR hv33 bv32, ⟨nq_mod hv34 (by decide), ⟨nq_div hv35 (by decide) (by decide), ⟨nq_mod hv36 (by decide), ⟨segA_of O _ st.a bv36.1 (Int.le_of_lt_add_one bv36.2), ⟨nq_mulR hv37 (by decide), ⟨nq_add hv38, ⟨nq_mod hv39 (by decide), ⟨nq_mulR hv40 bv39, ⟨nq_mod hv41 (by decide), ⟨nq_div hv42 (by decide) (by decide), ⟨nq_mod hv43 (by decide), ⟨nq_mulR hv44 (by decide), ⟨nq_add hv45, ⟨nq_mod hv46 (by decide), ⟨nq_mulR hv47 bv46, ⟨nq_mod hv48 (by decide), ⟨nq_div hv49 (by decide) (by decide), ⟨nq_mod hv50 (by decide), ⟨nq_add hv51, ⟨segM_of O st.m bv43.1 mk.1 mk.2, rfl⟩⟩⟩⟩⟩⟩⟩⟩⟩⟩⟩⟩⟩⟩⟩⟩⟩⟩⟩⟩⟩⟩⟩⟩⟩⟩⟩⟩⟩⟩⟩⟩⟩⟩⟩⟩⟩⟩⟩⟩⟩⟩⟩⟩⟩⟩⟩⟩⟩⟩)⟩⟩⟩⟩⟩⟩

def hTC (c v1 v2 v3 v4 v5 v6 v7 v8 v9 v10 v11 v12 v13 v14 v15 v16 v17 v18 v19 v20 v21 : Int) : List Hint := [.num 30 v1, .num 36 v2, .num 40 v3, .num 42 v4, .num 44 v5, .num 46 v6, .bit 50 true, .num 60 c, .bit 66 true, .num 70 v7, .num 74 v8, .num 78 v9, .bit 84 true, .num 88 v10, .num 92 v11, .num 96 v12, .bit 102 true, .num 106 v13, .num 110 v14, .seg 113 0 5 sl1 [] (F35) 268 ch1, .seg 114 0 0 sl1 [35] (fun _ => []) 447 ch1, .bit 120 true, .num 124 v15, .num 128 v16, .seg 131 0 0 sl1 [35] (fun _ => []) 1108 ch2, .bit 137 true, .num 141 v17, .num 145 v18, .bit 153 true, .num 157 v19, .num 161 v20, .num 165 v21, .seg 166 0 0 sl1 [] (fun _ => []) 1313 ch3]
noncomputable def oTC (kt : KT) (u0 u1 u2 u3 u4 u5 : Tok) (σ : Nat → Tok) (c v1 v2 v3 v4 v5 v6 v7 v8 v9 v10 v11 v12 v13 v14 v15 v16 v17 v18 v19 v20 v21 : Int) : Out := .num (code "int.__mod__") c 2147483629 v1  <| .num (code "int.__add__") v1 0 v2  <| .num (code "int.__add__") v2 0 v3  <| .num (code "int.__add__") v3 17 v4  <| .num (code "int.__mul__") v4 48271 v5  <| .num (code "int.__mod__") v5 2147483647 v6  <| .bit (decide (1000000000000000000 ≤ c)) true  <| .num (code "int.__mul__") c 1 c  <| .bit (decide (0 < c)) true  <| .num (code "int.__mod__") c 8 v7  <| .num (code "int.__floordiv__") c 8 v8  <| .num (code "int.__sub__") 8 v7 v9  <| .bit (decide (0 < v8)) true  <| .num (code "int.__mod__") v8 v9 v10  <| .num (code "int.__floordiv__") v8 v9 v11  <| .num (code "int.__add__") v7 v10 v12  <| .bit (decide (0 < v11)) true  <| .num (code "int.__mod__") v11 10 v13  <| .num (code "int.__floordiv__") v11 10 v14  <| .seg (inLaw kt (.call (.ref 279) ⟨[.int v13 u0, .int v7 u1, .int v12 u2], []⟩) ⟨202, 11, 202, 62⟩) ⟨202, 11, 202, 62⟩ 0 (.type "frame") none sl0 sl1 [] 5 (F35) 11 268 [] ch1  <| .seg (inLaw kt (.call (.ref 286) ⟨[.int v7 u1], []⟩) ⟨202, 70, 202, 92⟩) ⟨202, 70, 202, 92⟩ 0 (.type "frame") none sl1 sl1 [(35, obj35 (cutTok 5 σ))] 0 (fun _ => []) 268 447 ch1 ch1  <| .bit (decide (0 < v14)) true  <| .num (code "int.__mod__") v14 8 v15  <| .num (code "int.__floordiv__") v14 8 v16  <| .seg (inLaw kt (.call (.ref 293) ⟨[.int v15 u3], []⟩) ⟨204, 11, 204, 51⟩) ⟨204, 11, 204, 51⟩ 0 (.type "frame") none sl1 sl1 [(35, obj35 (cutTok 5 σ))] 0 (fun _ => []) 448 1108 ch1 ch2  <| .bit (decide (0 < v16)) true  <| .num (code "int.__mod__") v16 128 v17  <| .num (code "int.__floordiv__") v16 128 v18  <| .bit (decide (0 < v18)) true  <| .num (code "int.__mod__") v18 128 v19  <| .num (code "int.__floordiv__") v18 128 v20  <| .num (code "int.__add__") 128 v19 v21  <| .seg (inLaw kt (.call (.ref 300) ⟨[.int v17 u4, .int v21 u5], []⟩) ⟨206, 11, 206, 81⟩) ⟨206, 11, 206, 81⟩ 0 (.type "frame") none sl1 sl1 [] 0 (fun _ => []) 1110 1313 ch2 ch3  <| .fin (.ok (.ret (.bool true))) (some []) 1313 ch3
theorem tC (O : (baseOf prog w h₀ kt g d os).Ok) (st : Steps prog w kt) {c : Int} (h1 : 1000000000000000000 ≤ c) {P : Prop}
    (k : ∀ v1 v2 v3 v4 v5 v6 v7 v8 v9 v10 v11 v12 v13 v14 v15 v16 v17 v18 v19 v20 v21 : Int, (∀ u0 u1 u2 u3 u4 u5 σ, (oTC kt u0 u1 u2 u3 u4 u5 σ c v1 v2 v3 v4 v5 v6 v7 v8 v9 v10 v11 v12 v13 v14 v15 v16 v17 v18 v19 v20 v21).Ok (baseOf prog w h₀ kt g d os) (fun r _ _ _ => r = .ok (.ret (.bool true)))) → P) : P := by
  obtain ⟨v1, hv1⟩ : ∃ y : Int, y = (c).fmod 2147483629 := ⟨_, rfl⟩
  have bv1 := fmod_b hv1 (by decide)
  obtain ⟨v2, hv2⟩ : ∃ y : Int, y = v1 + 0 := ⟨_, rfl⟩
  obtain ⟨v3, hv3⟩ : ∃ y : Int, y = v2 + 0 := ⟨_, rfl⟩
  obtain ⟨v4, hv4⟩ : ∃ y : Int, y = v3 + 17 := ⟨_, rfl⟩
  obtain ⟨v5, hv5⟩ : ∃ y : Int, y = v4 * 48271 := ⟨_, rfl⟩
  obtain ⟨v6, hv6⟩ : ∃ y : Int, y = (v5).fmod 2147483647 := ⟨_, rfl⟩
  have bv6 := fmod_b hv6 (by decide)
  obtain ⟨v7, hv7⟩ : ∃ y : Int, y = (c).fmod 8 := ⟨_, rfl⟩
  have bv7 := fmod_b hv7 (by decide)
  obtain ⟨v8, hv8⟩ : ∃ y : Int, y = (c).fdiv 8 := ⟨_, rfl⟩
  have bv8 := fdiv_ge 125000000000000000 8 hv8 (by decide) (by decide) (by decide) (Int.le_trans (by decide) h1)
  obtain ⟨v9, hv9⟩ : ∃ y : Int, y = 8 - v7 := ⟨_, rfl⟩
  have p9 := left_of bv7 hv9
  obtain ⟨v10, hv10⟩ : ∃ y : Int, y = (v8).fmod v9 := ⟨_, rfl⟩
  have bv10 := fmod_b hv10 p9.1
  obtain ⟨v11, hv11⟩ : ∃ y : Int, y = (v8).fdiv v9 := ⟨_, rfl⟩
  have bv11 := fdiv_ge 15625000000000000 8 hv11 p9.1 p9.2 (by decide) (Int.le_trans (by decide) bv8)
  obtain ⟨v12, hv12⟩ : ∃ y : Int, y = v7 + v10 := ⟨_, rfl⟩
  have rg := range_of hv9 bv10 hv12
  obtain ⟨v13, hv13⟩ : ∃ y : Int, y = (v11).fmod 10 := ⟨_, rfl⟩
  have bv13 := fmod_b hv13 (by decide)
  obtain ⟨v14, hv14⟩ : ∃ y : Int, y = (v11).fdiv 10 := ⟨_, rfl⟩
  have bv14 := fdiv_ge 1562500000000000 10 hv14 (by decide) (by decide) (by decide) (Int.le_trans (by decide) bv11)
  obtain ⟨v15, hv15⟩ : ∃ y : Int, y = (v14).fmod 8 := ⟨_, rfl⟩
  have bv15 := fmod_b hv15 (by decide)
  obtain ⟨v16, hv16⟩ : ∃ y : Int, y = (v14).fdiv 8 := ⟨_, rfl⟩
  have bv16 := fdiv_ge 195312500000000 8 hv16 (by decide) (by decide) (by decide) (Int.le_trans (by decide) bv14)
  obtain ⟨v17, hv17⟩ : ∃ y : Int, y = (v16).fmod 128 := ⟨_, rfl⟩
  have bv17 := fmod_b hv17 (by decide)
  obtain ⟨v18, hv18⟩ : ∃ y : Int, y = (v16).fdiv 128 := ⟨_, rfl⟩
  have bv18 := fdiv_ge 1525878906250 128 hv18 (by decide) (by decide) (by decide) (Int.le_trans (by decide) bv16)
  obtain ⟨v19, hv19⟩ : ∃ y : Int, y = (v18).fmod 128 := ⟨_, rfl⟩
  have bv19 := fmod_b hv19 (by decide)
  obtain ⟨v20, hv20⟩ : ∃ y : Int, y = (v18).fdiv 128 := ⟨_, rfl⟩
  obtain ⟨v21, hv21⟩ : ∃ y : Int, y = 128 + v19 := ⟨_, rfl⟩
  have mk := mask_of bv17 bv19 hv21
  exact k v1 v2 v3 v4 v5 v6 v7 v8 v9 v10 v11 v12 v13 v14 v15 v16 v17 v18 v19 v20 v21 fun u0 u1 u2 u3 u4 u5 σ => ⟨nq_mod hv1 (by decide), ⟨nq_add hv2, ⟨nq_add hv3, ⟨nq_add hv4, ⟨nq_mulR hv5 (by decide), ⟨nq_mod hv6 (by decide), ok_bit h1 (⟨nq_mulR (Int.mul_one _).symm (by decide), ok_bit (Int.lt_of_lt_of_le (by decide) h1) (⟨nq_mod hv7 (by decide), ⟨nq_div hv8 (by decide) (by decide), ⟨nq_sub hv9, ok_bit (Int.lt_of_lt_of_le (by decide) bv8) (⟨nq_mod hv10 p9.1, ⟨nq_div hv11 p9.1 (Int.le_trans p9.2 (by decide)), ⟨nq_add hv12, ok_bit (Int.lt_of_lt_of_le (by decide) bv11) (⟨nq_mod hv13 (by decide), ⟨nq_div hv14 (by decide) (by decide), ⟨segW_all O st bv13.1 bv13.2 bv7.1 rg.1 rg.2, ⟨segP_of O _ st.p bv7.1 (Int.le_of_lt_add_one bv7.2), ok_bit (Int.lt_of_lt_of_le (by decide) bv14) (⟨nq_mod hv15 (by decide), ⟨nq_div hv16 (by decide) (by decide), ⟨segA_of O _ st.a bv15.1 (Int.le_of_lt_add_one bv15.2), ok_bit (Int.lt_of_lt_of_le (by decide) bv16) (⟨nq_mod hv17 (by decide), ⟨nq_div hv18 (by decide) (by decide), ok_bit (Int.lt_of_lt_of_le (by decide) bv18) (⟨nq_mod hv19 (by decide), ⟨nq_div hv20 (by decide) (by decide), ⟨nq_add hv21, ⟨segM_of O st.m bv17.1 mk.1 mk.2, rfl⟩⟩⟩⟩)⟩⟩)⟩⟩⟩)⟩⟩⟩⟩)⟩⟩⟩)⟩⟩⟩)⟩)⟩⟩⟩⟩⟩⟩

end

noncomputable def hLa0 (x : Int) (v0 v1 v2 v3 v4 v5 v6 v7 v8 v9 v10 v11 v12 v13 v14 v15 v16 v17 v18 v19 v20 v21 v22 v23 v24 v25 v26 v27 v28 v29 v30 v31 v32 v33 v34 v35 v36 v37 v38 v39 v40 v41 v42 v43 v44 v45 v46 v47 v48 v49 v50 v51 : Int) : List Hint := .len 5 :: .bit 7 true :: .num 13 v0 :: .bit 25 false :: hTA x v1 v2 v3 v4 v5 v6 v7 v8 v9 v10 v11 v12 v13 v14 v15 v16 v17 v18 v19 v20 v21 v22 v23 v24 v25 v26 v27 v28 v29 v30 v31 v32 v33 v34 v35 v36 v37 v38 v39 v40 v41 v42 v43 v44 v45 v46 v47 v48 v49 v50 v51
noncomputable def outLa0 (kt : KT) (τ : Nat → Tok) (x : Int) (r : List Value) (v0 v1 v2 v3 v4 v5 v6 v7 v8 v9 v10 v11 v12 v13 v14 v15 v16 v17 v18 v19 v20 v21 v22 v23 v24 v25 v26 v27 v28 v29 v30 v31 v32 v33 v34 v35 v36 v37 v38 v39 v40 v41 v42 v43 v44 v45 v46 v47 v48 v49 v50 v51 : Int) : Out := .bit (Nat.blt (List.length r + 1) 4096) true  <| .bit (decide ((0 : Int) < ((List.length r + 1 : Nat) : Int))) true  <| .num (code "int.__sub__") (-1) x v0  <| .bit (decide (x < v0)) false  <| oTA kt (τ 98) (τ 52) (τ 76) (τ 124) (τ 145) (τ 168) (fun i => τ (99 + i)) x v1 v2 v3 v4 v5 v6 v7 v8 v9 v10 v11 v12 v13 v14 v15 v16 v17 v18 v19 v20 v21 v22 v23 v24 v25 v26 v27 v28 v29 v30 v31 v32 v33 v34 v35 v36 v37 v38 v39 v40 v41 v42 v43 v44 v45 v46 v47 v48 v49 v50 v51
def EqLa0 (prog : Program) (w : World) (kt : KT) (x : Int) (r : List Value) : Prop := ∀ (v0 v1 v2 v3 v4 v5 v6 v7 v8 v9 v10 v11 v12 v13 v14 v15 v16 v17 v18 v19 v20 v21 v22 v23 v24 v25 v26 v27 v28 v29 v30 v31 v32 v33 v34 v35 v36 v37 v38 v39 v40 v41 v42 v43 v44 v45 v46 v47 v48 v49 v50 v51 : Int) (τ : Nat → Tok) (h₀ : Heap) (g : Array GenState) (d : Drawn) (os : OsState),
  mainRun prog w kt τ 4000 (hLa0 x v0 v1 v2 v3 v4 v5 v6 v7 v8 v9 v10 v11 v12 v13 v14 v15 v16 v17 v18 v19 v20 v21 v22 v23 v24 v25 v26 v27 v28 v29 v30 v31 v32 v33 v34 v35 v36 v37 v38 v39 v40 v41 v42 v43 v44 v45 v46 v47 v48 v49 v50 v51) h₀ g d os = outLa0 kt τ x r v0 v1 v2 v3 v4 v5 v6 v7 v8 v9 v10 v11 v12 v13 v14 v15 v16 v17 v18 v19 v20 v21 v22 v23 v24 v25 v26 v27 v28 v29 v30 v31 v32 v33 v34 v35 v36 v37 v38 v39 v40 v41 v42 v43 v44 v45 v46 v47 v48 v49 v50 v51
theorem okLa0 {prog : Program} {w : World} {h₀ : Heap} {kt : KT} {g : Array GenState} {d : Drawn} {os : OsState} (O : (baseOf prog w h₀ kt g d os).Ok) (st : Steps prog w kt) {x : Int} {r : List Value} (E : EqLa0 prog w kt x r) (hlen : Nat.blt (List.length r + 1) 4096 = true) (c1 : 0 ≤ x) (c2 : x < 1000000000000000000) :
    ∃ hs, ∀ τ, (mainRun prog w kt τ 4000 hs h₀ g d os).Ok (baseOf prog w h₀ kt g d os) (fun r _ _ _ => r = .ok (.ret (.bool true))) :=
  tA O st (c := x) c2 fun v1 v2 v3 v4 v5 v6 v7 v8 v9 v10 v11 v12 v13 v14 v15 v16 v17 v18 v19 v20 v21 v22 v23 v24 v25 v26 v27 v28 v29 v30 v31 v32 v33 v34 v35 v36 v37 v38 v39 v40 v41 v42 v43 v44 v45 v46 v47 v48 v49 v50 v51 H => ⟨hLa0 x (-1 - x) v1 v2 v3 v4 v5 v6 v7 v8 v9 v10 v11 v12 v13 v14 v15 v16 v17 v18 v19 v20 v21 v22 v23 v24 v25 v26 v27 v28 v29 v30 v31 v32 v33 v34 v35 v36 v37 v38 v39 v40 v41 v42 v43 v44 v45 v46 v47 v48 v49 v50 v51, fun τ => by
    rw [E (-1 - x) v1 v2 v3 v4 v5 v6 v7 v8 v9 v10 v11 v12 v13 v14 v15 v16 v17 v18 v19 v20 v21 v22 v23 v24 v25 v26 v27 v28 v29 v30 v31 v32 v33 v34 v35 v36 v37 v38 v39 v40 v41 v42 v43 v44 v45 v46 v47 v48 v49 v50 v51 τ h₀ g d os]
    exact ⟨hlen, ok_bit (len_pos _) (⟨nq_sub rfl, ok_no (by omega) (H _ _ _ _ _ _ _)⟩)⟩⟩

noncomputable def hLa1 (x : Int) (v0 v1 v2 v3 v4 v5 v6 v7 v8 v9 v10 v11 v12 v13 v14 v15 v16 v17 v18 v19 v20 v21 v22 v23 v24 v25 v26 v27 v28 v29 v30 v31 v32 v33 v34 v35 v36 v37 v38 v39 v40 v41 v42 v43 v44 v45 v46 v47 v48 v49 v50 v51 : Int) : List Hint := .len 5 :: .bit 7 true :: .num 13 v0 :: .bit 25 true :: hTA v0 v1 v2 v3 v4 v5 v6 v7 v8 v9 v10 v11 v12 v13 v14 v15 v16 v17 v18 v19 v20 v21 v22 v23 v24 v25 v26 v27 v28 v29 v30 v31 v32 v33 v34 v35 v36 v37 v38 v39 v40 v41 v42 v43 v44 v45 v46 v47 v48 v49 v50 v51
noncomputable def outLa1 (kt : KT) (τ : Nat → Tok) (x : Int) (r : List Value) (v0 v1 v2 v3 v4 v5 v6 v7 v8 v9 v10 v11 v12 v13 v14 v15 v16 v17 v18 v19 v20 v21 v22 v23 v24 v25 v26 v27 v28 v29 v30 v31 v32 v33 v34 v35 v36 v37 v38 v39 v40 v41 v42 v43 v44 v45 v46 v47 v48 v49 v50 v51 : Int) : Out := .bit (Nat.blt (List.length r + 1) 4096) true  <| .bit (decide ((0 : Int) < ((List.length r + 1 : Nat) : Int))) true  <| .num (code "int.__sub__") (-1) x v0  <| .bit (decide (x < v0)) true  <| oTA kt (τ 98) (τ 52) (τ 76) (τ 124) (τ 145) (τ 168) (fun i => τ (99 + i)) v0 v1 v2 v3 v4 v5 v6 v7 v8 v9 v10 v11 v12 v13 v14 v15 v16 v17 v18 v19 v20 v21 v22 v23 v24 v25 v26 v27 v28 v29 v30 v31 v32 v33 v34 v35 v36 v37 v38 v39 v40 v41 v42 v43 v44 v45 v46 v47 v48 v49 v50 v51
def EqLa1 (prog : Program) (w : World) (kt : KT) (x : Int) (r : List Value) : Prop := ∀ (v0 v1 v2 v3 v4 v5 v6 v7 v8 v9 v10 v11 v12 v13 v14 v15 v16 v17 v18 v19 v20 v21 v22 v23 v24 v25 v26 v27 v28 v29 v30 v31 v32 v33 v34 v35 v36 v37 v38 v39 v40 v41 v42 v43 v44 v45 v46 v47 v48 v49 v50 v51 : Int) (τ : Nat → Tok) (h₀ : Heap) (g : Array GenState) (d : Drawn) (os : OsState),
  mainRun prog w kt τ 4000 (hLa1 x v0 v1 v2 v3 v4 v5 v6 v7 v8 v9 v10 v11 v12 v13 v14 v15 v16 v17 v18 v19 v20 v21 v22 v23 v24 v25 v26 v27 v28 v29 v30 v31 v32 v33 v34 v35 v36 v37 v38 v39 v40 v41 v42 v43 v44 v45 v46 v47 v48 v49 v50 v51) h₀ g d os = outLa1 kt τ x r v0 v1 v2 v3 v4 v5 v6 v7 v8 v9 v10 v11 v12 v13 v14 v15 v16 v17 v18 v19 v20 v21 v22 v23 v24 v25 v26 v27 v28 v29 v30 v31 v32 v33 v34 v35 v36 v37 v38 v39 v40 v41 v42 v43 v44 v45 v46 v47 v48 v49 v50 v51
theorem okLa1 {prog : Program} {w : World} {h₀ : Heap} {kt : KT} {g : Array GenState} {d : Drawn} {os : OsState} (O : (baseOf prog w h₀ kt g d os).Ok) (st : Steps prog w kt) {x : Int} {r : List Value} (E : EqLa1 prog w kt x r) (hlen : Nat.blt (List.length r + 1) 4096 = true) (c1 : x < 0) (c2 : -1 - x < 1000000000000000000) :
    ∃ hs, ∀ τ, (mainRun prog w kt τ 4000 hs h₀ g d os).Ok (baseOf prog w h₀ kt g d os) (fun r _ _ _ => r = .ok (.ret (.bool true))) :=
  tA O st (c := (-1 - x)) c2 fun v1 v2 v3 v4 v5 v6 v7 v8 v9 v10 v11 v12 v13 v14 v15 v16 v17 v18 v19 v20 v21 v22 v23 v24 v25 v26 v27 v28 v29 v30 v31 v32 v33 v34 v35 v36 v37 v38 v39 v40 v41 v42 v43 v44 v45 v46 v47 v48 v49 v50 v51 H => ⟨hLa1 x (-1 - x) v1 v2 v3 v4 v5 v6 v7 v8 v9 v10 v11 v12 v13 v14 v15 v16 v17 v18 v19 v20 v21 v22 v23 v24 v25 v26 v27 v28 v29 v30 v31 v32 v33 v34 v35 v36 v37 v38 v39 v40 v41 v42 v43 v44 v45 v46 v47 v48 v49 v50 v51, fun τ => by
    rw [E (-1 - x) v1 v2 v3 v4 v5 v6 v7 v8 v9 v10 v11 v12 v13 v14 v15 v16 v17 v18 v19 v20 v21 v22 v23 v24 v25 v26 v27 v28 v29 v30 v31 v32 v33 v34 v35 v36 v37 v38 v39 v40 v41 v42 v43 v44 v45 v46 v47 v48 v49 v50 v51 τ h₀ g d os]
    exact ⟨hlen, ok_bit (len_pos _) (⟨nq_sub rfl, ok_bit (by omega) (H _ _ _ _ _ _ _)⟩)⟩⟩

noncomputable def hLc0 (x : Int) (v0 v1 v2 v3 v4 v5 v6 v7 v8 v9 v10 v11 v12 v13 v14 v15 v16 v17 v18 v19 v20 v21 : Int) : List Hint := .len 5 :: .bit 7 true :: .num 13 v0 :: .bit 25 false :: hTC x v1 v2 v3 v4 v5 v6 v7 v8 v9 v10 v11 v12 v13 v14 v15 v16 v17 v18 v19 v20 v21
noncomputable def outLc0 (kt : KT) (τ : Nat → Tok) (x : Int) (r : List Value) (v0 v1 v2 v3 v4 v5 v6 v7 v8 v9 v10 v11 v12 v13 v14 v15 v16 v17 v18 v19 v20 v21 : Int) : Out := .bit (Nat.blt (List.length r + 1) 4096) true  <| .bit (decide ((0 : Int) < ((List.length r + 1 : Nat) : Int))) true  <| .num (code "int.__sub__") (-1) x v0  <| .bit (decide (x < v0)) false  <| oTC kt (τ 64) (τ 38) (τ 56) (τ 80) (τ 91) (τ 108) (fun i => τ (69 + i)) x v1 v2 v3 v4 v5 v6 v7 v8 v9 v10 v11 v12 v13 v14 v15 v16 v17 v18 v19 v20 v21
def EqLc0 (prog : Program) (w : World) (kt : KT) (x : Int) (r : List Value) : Prop := ∀ (v0 v1 v2 v3 v4 v5 v6 v7 v8 v9 v10 v11 v12 v13 v14 v15 v16 v17 v18 v19 v20 v21 : Int) (τ : Nat → Tok) (h₀ : Heap) (g : Array GenState) (d : Drawn) (os : OsState),
  mainRun prog w kt τ 4000 (hLc0 x v0 v1 v2 v3 v4 v5 v6 v7 v8 v9 v10 v11 v12 v13 v14 v15 v16 v17 v18 v19 v20 v21) h₀ g d os = outLc0 kt τ x r v0 v1 v2 v3 v4 v5 v6 v7 v8 v9 v10 v11 v12 v13 v14 v15 v16 v17 v18 v19 v20 v21
theorem okLc0 {prog : Program} {w : World} {h₀ : Heap} {kt : KT} {g : Array GenState} {d : Drawn} {os : OsState} (O : (baseOf prog w h₀ kt g d os).Ok) (st : Steps prog w kt) {x : Int} {r : List Value} (E : EqLc0 prog w kt x r) (hlen : Nat.blt (List.length r + 1) 4096 = true) (c1 : 0 ≤ x) (c2 : 1000000000000000000 ≤ x) :
    ∃ hs, ∀ τ, (mainRun prog w kt τ 4000 hs h₀ g d os).Ok (baseOf prog w h₀ kt g d os) (fun r _ _ _ => r = .ok (.ret (.bool true))) :=
  tC O st (c := x) c2 fun v1 v2 v3 v4 v5 v6 v7 v8 v9 v10 v11 v12 v13 v14 v15 v16 v17 v18 v19 v20 v21 H => ⟨hLc0 x (-1 - x) v1 v2 v3 v4 v5 v6 v7 v8 v9 v10 v11 v12 v13 v14 v15 v16 v17 v18 v19 v20 v21, fun τ => by
    rw [E (-1 - x) v1 v2 v3 v4 v5 v6 v7 v8 v9 v10 v11 v12 v13 v14 v15 v16 v17 v18 v19 v20 v21 τ h₀ g d os]
    exact ⟨hlen, ok_bit (len_pos _) (⟨nq_sub rfl, ok_no (by omega) (H _ _ _ _ _ _ _)⟩)⟩⟩

noncomputable def hLc1 (x : Int) (v0 v1 v2 v3 v4 v5 v6 v7 v8 v9 v10 v11 v12 v13 v14 v15 v16 v17 v18 v19 v20 v21 : Int) : List Hint := .len 5 :: .bit 7 true :: .num 13 v0 :: .bit 25 true :: hTC v0 v1 v2 v3 v4 v5 v6 v7 v8 v9 v10 v11 v12 v13 v14 v15 v16 v17 v18 v19 v20 v21
noncomputable def outLc1 (kt : KT) (τ : Nat → Tok) (x : Int) (r : List Value) (v0 v1 v2 v3 v4 v5 v6 v7 v8 v9 v10 v11 v12 v13 v14 v15 v16 v17 v18 v19 v20 v21 : Int) : Out := .bit (Nat.blt (List.length r + 1) 4096) true  <| .bit (decide ((0 : Int) < ((List.length r + 1 : Nat) : Int))) true  <| .num (code "int.__sub__") (-1) x v0  <| .bit (decide (x < v0)) true  <| oTC kt (τ 64) (τ 38) (τ 56) (τ 80) (τ 91) (τ 108) (fun i => τ (69 + i)) v0 v1 v2 v3 v4 v5 v6 v7 v8 v9 v10 v11 v12 v13 v14 v15 v16 v17 v18 v19 v20 v21
def EqLc1 (prog : Program) (w : World) (kt : KT) (x : Int) (r : List Value) : Prop := ∀ (v0 v1 v2 v3 v4 v5 v6 v7 v8 v9 v10 v11 v12 v13 v14 v15 v16 v17 v18 v19 v20 v21 : Int) (τ : Nat → Tok) (h₀ : Heap) (g : Array GenState) (d : Drawn) (os : OsState),
  mainRun prog w kt τ 4000 (hLc1 x v0 v1 v2 v3 v4 v5 v6 v7 v8 v9 v10 v11 v12 v13 v14 v15 v16 v17 v18 v19 v20 v21) h₀ g d os = outLc1 kt τ x r v0 v1 v2 v3 v4 v5 v6 v7 v8 v9 v10 v11 v12 v13 v14 v15 v16 v17 v18 v19 v20 v21
theorem okLc1 {prog : Program} {w : World} {h₀ : Heap} {kt : KT} {g : Array GenState} {d : Drawn} {os : OsState} (O : (baseOf prog w h₀ kt g d os).Ok) (st : Steps prog w kt) {x : Int} {r : List Value} (E : EqLc1 prog w kt x r) (hlen : Nat.blt (List.length r + 1) 4096 = true) (c1 : x < 0) (c2 : 1000000000000000000 ≤ -1 - x) :
    ∃ hs, ∀ τ, (mainRun prog w kt τ 4000 hs h₀ g d os).Ok (baseOf prog w h₀ kt g d os) (fun r _ _ _ => r = .ok (.ret (.bool true))) :=
  tC O st (c := (-1 - x)) c2 fun v1 v2 v3 v4 v5 v6 v7 v8 v9 v10 v11 v12 v13 v14 v15 v16 v17 v18 v19 v20 v21 H => ⟨hLc1 x (-1 - x) v1 v2 v3 v4 v5 v6 v7 v8 v9 v10 v11 v12 v13 v14 v15 v16 v17 v18 v19 v20 v21, fun τ => by
    rw [E (-1 - x) v1 v2 v3 v4 v5 v6 v7 v8 v9 v10 v11 v12 v13 v14 v15 v16 v17 v18 v19 v20 v21 τ h₀ g d os]
    exact ⟨hlen, ok_bit (len_pos _) (⟨nq_sub rfl, ok_bit (by omega) (H _ _ _ _ _ _ _)⟩)⟩⟩

noncomputable def hLb (v0 v1 v2 v3 v4 v5 v6 v7 v8 v9 v10 v11 v12 v13 v14 v15 v16 v17 v18 v19 v20 v21 v22 v23 v24 v25 v26 v27 v28 v29 v30 v31 v32 v33 v34 v35 v36 v37 v38 v39 v40 v41 v42 v43 v44 v45 v46 v47 v48 v49 v50 v51 : Int) : List Hint := .num 13 v0 :: .bit 25 false :: hTA (0 : Int) v1 v2 v3 v4 v5 v6 v7 v8 v9 v10 v11 v12 v13 v14 v15 v16 v17 v18 v19 v20 v21 v22 v23 v24 v25 v26 v27 v28 v29 v30 v31 v32 v33 v34 v35 v36 v37 v38 v39 v40 v41 v42 v43 v44 v45 v46 v47 v48 v49 v50 v51
noncomputable def outLb (kt : KT) (τ : Nat → Tok) (v0 v1 v2 v3 v4 v5 v6 v7 v8 v9 v10 v11 v12 v13 v14 v15 v16 v17 v18 v19 v20 v21 v22 v23 v24 v25 v26 v27 v28 v29 v30 v31 v32 v33 v34 v35 v36 v37 v38 v39 v40 v41 v42 v43 v44 v45 v46 v47 v48 v49 v50 v51 : Int) : Out := .num (code "int.__sub__") (-1) (0 : Int) v0  <| .bit (decide ((0 : Int) < v0)) false  <| oTA kt (τ 100) (τ 54) (τ 78) (τ 126) (τ 147) (τ 170) (fun i => τ (101 + i)) (0 : Int) v1 v2 v3 v4 v5 v6 v7 v8 v9 v10 v11 v12 v13 v14 v15 v16 v17 v18 v19 v20 v21 v22 v23 v24 v25 v26 v27 v28 v29 v30 v31 v32 v33 v34 v35 v36 v37 v38 v39 v40 v41 v42 v43 v44 v45 v46 v47 v48 v49 v50 v51
def EqLb (prog : Program) (w : World) (kt : KT) : Prop := ∀ (v0 v1 v2 v3 v4 v5 v6 v7 v8 v9 v10 v11 v12 v13 v14 v15 v16 v17 v18 v19 v20 v21 v22 v23 v24 v25 v26 v27 v28 v29 v30 v31 v32 v33 v34 v35 v36 v37 v38 v39 v40 v41 v42 v43 v44 v45 v46 v47 v48 v49 v50 v51 : Int) (τ : Nat → Tok) (h₀ : Heap) (g : Array GenState) (d : Drawn) (os : OsState),
  mainRun prog w kt τ 4000 (hLb v0 v1 v2 v3 v4 v5 v6 v7 v8 v9 v10 v11 v12 v13 v14 v15 v16 v17 v18 v19 v20 v21 v22 v23 v24 v25 v26 v27 v28 v29 v30 v31 v32 v33 v34 v35 v36 v37 v38 v39 v40 v41 v42 v43 v44 v45 v46 v47 v48 v49 v50 v51) h₀ g d os = outLb kt τ v0 v1 v2 v3 v4 v5 v6 v7 v8 v9 v10 v11 v12 v13 v14 v15 v16 v17 v18 v19 v20 v21 v22 v23 v24 v25 v26 v27 v28 v29 v30 v31 v32 v33 v34 v35 v36 v37 v38 v39 v40 v41 v42 v43 v44 v45 v46 v47 v48 v49 v50 v51
theorem okLb {prog : Program} {w : World} {h₀ : Heap} {kt : KT} {g : Array GenState} {d : Drawn} {os : OsState} (O : (baseOf prog w h₀ kt g d os).Ok) (st : Steps prog w kt) (E : EqLb prog w kt)  :
    ∃ hs, ∀ τ, (mainRun prog w kt τ 4000 hs h₀ g d os).Ok (baseOf prog w h₀ kt g d os) (fun r _ _ _ => r = .ok (.ret (.bool true))) :=
  tA O st (c := 0) (by decide) fun v1 v2 v3 v4 v5 v6 v7 v8 v9 v10 v11 v12 v13 v14 v15 v16 v17 v18 v19 v20 v21 v22 v23 v24 v25 v26 v27 v28 v29 v30 v31 v32 v33 v34 v35 v36 v37 v38 v39 v40 v41 v42 v43 v44 v45 v46 v47 v48 v49 v50 v51 H => ⟨hLb (-1 - 0) v1 v2 v3 v4 v5 v6 v7 v8 v9 v10 v11 v12 v13 v14 v15 v16 v17 v18 v19 v20 v21 v22 v23 v24 v25 v26 v27 v28 v29 v30 v31 v32 v33 v34 v35 v36 v37 v38 v39 v40 v41 v42 v43 v44 v45 v46 v47 v48 v49 v50 v51, fun τ => by
    rw [E (-1 - 0) v1 v2 v3 v4 v5 v6 v7 v8 v9 v10 v11 v12 v13 v14 v15 v16 v17 v18 v19 v20 v21 v22 v23 v24 v25 v26 v27 v28 v29 v30 v31 v32 v33 v34 v35 v36 v37 v38 v39 v40 v41 v42 v43 v44 v45 v46 v47 v48 v49 v50 v51 τ h₀ g d os]
    exact ⟨nq_sub rfl, ok_no (by decide) (H _ _ _ _ _ _ _)⟩⟩

end Mine
namespace Mine
open PySem PySem.W PySem.W.X

/-! ## The call, from the checks' runs -/
noncomputable def ktF (f : Params → KT) (w : World) (its : Array Value) : KT := KT.put 40 (f w.params) 308 (scriptObj its)

/-- a code object's table of what its run leaves -/
def tabChk (kt : KT) (c P : Nat) : Bool := match kt.get c with
  | some o => match o with
    | ⟨cl, _, d, _⟩ => match cl with
      | .type n => match Nat.beq (code n) (code "code") with
        | true => match d with
          | .fields vs => match vs[11]? with
            | some v => match v with
              | .ref q => match Nat.beq q P with
                | true => match kt.get P with
                  | some t => match tabOf t with
                    | some _ => true
                    | none => false
                  | none => false
                | false => false
              | _ => false
            | none => false
          | _ => false
        | false => false
      | _ => false
  | none => false

theorem tab_of {h : Heap} {kt : KT} {c P : Nat} (H : kt.Holds h 1 0) (e : tabChk kt c P = true) : ∃ c, h.TableAt c P (arrAt kt P) := by
  unfold tabChk at e
  repeat' split at e
  all_goals first | (cases e; done) | skip
  rename_i n hn dt vs ho s1 v1 q hv b1 hq s2 t ht s3 l hl
  have hn' := code_inj _ _ (Nat.eq_of_beq_eq_true hn)
  have hq' := Nat.eq_of_beq_eq_true hq
  subst hn' hq'
  have ha : arrAt kt q = l := by
    unfold arrAt
    rw [ht]
    dsimp only
    rw [hl]
  rw [ha]
  have e2 := tabOf_eq hl
  subst e2
  have h1 := kt_at H ho
  have h2 := kt_at H ht
  exact ⟨c, ⟨_, _, h1, rfl, rfl, hv⟩, h2⟩

/-- the runs of law's own body, and the tables of its functions' code -/
structure Bodies (prog : Program) (w : World) (f : Params → KT) : Prop where
  a0 : ∀ x tx r, EqLa0 prog w (ktF f w ⟨.int x tx :: r⟩) x r
  a1 : ∀ x tx r, EqLa1 prog w (ktF f w ⟨.int x tx :: r⟩) x r
  c0 : ∀ x tx r, EqLc0 prog w (ktF f w ⟨.int x tx :: r⟩) x r
  c1 : ∀ x tx r, EqLc1 prog w (ktF f w ⟨.int x tx :: r⟩) x r
  b : EqLb prog w (ktF f w ⟨[]⟩)
  t1 : ∀ its, tabChk (ktF f w its) 273 269 = true
  t2 : ∀ its, tabChk (ktF f w its) 292 288 = true
  t3 : ∀ its, tabChk (ktF f w its) 299 295 = true

theorem law_wp {prog : Program} {w : World} {f : Params → KT} {s₁ : Shared} {vals : List Value} {ns : List Int} (ZH : KT.Holds s₁.heap 1 0 (f w.params)) (hsz : s₁.heap.objs.size = 309) (hg : s₁.gens = #[])
    (hol : s₁.heap.get? 308 = some (scriptObj ⟨vals⟩)) (hi : PyProof.Rows.IntsAre vals ns) (hn : vals.length ≤ 63) (st : ∀ its, Steps prog w (ktF f w its)) (bd : Bodies prog w f)
    {Q : Value → Pos → Shared → Prop} {E : Value → Pos → Shared → Prop} (hQ : ∀ p s', s'.gens = #[] → s'.os = s₁.os → OldK s₁.heap s'.heap → Q (.bool true) p s') :
    Sem.wp (model prog w) g0 (PySem.call (.ref 307) [.ref 308]) Q E default s₁ := by
  have KH : KT.Holds s₁.heap 1 0 (ktF f w ⟨vals⟩) := KT.Holds.put 40 ZH (by rw [Nat.one_mul, Nat.add_zero]; exact hol)
  have O : (baseOf prog w s₁.heap (ktF f w ⟨vals⟩) s₁.gens s₁.drawn s₁.os).Ok := by
    refine ⟨hsz, KH, fun a vs e => ?_⟩
    have T : TabsOk s₁.heap [(269, arrAt (ktF f w ⟨vals⟩) 269), (288, arrAt (ktF f w ⟨vals⟩) 288), (295, arrAt (ktF f w ⟨vals⟩) 295)] :=
      ⟨tab_of KH (bd.t1 _), tab_of KH (bd.t2 _), tab_of KH (bd.t3 _), trivial⟩
    exact tabs_ok T a vs e
  have key : ∃ hs, ∀ τ, (mainRun prog w (ktF f w ⟨vals⟩) τ 4000 hs s₁.heap s₁.gens s₁.drawn s₁.os).Ok (baseOf prog w s₁.heap (ktF f w ⟨vals⟩) s₁.gens s₁.drawn s₁.os) (fun r _ _ _ => r = .ok (.ret (.bool true))) := by
    cases hi with
    | nil => exact okLb O (st _) bd.b
    | @cons x tx vs ms hi' =>
      have hlen : Nat.blt (List.length vs + 1) 4096 = true := by
        rw [Nat.blt_eq]
        have : (Value.int x tx :: vs).length = vs.length + 1 := List.length_cons
        omega
      by_cases h1 : 0 ≤ x
      · by_cases h2 : 1000000000000000000 ≤ x
        · exact okLc0 O (st _) (bd.c0 x tx vs) hlen h1 h2
        · exact okLa0 O (st _) (bd.a0 x tx vs) hlen h1 (by omega)
      · by_cases h2 : 1000000000000000000 ≤ -1 - x
        · exact okLc1 O (st _) (bd.c1 x tx vs) hlen (by omega) h2
        · exact okLa1 O (st _) (bd.a1 x tx vs) hlen (by omega) (by omega)
  obtain ⟨hs, H⟩ := key
  have go : wpCode (model prog w) (g0.enter lawCall none default) (fun r s' => r = .ok (.ret (.bool true)) ∧ Still (baseOf prog w s₁.heap (ktF f w ⟨vals⟩) s₁.gens s₁.drawn s₁.os) s' ∧ OldK s₁.heap s'.heap) default s₁ :=
    code_of_means (V := baseOf prog w s₁.heap (ktF f w ⟨vals⟩) s₁.gens s₁.drawn s₁.os) (κ := []) (sound (V := baseOf prog w s₁.heap (ktF f w ⟨vals⟩) s₁.gens s₁.drawn s₁.os) O (X := fun _ => none) (keep := []) (R := fun r _ _ _ => r = .ok (.ret (.bool true)))
      (Rb := fun r s' => r = .ok (.ret (.bool true)) ∧ Still (baseOf prog w s₁.heap (ktF f w ⟨vals⟩) s₁.gens s₁.drawn s₁.os) s' ∧ OldK s₁.heap s'.heap)
      (fun r T m ch s' hr S' D' => ⟨hr, S', D'.base.oldK O⟩) 4000 _ _ [] _ .nil 0 0 1 [] hs (fun _ => 0) s₁ (fun τ _ => H τ) ⟨rfl, rfl, rfl⟩
      ⟨Rep.start O, fun i o e => (by rw [nil_get] at e; cases e), fun i o e => nomatch e⟩)
  unfold PySem.call runValue run
  rw [Sem.wp_bind', Sem.wp_call]
  refine wpCode_mono ?_ go
  rintro r s' ⟨rfl, S', hK⟩
  exact hQ _ _ (S'.gens.trans hg) S'.os hK
end Mine
open PySem PySem.W PySem.W.X PyProof.Rows
namespace MineHead
noncomputable def top : { f : Params → KT // Given ((∀ w its, Mine.Steps PySem.Challenge.pw_pq1159_01 w (Mine.ktF f w its)) ∧ (∀ w, Mine.Bodies PySem.Challenge.pw_pq1159_01 w f)) → PySem.Challenge.rw_pq1159_01.Holds } := by
  apply Subtype.mk
  intro hP
  w_on; o_law; z_head; (case hw => w_witness2)
  intro hP
  k_fill
  intro found w σ s mg mb args vals as y H
  have L := H.laid
  z_open y L KX known size toks
  obtain ⟨fa, _, _, _, _, _, _, named, _⟩ := H.ground.fn found
  refine ⟨.ref fa, named, ?_⟩
  have hpre := H.pre
  have hlay := H.can
  have hrd := L.reads
  have hwl := L.well
  have hlo := H.low
  have T := H.ground.T
  have gens := L.gens
  wrow_args hpre hlay hrd hwl hlo
  have spot := script_at L
  rw [size] at spot
  obtain ⟨spot, len⟩ := spot
  subst spot
  x_fa T KX named
  all_lens
  have hol := script_obj L (by assumption)
  refine Mine.law_wp (prog := PySem.Challenge.pw_pq1159_01) known len gens hol (by assumption) (by omega) ?st ?bd ?hQ
  case bd => exact hP.2 w
  case st =>
    intro its
    exact hP.1 w its
  case hQ =>
    intro p s' h1 h2 h3
    exact ⟨rfl, .inl ⟨_, _, [], rfl, fun _ => rfl, ReadsW.bool true, by first | rfl | wrow_post, fun _ => ⟨List.nodup_nil, fun _ hm => (nomatch hm)⟩⟩, h3, h2, AllBare.of_eq h1⟩
end MineHead
namespace Mine
theorem either {P : World → Prop} (e : ∀ b w, P (World.withFollow w "special-get-raises" b)) (w : World) : P w := byRow2 _ (e false) (e true) w
theorem ew0f (w : World) (its : Array Value) : EqW PySem.Challenge.pw_pq1159_01 (w.withFollow "special-get-raises" false) (ktF MineHead.top.1 (w.withFollow "special-get-raises" false) its) 0 281474976710655 := by
  unfold EqW; intros; kernel_rfl
theorem ew0t (w : World) (its : Array Value) : EqW PySem.Challenge.pw_pq1159_01 (w.withFollow "special-get-raises" true) (ktF MineHead.top.1 (w.withFollow "special-get-raises" true) its) 0 281474976710655 := by
  unfold EqW; intros; kernel_rfl
theorem ew0 (w : World) (its : Array Value) : EqW PySem.Challenge.pw_pq1159_01 w (ktF MineHead.top.1 w its) 0 281474976710655 :=
  either (P := fun w => EqW PySem.Challenge.pw_pq1159_01 w (ktF MineHead.top.1 w its) 0 281474976710655) (fun b w => match b with | false => ew0f w its | true => ew0t w its) w
theorem ew1f (w : World) (its : Array Value) : EqW PySem.Challenge.pw_pq1159_01 (w.withFollow "special-get-raises" false) (ktF MineHead.top.1 (w.withFollow "special-get-raises" false) its) 1 281474976710655 := by
  unfold EqW; intros; kernel_rfl
theorem ew1t (w : World) (its : Array Value) : EqW PySem.Challenge.pw_pq1159_01 (w.withFollow "special-get-raises" true) (ktF MineHead.top.1 (w.withFollow "special-get-raises" true) its) 1 281474976710655 := by
  unfold EqW; intros; kernel_rfl
theorem ew1 (w : World) (its : Array Value) : EqW PySem.Challenge.pw_pq1159_01 w (ktF MineHead.top.1 w its) 1 281474976710655 :=
  either (P := fun w => EqW PySem.Challenge.pw_pq1159_01 w (ktF MineHead.top.1 w its) 1 281474976710655) (fun b w => match b with | false => ew1f w its | true => ew1t w its) w
theorem ew2f (w : World) (its : Array Value) : EqW PySem.Challenge.pw_pq1159_01 (w.withFollow "special-get-raises" false) (ktF MineHead.top.1 (w.withFollow "special-get-raises" false) its) 2 65535 := by
  unfold EqW; intros; kernel_rfl
theorem ew2t (w : World) (its : Array Value) : EqW PySem.Challenge.pw_pq1159_01 (w.withFollow "special-get-raises" true) (ktF MineHead.top.1 (w.withFollow "special-get-raises" true) its) 2 65535 := by
  unfold EqW; intros; kernel_rfl
theorem ew2 (w : World) (its : Array Value) : EqW PySem.Challenge.pw_pq1159_01 w (ktF MineHead.top.1 w its) 2 65535 :=
  either (P := fun w => EqW PySem.Challenge.pw_pq1159_01 w (ktF MineHead.top.1 w its) 2 65535) (fun b w => match b with | false => ew2f w its | true => ew2t w its) w
theorem ew3f (w : World) (its : Array Value) : EqW PySem.Challenge.pw_pq1159_01 (w.withFollow "special-get-raises" false) (ktF MineHead.top.1 (w.withFollow "special-get-raises" false) its) 3 4095 := by
  unfold EqW; intros; kernel_rfl
theorem ew3t (w : World) (its : Array Value) : EqW PySem.Challenge.pw_pq1159_01 (w.withFollow "special-get-raises" true) (ktF MineHead.top.1 (w.withFollow "special-get-raises" true) its) 3 4095 := by
  unfold EqW; intros; kernel_rfl
theorem ew3 (w : World) (its : Array Value) : EqW PySem.Challenge.pw_pq1159_01 w (ktF MineHead.top.1 w its) 3 4095 :=
  either (P := fun w => EqW PySem.Challenge.pw_pq1159_01 w (ktF MineHead.top.1 w its) 3 4095) (fun b w => match b with | false => ew3f w its | true => ew3t w its) w
theorem ew4f (w : World) (its : Array Value) : EqW PySem.Challenge.pw_pq1159_01 (w.withFollow "special-get-raises" false) (ktF MineHead.top.1 (w.withFollow "special-get-raises" false) its) 4 7 := by
  unfold EqW; intros; kernel_rfl
theorem ew4t (w : World) (its : Array Value) : EqW PySem.Challenge.pw_pq1159_01 (w.withFollow "special-get-raises" true) (ktF MineHead.top.1 (w.withFollow "special-get-raises" true) its) 4 7 := by
  unfold EqW; intros; kernel_rfl
theorem ew4 (w : World) (its : Array Value) : EqW PySem.Challenge.pw_pq1159_01 w (ktF MineHead.top.1 w its) 4 7 :=
  either (P := fun w => EqW PySem.Challenge.pw_pq1159_01 w (ktF MineHead.top.1 w its) 4 7) (fun b w => match b with | false => ew4f w its | true => ew4t w its) w
theorem ew5f (w : World) (its : Array Value) : EqW PySem.Challenge.pw_pq1159_01 (w.withFollow "special-get-raises" false) (ktF MineHead.top.1 (w.withFollow "special-get-raises" false) its) 5 4294967295 := by
  unfold EqW; intros; kernel_rfl
theorem ew5t (w : World) (its : Array Value) : EqW PySem.Challenge.pw_pq1159_01 (w.withFollow "special-get-raises" true) (ktF MineHead.top.1 (w.withFollow "special-get-raises" true) its) 5 4294967295 := by
  unfold EqW; intros; kernel_rfl
theorem ew5 (w : World) (its : Array Value) : EqW PySem.Challenge.pw_pq1159_01 w (ktF MineHead.top.1 w its) 5 4294967295 :=
  either (P := fun w => EqW PySem.Challenge.pw_pq1159_01 w (ktF MineHead.top.1 w its) 5 4294967295) (fun b w => match b with | false => ew5f w its | true => ew5t w its) w
theorem ew6f (w : World) (its : Array Value) : EqW PySem.Challenge.pw_pq1159_01 (w.withFollow "special-get-raises" false) (ktF MineHead.top.1 (w.withFollow "special-get-raises" false) its) 6 4294967295 := by
  unfold EqW; intros; kernel_rfl
theorem ew6t (w : World) (its : Array Value) : EqW PySem.Challenge.pw_pq1159_01 (w.withFollow "special-get-raises" true) (ktF MineHead.top.1 (w.withFollow "special-get-raises" true) its) 6 4294967295 := by
  unfold EqW; intros; kernel_rfl
theorem ew6 (w : World) (its : Array Value) : EqW PySem.Challenge.pw_pq1159_01 w (ktF MineHead.top.1 w its) 6 4294967295 :=
  either (P := fun w => EqW PySem.Challenge.pw_pq1159_01 w (ktF MineHead.top.1 w its) 6 4294967295) (fun b w => match b with | false => ew6f w its | true => ew6t w its) w
theorem ew7f (w : World) (its : Array Value) : EqW PySem.Challenge.pw_pq1159_01 (w.withFollow "special-get-raises" false) (ktF MineHead.top.1 (w.withFollow "special-get-raises" false) its) 7 255 := by
  unfold EqW; intros; kernel_rfl
theorem ew7t (w : World) (its : Array Value) : EqW PySem.Challenge.pw_pq1159_01 (w.withFollow "special-get-raises" true) (ktF MineHead.top.1 (w.withFollow "special-get-raises" true) its) 7 255 := by
  unfold EqW; intros; kernel_rfl
theorem ew7 (w : World) (its : Array Value) : EqW PySem.Challenge.pw_pq1159_01 w (ktF MineHead.top.1 w its) 7 255 :=
  either (P := fun w => EqW PySem.Challenge.pw_pq1159_01 w (ktF MineHead.top.1 w its) 7 255) (fun b w => match b with | false => ew7f w its | true => ew7t w its) w
theorem ew8f (w : World) (its : Array Value) : EqW PySem.Challenge.pw_pq1159_01 (w.withFollow "special-get-raises" false) (ktF MineHead.top.1 (w.withFollow "special-get-raises" false) its) 8 65535 := by
  unfold EqW; intros; kernel_rfl
theorem ew8t (w : World) (its : Array Value) : EqW PySem.Challenge.pw_pq1159_01 (w.withFollow "special-get-raises" true) (ktF MineHead.top.1 (w.withFollow "special-get-raises" true) its) 8 65535 := by
  unfold EqW; intros; kernel_rfl
theorem ew8 (w : World) (its : Array Value) : EqW PySem.Challenge.pw_pq1159_01 w (ktF MineHead.top.1 w its) 8 65535 :=
  either (P := fun w => EqW PySem.Challenge.pw_pq1159_01 w (ktF MineHead.top.1 w its) 8 65535) (fun b w => match b with | false => ew8f w its | true => ew8t w its) w
theorem ew9f (w : World) (its : Array Value) : EqW PySem.Challenge.pw_pq1159_01 (w.withFollow "special-get-raises" false) (ktF MineHead.top.1 (w.withFollow "special-get-raises" false) its) 9 65535 := by
  unfold EqW; intros; kernel_rfl
theorem ew9t (w : World) (its : Array Value) : EqW PySem.Challenge.pw_pq1159_01 (w.withFollow "special-get-raises" true) (ktF MineHead.top.1 (w.withFollow "special-get-raises" true) its) 9 65535 := by
  unfold EqW; intros; kernel_rfl
theorem ew9 (w : World) (its : Array Value) : EqW PySem.Challenge.pw_pq1159_01 w (ktF MineHead.top.1 w its) 9 65535 :=
  either (P := fun w => EqW PySem.Challenge.pw_pq1159_01 w (ktF MineHead.top.1 w its) 9 65535) (fun b w => match b with | false => ew9f w its | true => ew9t w its) w
theorem epf (w : World) (its : Array Value) : EqP PySem.Challenge.pw_pq1159_01 (w.withFollow "special-get-raises" false) (ktF MineHead.top.1 (w.withFollow "special-get-raises" false) its) := by
  unfold EqP; intros; kernel_rfl
theorem ept (w : World) (its : Array Value) : EqP PySem.Challenge.pw_pq1159_01 (w.withFollow "special-get-raises" true) (ktF MineHead.top.1 (w.withFollow "special-get-raises" true) its) := by
  unfold EqP; intros; kernel_rfl
theorem ep (w : World) (its : Array Value) : EqP PySem.Challenge.pw_pq1159_01 w (ktF MineHead.top.1 w its) :=
  either (P := fun w => EqP PySem.Challenge.pw_pq1159_01 w (ktF MineHead.top.1 w its)) (fun b w => match b with | false => epf w its | true => ept w its) w
theorem eaf (w : World) (its : Array Value) : EqA PySem.Challenge.pw_pq1159_01 (w.withFollow "special-get-raises" false) (ktF MineHead.top.1 (w.withFollow "special-get-raises" false) its) := by
  unfold EqA; intros; kernel_rfl
theorem eat (w : World) (its : Array Value) : EqA PySem.Challenge.pw_pq1159_01 (w.withFollow "special-get-raises" true) (ktF MineHead.top.1 (w.withFollow "special-get-raises" true) its) := by
  unfold EqA; intros; kernel_rfl
theorem ea (w : World) (its : Array Value) : EqA PySem.Challenge.pw_pq1159_01 w (ktF MineHead.top.1 w its) :=
  either (P := fun w => EqA PySem.Challenge.pw_pq1159_01 w (ktF MineHead.top.1 w its)) (fun b w => match b with | false => eaf w its | true => eat w its) w
theorem emf (w : World) (its : Array Value) : EqM PySem.Challenge.pw_pq1159_01 (w.withFollow "special-get-raises" false) (ktF MineHead.top.1 (w.withFollow "special-get-raises" false) its) := by
  unfold EqM; intros; kernel_rfl
theorem emt (w : World) (its : Array Value) : EqM PySem.Challenge.pw_pq1159_01 (w.withFollow "special-get-raises" true) (ktF MineHead.top.1 (w.withFollow "special-get-raises" true) its) := by
  unfold EqM; intros; kernel_rfl
theorem em (w : World) (its : Array Value) : EqM PySem.Challenge.pw_pq1159_01 w (ktF MineHead.top.1 w its) :=
  either (P := fun w => EqM PySem.Challenge.pw_pq1159_01 w (ktF MineHead.top.1 w its)) (fun b w => match b with | false => emf w its | true => emt w its) w
theorem ela0f (w : World) (x : Int) (tx : Tok) (r : List Value) : EqLa0 PySem.Challenge.pw_pq1159_01 (w.withFollow "special-get-raises" false) (ktF MineHead.top.1 (w.withFollow "special-get-raises" false) ⟨.int x tx :: r⟩) x r := by
  unfold EqLa0; intros; kernel_rfl
theorem ela0t (w : World) (x : Int) (tx : Tok) (r : List Value) : EqLa0 PySem.Challenge.pw_pq1159_01 (w.withFollow "special-get-raises" true) (ktF MineHead.top.1 (w.withFollow "special-get-raises" true) ⟨.int x tx :: r⟩) x r := by
  unfold EqLa0; intros; kernel_rfl
theorem ela0 (w : World) (x : Int) (tx : Tok) (r : List Value) : EqLa0 PySem.Challenge.pw_pq1159_01 w (ktF MineHead.top.1 w ⟨.int x tx :: r⟩) x r :=
  either (P := fun w => EqLa0 PySem.Challenge.pw_pq1159_01 w (ktF MineHead.top.1 w ⟨.int x tx :: r⟩) x r) (fun b w => match b with | false => ela0f w x tx r | true => ela0t w x tx r) w
theorem ela1f (w : World) (x : Int) (tx : Tok) (r : List Value) : EqLa1 PySem.Challenge.pw_pq1159_01 (w.withFollow "special-get-raises" false) (ktF MineHead.top.1 (w.withFollow "special-get-raises" false) ⟨.int x tx :: r⟩) x r := by
  unfold EqLa1; intros; kernel_rfl
theorem ela1t (w : World) (x : Int) (tx : Tok) (r : List Value) : EqLa1 PySem.Challenge.pw_pq1159_01 (w.withFollow "special-get-raises" true) (ktF MineHead.top.1 (w.withFollow "special-get-raises" true) ⟨.int x tx :: r⟩) x r := by
  unfold EqLa1; intros; kernel_rfl
theorem ela1 (w : World) (x : Int) (tx : Tok) (r : List Value) : EqLa1 PySem.Challenge.pw_pq1159_01 w (ktF MineHead.top.1 w ⟨.int x tx :: r⟩) x r :=
  either (P := fun w => EqLa1 PySem.Challenge.pw_pq1159_01 w (ktF MineHead.top.1 w ⟨.int x tx :: r⟩) x r) (fun b w => match b with | false => ela1f w x tx r | true => ela1t w x tx r) w
theorem elc0f (w : World) (x : Int) (tx : Tok) (r : List Value) : EqLc0 PySem.Challenge.pw_pq1159_01 (w.withFollow "special-get-raises" false) (ktF MineHead.top.1 (w.withFollow "special-get-raises" false) ⟨.int x tx :: r⟩) x r := by
  unfold EqLc0; intros; kernel_rfl
theorem elc0t (w : World) (x : Int) (tx : Tok) (r : List Value) : EqLc0 PySem.Challenge.pw_pq1159_01 (w.withFollow "special-get-raises" true) (ktF MineHead.top.1 (w.withFollow "special-get-raises" true) ⟨.int x tx :: r⟩) x r := by
  unfold EqLc0; intros; kernel_rfl
theorem elc0 (w : World) (x : Int) (tx : Tok) (r : List Value) : EqLc0 PySem.Challenge.pw_pq1159_01 w (ktF MineHead.top.1 w ⟨.int x tx :: r⟩) x r :=
  either (P := fun w => EqLc0 PySem.Challenge.pw_pq1159_01 w (ktF MineHead.top.1 w ⟨.int x tx :: r⟩) x r) (fun b w => match b with | false => elc0f w x tx r | true => elc0t w x tx r) w
theorem elc1f (w : World) (x : Int) (tx : Tok) (r : List Value) : EqLc1 PySem.Challenge.pw_pq1159_01 (w.withFollow "special-get-raises" false) (ktF MineHead.top.1 (w.withFollow "special-get-raises" false) ⟨.int x tx :: r⟩) x r := by
  unfold EqLc1; intros; kernel_rfl
theorem elc1t (w : World) (x : Int) (tx : Tok) (r : List Value) : EqLc1 PySem.Challenge.pw_pq1159_01 (w.withFollow "special-get-raises" true) (ktF MineHead.top.1 (w.withFollow "special-get-raises" true) ⟨.int x tx :: r⟩) x r := by
  unfold EqLc1; intros; kernel_rfl
theorem elc1 (w : World) (x : Int) (tx : Tok) (r : List Value) : EqLc1 PySem.Challenge.pw_pq1159_01 w (ktF MineHead.top.1 w ⟨.int x tx :: r⟩) x r :=
  either (P := fun w => EqLc1 PySem.Challenge.pw_pq1159_01 w (ktF MineHead.top.1 w ⟨.int x tx :: r⟩) x r) (fun b w => match b with | false => elc1f w x tx r | true => elc1t w x tx r) w
theorem elbf (w : World) : EqLb PySem.Challenge.pw_pq1159_01 (w.withFollow "special-get-raises" false) (ktF MineHead.top.1 (w.withFollow "special-get-raises" false) ⟨[]⟩) := by
  unfold EqLb; intros; kernel_rfl
theorem elbt (w : World) : EqLb PySem.Challenge.pw_pq1159_01 (w.withFollow "special-get-raises" true) (ktF MineHead.top.1 (w.withFollow "special-get-raises" true) ⟨[]⟩) := by
  unfold EqLb; intros; kernel_rfl
theorem elb (w : World) : EqLb PySem.Challenge.pw_pq1159_01 w (ktF MineHead.top.1 w ⟨[]⟩) :=
  either (P := fun w => EqLb PySem.Challenge.pw_pq1159_01 w (ktF MineHead.top.1 w ⟨[]⟩)) (fun b w => match b with | false => elbf w | true => elbt w) w
theorem et1 (w : World) (its : Array Value) : tabChk (ktF MineHead.top.1 w its) 273 269 = true := by kernel_rfl
theorem et2 (w : World) (its : Array Value) : tabChk (ktF MineHead.top.1 w its) 292 288 = true := by kernel_rfl
theorem et3 (w : World) (its : Array Value) : tabChk (ktF MineHead.top.1 w its) 299 295 = true := by kernel_rfl
theorem all_steps : (∀ w its, Steps PySem.Challenge.pw_pq1159_01 w (ktF MineHead.top.1 w its)) ∧ (∀ w, Bodies PySem.Challenge.pw_pq1159_01 w MineHead.top.1) :=
  ⟨fun w its => ⟨ew0 w its, ew1 w its, ew2 w its, ew3 w its, ew4 w its, ew5 w its, ew6 w its, ew7 w its, ew8 w its, ew9 w its, ep w its, ea w its, em w its⟩,
   fun w => ⟨ela0 w, ela1 w, elc0 w, elc1 w, elb w, et1 w, et2 w, et3 w⟩⟩
end Mine
theorem PySem.Challenge.cw_pq1159_01_holds : PySem.Challenge.rw_pq1159_01.Holds := by
  exact MineHead.top.2 ⟨Mine.all_steps⟩
