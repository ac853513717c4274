import PyProof.Rows.All
import Wide.All
import OpenK.AllK
import Wide.FinOn
import HandS.ForMost
import HandS.ForExc
import HandS.ExcInit
import HandS.TryMany
import HandS.Lambda
import HandS.Nested
import HandS.EndTab
import HandS.TupMul
import HandS.DictComp
import HandS.TupLen
import HandS.Zip
import HandS.Walk
import HandS.IsInst
import HandS.StrMore
import KE.SortData
import KE.KExcSuper
import PySem.Challenge.RW_wholestakes_k81_whole_worst_rows
import KE.GoesNew
import HandS.Evl
import HandS.Iter
import HandS.Replace
import HandS.ExcField
import HandS.HeadHook4
import HandS.HeadWalk
import HandS.Head0
import HandS.Head1
import HandS.Head2
import HandS.HeadEnd
set_option Elab.async false
set_option maxRecDepth 100000
set_option maxHeartbeats 4000000
/-! The text by places, defs by name, the rule of a call by name. -/
namespace K81
open PySem PySem.Spec PyProof.Rows L2
def top (i : Nat) : Stmt := PySem.Challenge.pw_wholestakes_k81_whole_worst_rows.main.body.getD i (.Pass ⟨0, 0, 0, 0⟩)
/-- a def of the top under its own name -/
def DefAt (K : PySem.W.Frag) (mg : Str → Option Value) (x : Str) (st : Stmt) : Prop := ∃ f fd, mg x = some (.ref f) ∧ Fun K x x st f fd
/-- a def that keeps a promise -/
structure Def (P : Program) (w : World) (K : PySem.W.Frag) (mg : Str → Option Value) (base : Heap) (CX : CXT) (k : Nat) (x : Str) (ps : List Str) (sp : Sp) : Prop where
  ex : ∃ f fd, mg x = some (.ref f) ∧ FnOk P w K mg base CX k f fd ps sp ∧ PySem.W.keepIn K (.ref f) = true ∧ Binds K fd ps []
section
variable {P : Program} {w : World} {K : PySem.W.Frag} {mg : Str → Option Value} {base : Heap} {CX : CXT}
theorem Def.mono {j k : Nat} {x : Str} {ps : List Str} {sp : Sp} (D : Def P w K mg base CX j x ps sp) (h : j ≤ k) : Def P w K mg base CX k x ps sp := by
  obtain ⟨f, fd, h1, h2, h3, h4⟩ := D.ex
  exact ⟨f, fd, h1, h2.mono h, h3, h4⟩
/-- a def by its body; nothing leaves it -/
theorem Def.of {k : Nat} {x : Str} {st : Stmt} {N ps : List Str} {sp : Sp} (F : DefAt K mg x st) (S : FnScope N ps (defScope st))
    (hb : ∀ (kV doc pm : Value) (an : Option Addr) (cdv ct : Value) (us : List Value), us.length = ps.length → bindArgs (PySem.W.fnOf x x (defArgs st) (defBody st) (defScope st) .none kV doc pm an cdv ct) ⟨us, []⟩ = pure (ps.zip us))
    (len : ∀ vs H Q E, sp vs H Q E → vs.length = ps.length)
    (hbody : ∀ (f : Addr) (cdv : Value) (A : Around) (outer : List Env) (s : Shared) (H : Hp) (vs : List V) (Q : VK) (E : XK), Room k (A.deeper (envOfC x (defScope st) s.heap.objs.size f cdv)) → sp vs H Q E →
      ∃ t, PSs (cxOf CX0 P w K mg base N x (defScope st) f cdv A outer s H E).nox (defBody st) t ∧ t { nx := fun _ H' => Q .non H', rt := Q } (start N vs) H) : Def P w K mg base CX0 (k + 1) x ps sp := by
  obtain ⟨f, fd, h1, h2⟩ := F
  exact ⟨f, fd, h1, h2.ok S len (hbody f), h2.kp, h2.binds hb⟩
variable {X : Cx}
/-- x(e, ..), x a def of the top, nothing leaves it -/
theorem pe_d {k : Nat} {x : Str} {ps : List Str} {sp : Sp} {p pos : Pos} {e : Expr} {es : List Expr} {t : TA} (D : Def X.prog X.w X.K X.mg X.base CX0 k x ps sp) (hr : Room k X.A) (hg : Gl X x) (ha : PA X (e :: es) t)
    (hdb : (x == ("__debug__" : Str)) = false := by decide) (he : starEach (e :: es) X.env = (false, eval e X.env) :: starEach es X.env := by rfl) (hpl : (backTo pos (starEach es X.env)).any (·.1) = false := by rfl) :
    PE X (.Call (.Name x p) (e :: es) [] pos) (tCall sp [] E0 t) := by
  obtain ⟨f, fd, h1, h2, h3, h4⟩ := D.ex
  exact pe_call h2 hr hg h1 h3 h4 .nil pass0 ha hdb he hpl
end
/-! the built-in names that the text calls stand as they were -/
structure Bt (mg : Str → Option Value) : Prop where
  isinstance : mg "isinstance" = none
  int : mg "int" = none
  bool : mg "bool" = none
  str : mg "str" = none
  tuple : mg "tuple" = none
  list : mg "list" = none
  len : mg "len" = none
  all : mg "all" = none
  range : mg "range" = none
  sum : mg "sum" = none
  zip : mg "zip" = none
  min : mg "min" = none
  sorted : mg "sorted" = none
  abs : mg "abs" = none
end K81
set_option maxRecDepth 100000
set_option maxHeartbeats 4000000
/-! Own rules: order of nested data (less, sorted, min). -/
namespace K81
open PySem PySem.Spec PyProof.Rows L2 PySem.SeqAt PySem.W
theorem pd_len {α β : Type} {F : α → β → Prop} {l : List α} {m : List β} (p : Paired F l m) : l.length = m.length := Paired.length p
theorem pd_imp {α β : Type} {F G : α → β → Prop} {l : List α} {m : List β} (p : Paired F l m) (f : ∀ a b, F a b → G a b) : Paired G l m := Paired.mapP p f
theorem pd_get {α β : Type} {F : α → β → Prop} {l : List α} {m : List β} (p : Paired F l m) : ∀ {i : Nat} {b : β}, m[i]? = some b → ∃ a, l[i]? = some a ∧ F a b := by
  induction p with
  | nil => intro i b h; simp at h
  | cons r t ih =>
    intro i b h
    cases i with
    | zero => exact ⟨_, rfl, by simp at h; exact h ▸ r⟩
    | succ j => simpa using ih (i := j) (b := b) (by simpa using h)
theorem pd_get' {α β : Type} {F : α → β → Prop} {l : List α} {m : List β} (p : Paired F l m) : ∀ {i : Nat} {a : α}, l[i]? = some a → ∃ b, m[i]? = some b ∧ F a b := by
  induction p with
  | nil => intro i b h; simp at h
  | cons r t ih =>
    intro i a h
    cases i with
    | zero => exact ⟨_, rfl, by simp at h; exact h ▸ r⟩
    | succ j => simpa using ih (i := j) (a := a) (by simpa using h)
theorem pd_app {α β : Type} {F : α → β → Prop} {l l' : List α} {m m' : List β} (p : Paired F l m) (q : Paired F l' m') : Paired F (l ++ l') (m ++ m') := by
  induction p with
  | nil => exact q
  | cons r t ih => exact .cons r ih
theorem pd_map {α β γ : Type} {F : α → γ → Prop} {g : β → γ} {l : List α} {m : List β} (p : Paired (fun a b => F a (g b)) l m) : Paired F l (m.map g) := by
  induction p with
  | nil => exact .nil
  | cons r t ih => exact .cons r ih
theorem pd_unmap {α β γ : Type} {F : α → γ → Prop} {g : β → γ} : ∀ {m : List β} {l : List α}, Paired F l (m.map g) → Paired (fun a b => F a (g b)) l m
  | [], _, h => by cases h; exact .nil
  | b :: m, _, h => by
    cases h with
    | cons r t => exact .cons r (pd_unmap t)
/-- each of the values is read as its datum -/
theorem dpAll_of {K : Frag} {H : Hp} {β : Type} {RV : V → β → Prop} {enc : β → PyData} (hd : ∀ x b, RV x b → Dp K H x (enc b)) {xs : List V} {bs : List β} (p : Paired RV xs bs) : DpAll K H xs (bs.map enc) := by
  induction p with
  | nil => exact .nil
  | cons r t ih => exact .cons (hd _ _ r) ih
theorem dp_units : ∀ d : PyData, d.depth ≤ 60 → True := fun _ _ => trivial
/-! ### less -/
def rLtD (K : Frag) : R2 := fun x y H Q => ∃ d e, Dp K H x d ∧ Dp K H y e ∧ alike d e = true ∧ d ≠ .none ∧ min d.depth e.depth ≤ 60 ∧ Q (.bl (dataLt d e)) H
section
variable {X : Cx}
theorem op_ltD (hu : X.A.units + 64 < cLine) : OpR X (compareOp .Lt) (rLtD X.K) := by
  intro pins s σ H x y v u Q I rx ry h
  obtain ⟨d, e, hd, he, ha, hn, hz, q⟩ := h
  obtain ⟨as, r1⟩ := Dp.reads I d x v hd rx
  obtain ⟨bs, r2⟩ := Dp.reads I e y u he ry
  exact rcLt_alike d e X.A s v u as bs r1 r2 ha hn (by omega) X.prog X.w _ _ ⟨.bl _, H, I, rfl, q⟩
/-! ### sorted -/
def rSortD (K : Frag) : List V → Hp → VK → Prop := fun vs H Q => ∃ (β : Type) (RV : V → β → Prop) (enc : β → PyData) (a : Addr) (xs : List V) (bs : List β), vs = [.ref a] ∧ SqL K H a xs ∧ Paired RV xs bs ∧ (∀ x b, RV x b → Dp K H x (enc b)) ∧
  AllAlike (bs.map enc) ∧ Sortable (bs.map enc) ∧ (∀ b, b ∈ bs → (enc b).depth ≤ 60) ∧ ∀ (p : Addr) (ys : List V), H p = none → Paired RV ys (bs.mergeSort (dataLe false enc)) → Q (.ref p) (upd H p (.lst ys))
theorem eachIs_of {β : Type} {RV : V → β → Prop} : ∀ {xs : List V} {us : List Value} {bs : List β}, Paired RV xs bs → Vals xs us → EachIs (fun u b => ∃ x, RelV x u ∧ RV x b) us bs
  | _, _, _, .nil, .nil => .nil
  | _, _, _, .cons r t, .cons r' t' => .cons ⟨_, r', r⟩ (eachIs_of t t')
theorem of_eachIs {β : Type} {RV : V → β → Prop} : ∀ {us : List Value} {bs : List β}, EachIs (fun u b => ∃ x, RelV x u ∧ RV x b) us bs → ∃ xs, Vals xs us ∧ Paired RV xs bs
  | _, _, .nil => ⟨[], .nil, .nil⟩
  | _, _, .cons ⟨x, r1, r2⟩ t => by
    obtain ⟨xs, h1, h2⟩ := of_eachIs t
    exact ⟨x :: xs, .cons r1 h1, .cons r2 h2⟩
theorem cr_sortD (hu : X.A.units + 64 < cLine) : CallR X (.builtin "sorted") (rSortD X.K) := by
  intro pins s σ H vs us Q I r h
  obtain ⟨β, RV, enc, a, xs, bs, rfl, hs, hp, hd, hal, hso, hz, q⟩ := h
  obtain ⟨its, rv, hl, hle⟩ := I.list hs
  rw [Vals.ref1 r]
  have e := eachIs_of hp rv
  have er : EachIs (fun v b => ∃ as, Reads s.heap v (enc b) as) its bs := e.mono fun v b ⟨x, h1, h2⟩ => Dp.reads I _ x v (hd x b h2) h1
  refine sorted_data (enc := enc) hl.isList e er hal hso (by rw [← pd_len hp]; exact hle) (fun b hb => by have := hz b hb; omega) fun out ho he => ?_
  obtain ⟨ys, h1, h2⟩ := of_eachIs he
  obtain ⟨ep, he'⟩ := PyProof.Rows.sortedAll_at s.heap its out.toArray
  have hlen : ys.length ≤ sizeLine := by rw [pd_len h1, ho, ← pd_len hp]; exact hle
  exact ⟨.ref _, upd H (s.heap.objs.size + 1) (.lst ys), I.laid (t' := s.toks) (fun _ _ => PyProof.Rows.sortedAll_old) (Nat.le_succ _) ⟨hlen, out, ep, h1, by simpa using he'⟩, rfl, q _ ys (I.hok.fresh (Nat.le_succ _)) h2⟩
end
end K81
set_option maxRecDepth 100000
set_option maxHeartbeats 4000000
/-! Own rule: min of a list of nested data. -/
namespace K81
open PySem PySem.Spec PyProof.Rows L2 PySem.SeqAt PySem.W
section
variable {P : Program} {w : World} {A : Around} {R : Result → Shared → Prop} {Y : Addr} {fp wr : List Addr} {n : Nat} {PV : Nat → Value → Prop} {St : Nat → Heap → Prop} {J : Heap → Prop}
/-- less of two of the values, wherever J holds -/
def LessAt (A : Around) (J : Heap → Prop) (PV : Nat → Value → Prop) (bt : Nat → Nat → Bool) : Prop :=
  ∀ (i j : Nat) (vi vj : Value) (s : Shared), J s.heap → PV i vi → PV j vj → RcLt A s vi vj (bt i j)
theorem nameMin : (toString "min" ++ toString ".loop" : String) = "min.loop" := by decide
theorem minLoop (W : Walks P w A.in1 Y fp wr n PV St) (bt : Nat → Nat → Bool) (less : LessAt A.in1 J PV bt) (B : Addr) (nB : B ∉ fp)
    (keepJ : ∀ h h' : Heap, J h → (∀ b o, b ∉ wr → b ≠ B → h.get? b = some o → h'.get? b = some o) → J h') (left : Nat) :
    ∀ (j : Nat) (s : Shared) (best : Value) (c : Nat), n - (j + 1) = left → j + 1 ≤ n → St (j + 1) s.heap → J s.heap → PV (argBest bt j) best →
    s.heap.get? B = some { cls := .type "list", dict := none, data := .seq #[best, best] c, slots := #[] } →
    (∀ v h' tk, PV (argBest bt (n - 1)) v → (∀ b o, b ∉ wr → b ≠ B → s.heap.get? b = some o → h'.get? b = some o) → R (.ok (.ret v)) { s with heap := h', toks := tk }) →
    codeAny (model P w) A (.builtin "min.loop" ⟨[.ref Y, .none, .ref B], []⟩) R s := by
  have nBw : B ∉ wr := fun z => nB (W.sub _ z)
  induction left with
  | zero =>
    intro j s best c hk hj st hJ hP hB fin
    have hn : j + 1 = n := by omega
    refine codeAny_builtin PySem.F.entry_min_loop ?_
    rw [Around.under_plainId PySem.F.plain_min_loop _]
    show wpAny _ A.in1 (seqItems? (.ref B) >>= _) _ _ s
    refine wpAny_bind (wpAny_seqItems hB rfl ?_)
    show wpAny _ A.in1 (tryCatch (pyNext (.ref Y)) _ >>= _) _ _ s
    refine wpAny_bind (wpAny_tryCatch (W.done s _ _ (hn ▸ st) fun h1 t1 k1 => ?_))
    have hB1 := k1 B _ nBw hB
    show wpAny _ A.in1 (updateSeq B (fun _ => #[]) >>= _) _ _ _
    refine wpAny_bind ?_
    refine wpAny_updateSeq hB1 rfl (wpAny_bind (wpAny_letGo (wpAny_pure ?_)))
    exact fin best _ t1 (by rw [← hn]; exact hP) fun b o bw bB e => (Heap.get?_update_other _ _ (Ne.symm bB)).trans (k1 b o bw e)
  | succ left ih =>
    intro j s best c hk hj st hJ hP hB fin
    have hlt : j + 1 < n := by omega
    refine codeAny_builtin PySem.F.entry_min_loop ?_
    rw [Around.under_plainId PySem.F.plain_min_loop _]
    show wpAny _ A.in1 (seqItems? (.ref B) >>= _) _ _ s
    refine wpAny_bind (wpAny_seqItems hB rfl ?_)
    show wpAny _ A.in1 (tryCatch (pyNext (.ref Y)) _ >>= _) _ _ s
    refine wpAny_bind (wpAny_tryCatch (W.item (j + 1) s _ _ hlt st fun v h1 t1 pv st1 k1 => ?_))
    have hB1 := k1 B _ nBw hB
    have hJ1 : J h1 := keepJ _ _ hJ fun b o bw _ e => k1 b o bw e
    show wpAny _ A.in1 (tryCatch (holding [v, v] (richCompare .Lt v best >>= _)) _ >>= _) _ _ _
    refine wpAny_bind (wpAny_tryCatch (wpAny_holding (wpAny_bind (less (j + 1) (argBest bt j) v best { s with heap := h1, toks := t1 } hJ1 pv hP P w _ _ ?_))))
    refine wpAny_bind (wpAny_holding (wpAny_truthy_bool ?_))
    refine wpAny_bind (wpAny_letGo (wpAny_pure ?_))
    cases hb : bt (j + 1) (argBest bt j) with
    | true =>
      simp only [if_true]
      refine wpAny_bind ?_
      refine wpAny_updateSeq hB1 rfl (wpAny_bind (wpAny_letGo ?_))
      rw [nameMin]
      refine wpAny_pure ⟨plainId_quiet PySem.F.plain_min_loop _, ih (j + 1) _ v _ (by omega) hlt (W.frame _ _ _ st1 fun b bf o e => ?_) (keepJ _ _ hJ1 fun b o _ bB e => ?_) (by simp only [argBest, hb, if_true]; exact pv) (Heap.get?_update_self _ hB1 rfl)
        fun v' h2 t2 p2 k2 => ?_⟩
      · exact (Heap.get?_update_other _ _ (fun z : B = b => nB (by rw [z]; exact bf))).trans e
      · exact (Heap.get?_update_other _ _ (Ne.symm bB)).trans e
      · exact fin v' h2 t2 p2 fun b o bw bB e => k2 b o bw bB ((Heap.get?_update_other _ _ (Ne.symm bB)).trans (k1 b o bw e))
    | false =>
      simp only [Bool.false_eq_true, if_false]
      refine wpAny_bind (wpAny_letGo ?_)
      rw [nameMin]
      refine wpAny_pure ⟨plainId_quiet PySem.F.plain_min_loop _, ih (j + 1) _ best c (by omega) hlt st1 hJ1 (by simp only [argBest, hb, Bool.false_eq_true, if_false]; exact hP) hB1 fun v' h2 t2 p2 k2 => ?_⟩
      exact fin v' h2 t2 p2 fun b o bw bB e => k2 b o bw bB (k1 b o bw e)
theorem minFirst (W : Walks P w A.in1 Y fp wr n PV St) (bt : Nat → Nat → Bool) (less : LessAt A.in1 J PV bt) (B : Addr) (nB : B ∉ fp)
    (keepJ : ∀ h h' : Heap, J h → (∀ b o, b ∉ wr → b ≠ B → h.get? b = some o → h'.get? b = some o) → J h') (hn : 0 < n) {s : Shared} {c : Nat} (st : St 0 s.heap) (hJ : J s.heap)
    (hB : s.heap.get? B = some { cls := .type "list", dict := none, data := .seq #[] c, slots := #[] })
    (fin : ∀ v h' tk, PV (argBest bt (n - 1)) v → (∀ b o, b ∉ wr → b ≠ B → s.heap.get? b = some o → h'.get? b = some o) → R (.ok (.ret v)) { s with heap := h', toks := tk }) :
    codeAny (model P w) A (.builtin "min.loop" ⟨[.ref Y, .none, .ref B], []⟩) R s := by
  have nBw : B ∉ wr := fun z => nB (W.sub _ z)
  refine codeAny_builtin PySem.F.entry_min_loop ?_
  rw [Around.under_plainId PySem.F.plain_min_loop _]
  show wpAny _ A.in1 (seqItems? (.ref B) >>= _) _ _ s
  refine wpAny_bind (wpAny_seqItems hB rfl ?_)
  show wpAny _ A.in1 (tryCatch (pyNext (.ref Y)) _ >>= _) _ _ s
  refine wpAny_bind (wpAny_tryCatch (W.item 0 s _ _ hn st fun v h1 t1 pv st1 k1 => ?_))
  have hB1 := k1 B _ nBw hB
  have hJ1 : J h1 := keepJ _ _ hJ fun b o bw _ e => k1 b o bw e
  show wpAny _ A.in1 (updateSeq B (fun _ => #[v, v]) >>= _) _ _ _
  refine wpAny_bind ?_
  refine wpAny_updateSeq hB1 rfl ?_
  rw [nameMin]
  refine wpAny_pure ⟨plainId_quiet PySem.F.plain_min_loop _, minLoop W bt less B nB keepJ _ 0 _ v _ rfl hn (W.frame _ _ _ st1 fun b bf o e => ?_) (keepJ _ _ hJ1 fun b o _ bB e => ?_) pv (Heap.get?_update_self _ hB1 rfl) fun v' h2 t2 p2 k2 => ?_⟩
  · exact (Heap.get?_update_other _ _ (fun z : B = b => nB (by rw [z]; exact bf))).trans e
  · exact (Heap.get?_update_other _ _ (Ne.symm bB)).trans e
  · exact fin v' h2 t2 p2 fun b o bw bB e => k2 b o bw bB ((Heap.get?_update_other _ _ (Ne.symm bB)).trans (k1 b o bw e))
/-- min of the list at l -/
theorem minCall {E : Value → Shared → Prop} {Q : Value → Shared → Prop} {s : Shared} {l : Addr} {its : Array Value} (hh : A.handled = none) (hl : s.heap.IsList l its) (hne : 0 < its.size) (bt : Nat → Nat → Bool)
    (less : LessAt A.in1 (fun h => ∀ b o, s.heap.get? b = some o → h.get? b = some o) (fun i v => its[i]? = some v) bt)
    (h : ∀ v h' tk, its[argBest bt (its.size - 1)]? = some v → (∀ b o, s.heap.get? b = some o → h'.get? b = some o) → Q v { s with heap := h', toks := tk }) :
    wpAny (model P w) A (call (.builtin "min") [.ref l]) Q E s := by
  have hlt : l < s.heap.objs.size := by obtain ⟨_, e, _⟩ := hl; exact Heap.lt_size e
  refine call_function_tree PySem.F.kind_min PySem.F.plain_min PySem.F.entry_min (PySem.F.args_min1 _) ?_
  show wpAny _ A.in1 (Builtin.Builtins.bindParams "min" ["key", "default"] 0 ⟨[], []⟩ >>= _) _ _ s
  refine wpAny_bind (wpAny_of_eq (show Builtin.Builtins.bindParams "min" ["key", "default"] 0 ⟨[], []⟩ = pure [none, none] from rfl) ?_)
  refine wpAny_bind (wpAny_pure ?_)
  refine wpAny_bind (wpAny_pyIter_list hl ?_)
  refine wpAny_bind (wpAny_newObj_type ?_)
  rw [nameMin]
  have z1 : (s.heap.push { cls := .type "list_iterator", data := .fields #[.ref l, .int 0 0] }).objs.size = s.heap.objs.size + 1 := Heap.size_push ..
  have ne1 : s.heap.objs.size ≠ s.heap.objs.size + 1 := Nat.ne_of_lt (Nat.lt_succ_self _)
  have kp : ∀ b o, s.heap.get? b = some o → ((s.heap.push { cls := .type "list_iterator", data := .fields #[.ref l, .int 0 0] }).push { cls := .type "list", data := .seq #[] }).get? b = some o :=
    fun b o e => Heap.get?_push_of_some _ (Heap.get?_push_of_some _ e)
  refine wpAny_pure ⟨plainId_quiet PySem.F.plain_min_loop _, minFirst (J := fun h => ∀ b o, s.heap.get? b = some o → h.get? b = some o) (Walks.list (A := A.in1) hh s.heap.objs.size l (Nat.ne_of_lt hlt) its) bt less _ ?_ ?_ hne ⟨?_, ?_⟩ kp
    (Heap.get?_push_size _ rfl) fun v h' tk pv k => h v h' tk pv fun b o e => ?_⟩
  · rw [z1]
    intro z
    rcases List.mem_cons.mp z with e | z
    · exact ne1 e.symm
    · rcases List.mem_cons.mp z with e | z
      · exact absurd (e ▸ hlt) (Nat.not_lt_of_le (Nat.le_succ _))
      · cases z
  · intro h1 h2 j1 k b o e
    refine k b o (fun z => ?_) ?_ (j1 b o e)
    · rcases List.mem_cons.mp z with e1 | z
      · exact absurd (e1 ▸ Heap.lt_size e) (Nat.lt_irrefl _)
      · cases z
    · rw [z1]
      exact Nat.ne_of_lt (Nat.lt_succ_of_lt (Heap.lt_size e))
  · exact ⟨_, Heap.get?_push_of_some _ (Heap.get?_push_size _ rfl), rfl, rfl⟩
  · exact (hl.push _).push _
  · refine k b o (fun z => ?_) ?_ (kp b o e)
    · rcases List.mem_cons.mp z with e1 | z
      · exact absurd (e1 ▸ Heap.lt_size e) (Nat.lt_irrefl _)
      · cases z
    · rw [z1]
      exact Nat.ne_of_lt (Nat.lt_succ_of_lt (Heap.lt_size e))
end
/-! by values: the first of the least -/
def bestOf {β : Type} (lt : β → β → Bool) : β → List β → β
  | b, [] => b
  | b, x :: xs => bestOf lt (if lt x b then x else b) xs
theorem argBest_best {β : Type} (lt : β → β → Bool) (d : β) (bs : List β) : ∀ (m : Nat), m < bs.length → bs.getD (argBest (fun i j => lt (bs.getD i d) (bs.getD j d)) m) d = bestOf lt (bs.getD 0 d) ((bs.drop 1).take m) := by
  intro m
  induction m with
  | zero => intro _; simp [argBest, bestOf]
  | succ m ih =>
    intro hm
    have e1 : bestOf lt (bs.getD 0 d) ((bs.drop 1).take (m + 1)) = (fun b => if lt (bs.getD (m + 1) d) b then bs.getD (m + 1) d else b) (bestOf lt (bs.getD 0 d) ((bs.drop 1).take m)) := by
      have go : ∀ (l : List β) (b x : β), bestOf lt b (l ++ [x]) = (fun c => if lt x c then x else c) (bestOf lt b l) := by
        intro l
        induction l with
        | nil => intro b x; rfl
        | cons y l ih => intro b x; simp only [List.cons_append, bestOf]; exact ih _ _
      have hx : (bs.drop 1).take (m + 1) = (bs.drop 1).take m ++ [bs.getD (m + 1) d] := by
        rw [List.take_add_one]
        have : (bs.drop 1)[m]? = some (bs.getD (m + 1) d) := by
          rw [List.getElem?_drop, List.getD_eq_getElem?_getD, Nat.add_comm 1 m, List.getElem?_eq_getElem hm]
          rfl
        rw [this]
        rfl
      rw [hx, go]
    rw [e1, ← ih (by omega)]
    simp only [argBest]
    split <;> simp_all
def rMinD (K : Frag) : List V → Hp → VK → Prop := fun vs H Q => ∃ (β : Type) (RV : V → β → Prop) (enc : β → PyData) (a : Addr) (xs : List V) (b0 : β) (bs : List β), vs = [.ref a] ∧ SqL K H a xs ∧ Paired RV xs (b0 :: bs) ∧ (∀ x b, RV x b → Dp K H x (enc b)) ∧
  (∀ b c, b ∈ b0 :: bs → c ∈ b0 :: bs → alike (enc b) (enc c) = true) ∧ (∀ b, b ∈ b0 :: bs → enc b ≠ .none ∧ (enc b).depth ≤ 60) ∧ ∀ y, RV y (bestOf (fun b c => dataLt (enc b) (enc c)) b0 bs) → Q y H
theorem argBest_lt' (bt : Nat → Nat → Bool) : ∀ m, argBest bt m ≤ m := by
  intro m
  induction m with
  | zero => exact Nat.le_refl _
  | succ m ih =>
    unfold argBest
    split
    · exact Nat.le_refl _
    · exact Nat.le_succ_of_le ih
section
variable {X : Cx}
theorem cr_minD (hc : X.calm = true) (hu : X.A.units + 66 < cLine) : CallR X (.builtin "min") (rMinD X.K) := by
  intro pins s σ H vs us Q I r h
  obtain ⟨β, RV, enc, a, xs, b0, bs, rfl, hs, hp, hd, hal, hz, q⟩ := h
  obtain ⟨its, rv, hl, hle⟩ := I.list hs
  rw [Vals.ref1 r]
  have hlen : its.length = (b0 :: bs).length := by rw [← rv.length, pd_len hp]
  have at_ : ∀ {i : Nat} {v : Value}, its.toArray[i]? = some v → ∃ b, (b0 :: bs)[i]? = some b ∧ ∃ x, RelV x v ∧ RV x b := fun {i v} e => by
    have e' : its[i]? = some v := by simpa using e
    obtain ⟨x, h1, h2⟩ := pd_get rv e'
    obtain ⟨b, h3, h4⟩ := pd_get' hp h1
    exact ⟨b, h3, x, h2, h4⟩
  refine minCall (I.ok.hd hc) hl.isList (by rw [List.size_toArray, hlen]; exact Nat.succ_pos _) (fun i j => dataLt (enc ((b0 :: bs).getD i b0)) (enc ((b0 :: bs).getD j b0))) (fun i j vi vj s' k pi pj => ?_) fun v h' tk pv k => ?_
  · obtain ⟨b, e1, x, r1, r2⟩ := at_ pi
    obtain ⟨c, e2, y, r3, r4⟩ := at_ pj
    obtain ⟨as, q1⟩ := Dp.reads I _ x vi (hd x b r2) r1
    obtain ⟨cs, q2⟩ := Dp.reads I _ y vj (hd y c r4) r3
    have m1 := List.mem_of_getElem? e1
    have m2 := List.mem_of_getElem? e2
    have g1 : (b0 :: bs).getD i b0 = b := by rw [List.getD_eq_getElem?_getD, e1]; rfl
    have g2 : (b0 :: bs).getD j b0 = c := by rw [List.getD_eq_getElem?_getD, e2]; rfl
    show RcLt _ _ _ _ (dataLt (enc ((b0 :: bs).getD i b0)) (enc ((b0 :: bs).getD j b0)))
    rw [g1, g2]
    refine rcLt_alike _ _ _ _ _ _ as cs (PyProof.Rows.Reads.keeps k q1) (PyProof.Rows.Reads.keeps k q2) (hal b c m1 m2) (hz b m1).1 ?_
    have d1 := (hz b m1).2
    show X.A.units + 1 + min (enc b).depth (enc c).depth < cLine
    omega
  · obtain ⟨b, e1, x, r1, r2⟩ := at_ pv
    have hm : its.toArray.size - 1 = bs.length := by rw [List.size_toArray, hlen]; simp
    rw [hm] at e1
    have eb : bestOf (fun b c => dataLt (enc b) (enc c)) b0 bs = b := by
      have := argBest_best (fun b c => dataLt (enc b) (enc c)) b0 (b0 :: bs) bs.length (by simp)
      rw [List.getD_eq_getElem?_getD, e1] at this
      simpa using this.symm
    exact ⟨x, H, I.kept k, r1, q x (by rw [eb]; exact r2)⟩
end
end K81
set_option maxRecDepth 100000
set_option maxHeartbeats 4000000
/-! Own rules: zip of a list and a tuple, sum of a tuple, a tuple times one. -/
namespace K81
open PySem PySem.Spec PyProof.Rows L2
/-- the list at a and the tuple at b as they stand at each turn, the items in new pairs -/
def Itm (K : PySem.W.Frag) (a b : Addr) : It where
  go := fun i H => ∃ (xs ys : List V) (x y : V), SqL K H a xs ∧ SqT K H b ys ∧ xs[i]? = some x ∧ ys[i]? = some y
  yld := fun i H v H' => ∃ T x y, v = .ref T ∧ H T = none ∧ H' = upd H T (.tup [x, y]) ∧ (∀ xs, SqL K H a xs → xs[i]? = some x) ∧ ∀ ys, SqT K H b ys → ys[i]? = some y
  stop := fun i H => ∃ xs ys : List V, SqL K H a xs ∧ SqT K H b ys ∧ xs.length = i ∧ ys.length = i
theorem zip5 {c z TI TO i1 i2 : Addr} (h : c ∈ [z, TO, i1, i2]) : c ∈ [z, TI, TO, i1, i2] := by
  rcases List.mem_cons.mp h with e | h
  · rw [e]; exact List.mem_cons_self
  · exact List.mem_cons_of_mem _ (List.mem_cons_of_mem _ h)
theorem turn_mix {P : Program} {w : World} {K : PySem.W.Frag} {elts : List Expr} {kk : Nat} {tpos : Pos} {a b z TI TO i1 i2 : Addr} (S : ZipSep2 z TI TO i1 i2 [i1, a] [i2, b]) (na : a ≠ i1) (nb : b ≠ i2) :
    Turn P w K (.Tuple elts kk tpos) (Itm K a b) [z, TI, TO, i1, i2] z
      (fun i h => IsZip h z TI TO .none ∧ IsTupOf2 h TI (.ref i1) (.ref i2) ∧ (∃ x y, IsTupOf2 h TO x y) ∧ h.IsListIter i1 a i ∧ h.IsTupleIter i2 b i) where
  mem := by simp
  obj := fun i h st c hc => by
    obtain ⟨q1, q2, ⟨x, y, q3⟩, ⟨o1, e1, _, d1⟩, ⟨o2, e2, _, d2⟩⟩ := st
    have hc' : c = z ∨ c = TI ∨ c = TO ∨ c = i1 ∨ c = i2 := by simpa using hc
    rcases hc' with e | e | e | e | e
    · subst e; exact ⟨_, q1, fun v q => nomatch q⟩
    · subst e; exact ⟨_, q2, fun v q => nomatch q⟩
    · subst e; exact ⟨_, q3, fun v q => nomatch q⟩
    · exact ⟨o1, e ▸ e1, fun v q => by rw [d1] at q; cases q⟩
    · exact ⟨o2, e ▸ e2, fun v q => by rw [d2] at q; cases q⟩
  keep := fun i h h' st k => by
    obtain ⟨q1, q2, ⟨x, y, q3⟩, q4, q5⟩ := st
    exact ⟨k z (by simp) _ q1, k TI (by simp) _ q2, ⟨x, y, k TO (by simp) _ q3⟩, q4.at fun o q => k i1 (by simp) o q, q5.at fun o q => k i2 (by simp) o q⟩
  item := by
    intro X hP hw hK hc i pins s σ H E I hf st hg
    subst hP hw hK
    obtain ⟨xs, ys, x, y, hqx, hqy, hx, hy⟩ := hg
    obtain ⟨its, rv, p, _⟩ := I.list hqx
    obtain ⟨its2, rv2, p2, _⟩ := I.tuple hqy
    obtain ⟨u, hu, ru⟩ := rv.get hx
    obtain ⟨u2, hu2, ru2⟩ := rv2.get hy
    have l1 : i < its.toArray.size := by rw [List.size_toArray]; exact (List.getElem?_eq_some_iff.mp hu).1
    have l2 : i < its2.toArray.size := by rw [List.size_toArray]; exact (List.getElem?_eq_some_iff.mp hu2).1
    have D1 := Draws.list (prog := X.prog) (w := X.w) (A := X.A.in1) (I.ok.hd hc) i1 a na its.toArray
    have D2 := Draws.tuple (prog := X.prog) (w := X.w) (A := X.A.in1) (I.ok.hd hc) i2 b nb its2.toArray
    refine (GoesN.zip2 (elts := elts) (x1 := kk) (pos := tpos) S D1 D2).goes i s (fun v s2 => ∃ x H', Inv X pins σ H' s2 ∧ RelV x v ∧ (Itm X.K a b).yld i H x H' ∧ _ ∧ ∀ c ∈ [z, TI, TO, i1, i2], H' c = none) E (Nat.lt_min.mpr ⟨l1, l2⟩)
      ⟨st.1, st.2.1, st.2.2.1, ⟨st.2.2.2.1, p.isList⟩, ⟨st.2.2.2.2, p2⟩⟩ fun v h' tk hY st' k _ => ?_
    obtain ⟨T, v1, v2, ev, hT, e1, e2, tup⟩ := hY
    have ev1 : v1 = u := by
      have := e1.symm.trans (show its.toArray[i]? = some u by simpa using hu)
      exact Option.some.inj this
    have ev2 : v2 = u2 := by
      have := e2.symm.trans (show its2.toArray[i]? = some u2 by simpa using hu2)
      exact Option.some.inj this
    subst ev ev1 ev2
    have new : ObjOk X.prog X.w (upd H T (.tup [x, y])) h' T (.tup [x, y]) := ⟨by show 2 ≤ sizeLine; decide, [v1, v2], .cons ru (.cons ru2 .nil), tup⟩
    have I1 : Inv X pins σ (upd H T (.tup [x, y])) { s with heap := h', toks := tk } := I.turnedNew (t' := tk) (ch := [z, TI, TO, i1, i2]) (fun c o hb q => k c o (fun m => hb (zip5 m)) q) hf hT new
    refine ⟨.ref T, _, I1, rfl, ⟨T, x, y, rfl, I.hok.fresh hT, rfl, fun l hl => by rw [I.list_inj hl hqx]; exact hx, fun l hl => by rw [I.tuple_inj hl hqy]; exact hy⟩, ⟨st'.1, st'.2.1, st'.2.2.1, st'.2.2.2.1.1, st'.2.2.2.2.1⟩, fun c hcm => ?_⟩
    have hlt : c < s.heap.objs.size := by
      obtain ⟨q1, q2, ⟨x, y, q3⟩, ⟨o1, q4, _⟩, ⟨o2, q5, _⟩⟩ := st
      have hc' : c = z ∨ c = TI ∨ c = TO ∨ c = i1 ∨ c = i2 := by simpa using hcm
      rcases hc' with e | e | e | e | e
      · rw [e]; exact Heap.lt_size q1
      · rw [e]; exact Heap.lt_size q2
      · rw [e]; exact Heap.lt_size q3
      · rw [e]; exact Heap.lt_size q4
      · rw [e]; exact Heap.lt_size q5
    rw [upd_ne (Nat.ne_of_lt (Nat.lt_of_lt_of_le hlt hT))]
    exact (hf c hcm).1
  done := by
    intro X hP hw hK hc i pins s σ H E I hf st hg
    subst hP hw hK
    obtain ⟨xs, ys, hqx, hqy, hx, hy⟩ := hg
    obtain ⟨its, rv, p, _⟩ := I.list hqx
    obtain ⟨its2, rv2, p2, _⟩ := I.tuple hqy
    have D1 := Draws.list (prog := X.prog) (w := X.w) (A := X.A.in1) (I.ok.hd hc) i1 a na its.toArray
    have D2 := Draws.tuple (prog := X.prog) (w := X.w) (A := X.A.in1) (I.ok.hd hc) i2 b nb its2.toArray
    have en : min its.toArray.size its2.toArray.size = i := by
      rw [List.size_toArray, List.size_toArray, ← rv.length, ← rv2.length, hx, hy, Nat.min_self]
    have G := (GoesN.zip2 (elts := elts) (x1 := kk) (pos := tpos) S D1 D2).stops s (fun s1 => Inv X pins σ H s1) E
    rw [en] at G
    exact G ⟨st.1, st.2.1, st.2.2.1, ⟨st.2.2.2.1, p.isList⟩, ⟨st.2.2.2.2, p2⟩⟩ fun h' tk k _ => I.turnedL (t' := tk) (ch := [z, TI, TO, i1, i2]) (fun c o hb q => k c o (fun m => hb (zip5 m)) q) hf
  self := fun A i s Q E st h => wpAny_pyIter_zip st.1 h

def iZipM (K : PySem.W.Frag) (ta : TA) : TI := fun σ H R => ta σ H fun vs H1 => ∃ a b xs ys, vs = [.ref a, .ref b] ∧ SqL K H1 a xs ∧ SqT K H1 b ys ∧ R (Itm K a b) H1
theorem pi_zipM {X : Cx} {e e2 : Expr} {ta : TA} {p pos tpos : Pos} {elts : List Expr} {kk : Nat} (hg : Gl X "zip") (hm : X.mg "zip" = none) (ha : PA X [e, e2] ta)
    (hs : starEach [e, e2] X.env = (false, eval e X.env) :: starEach [e2] X.env := by rfl) (hpl : (backTo pos (starEach [e2] X.env)).any (·.1) = false := by rfl) :
    PI X (.Tuple elts kk tpos) (.Call (.Name "zip" p) [e, e2] [] pos) (iZipM X.K ta) := by
  refine ⟨fun pins s σ H R I h => ?_⟩
  refine Call_ (ld_blt I hg hm PyProof.Rows.boot_zip (PyProof.Rows.callWith_type1 (thn (ha.run pos pins s σ H _ I h) fun us s1 ⟨vs, H1, I1, r1, q1⟩ => ?_) hs hpl))
  obtain ⟨a, b, xs, ys, ex, hqx, hqy, q⟩ := q1
  subst ex
  cases r1 with
  | cons r rr =>
    cases rr with
    | cons r' rr =>
      cases rr
      cases r
      cases r'
      obtain ⟨its, rv, p1, _⟩ := I1.list hqx
      obtain ⟨its2, rv2, p2, _⟩ := I1.tuple hqy
      have la := p1.lt
      have lb := p2.lt
      refine zip_begins2 (begins_list a its.toArray) (begins_tuple b its2.toArray) p1.isList p2 fun h' hz hTI hTO h1 h2 hsz hk => wpAny_pyIter_zip hz ?_
      have I2 : Inv X pins σ H1 { s1 with heap := h' } := I1.kept (t' := s1.toks) hk
      refine ⟨s1.heap.objs.size + 4, [s1.heap.objs.size + 4, s1.heap.objs.size + 2, s1.heap.objs.size + 3, s1.heap.objs.size, s1.heap.objs.size + 1], _, _, H1, rfl, I2,
        turn_mix (zip_sep2 (N := s1.heap.objs.size) (fp1 := [a]) (fp2 := [b]) (fun c m => by rw [List.mem_singleton.mp m]; exact la) (fun c m => by rw [List.mem_singleton.mp m]; exact lb)) (Nat.ne_of_lt la) (Nat.ne_of_lt (Nat.lt_succ_of_lt lb)),
        ⟨hz, hTI, ⟨_, _, hTO⟩, ⟨_, h1, rfl, rfl⟩, ⟨_, h2, rfl, rfl⟩⟩, fun c m => ?_, q⟩
      have hle : s1.heap.objs.size ≤ c := by
        have e' : c = s1.heap.objs.size + 4 ∨ c = s1.heap.objs.size + 2 ∨ c = s1.heap.objs.size + 3 ∨ c = s1.heap.objs.size ∨ c = s1.heap.objs.size + 1 := by simpa using m
        rcases e' with e | e | e | e | e <;> rw [e] <;> first | exact Nat.le_add_right _ _ | exact Nat.le_refl _
      exact I1.fpOk hle (I1.hok.fresh hle)
theorem walk_mix {K : PySem.W.Frag} {a b : Addr} {xs ys : List V} {n : Nat} (hx : xs.length = n) (hy : ys.length = n) : Walk (Itm K a b) n (fun H => SqL K H a xs ∧ SqT K H b ys) (YPair (fun i => xs[i]?) (fun i => ys[i]?)) := by
  refine ⟨fun i _ hi q => ?_, fun _ q => ⟨xs, ys, q.1, q.2, hx, hy⟩, fun i H v H' _ q y => ?_⟩
  · have h1 : i < xs.length := by omega
    have h2 : i < ys.length := by omega
    exact ⟨xs, ys, xs[i], ys[i], q.1, q.2, by simp [h1], by simp [h2]⟩
  · obtain ⟨T, x, z, h1, h2, h3, h4, h5⟩ := y
    exact ⟨T, x, z, h1, h2, h3, h4 xs q.1, h5 ys q.2⟩
end K81
set_option maxRecDepth 100000
set_option maxHeartbeats 4000000
/-! Own rules: sum of a tuple, a tuple times one. -/
namespace K81
open PySem PySem.Spec PyProof.Rows L2
section
variable {P : Program} {w : World} {A : Around} {E : Value → Shared → Prop} {s : Shared}
theorem sumTup {l : Addr} {its : List Value} {ns : List Int} {Q : Value → Shared → Prop} (hh : A.handled = none) (hl : s.heap.IsTuple l its.toArray) (hi : IntsAre its ns)
    (h : ∀ h' tk t', (∀ b o, s.heap.get? b = some o → h'.get? b = some o) → Q (.int ns.sum t') { s with heap := h', toks := tk }) : wpAny (model P w) A (call (.builtin "sum") [.ref l]) Q E s := by
  obtain ⟨xs, e⟩ := hi.allInts.items
  have hn : numsOf (intItems xs).toList = ns := by rw [← e]; exact hi.numsOf
  rw [nums_intItems] at hn
  rw [e] at hl
  have hlt : l < s.heap.objs.size := by obtain ⟨o, e, _⟩ := id hl; exact Heap.lt_size e
  refine call_sum_walkG (wpAny_pyIter_tuple hl ?_)
  refine ⟨_, _, _, _, _, _, numAt xs, rfl, Walks.tuple (A := A.in1) hh s.heap.objs.size l (Nat.ne_of_lt hlt) (intItems xs), ⟨⟨_, Heap.get?_push_size _ rfl, rfl, rfl⟩, hl.push _⟩, fun b hb => ?_, (fun _ _ => intItems_at), fun h' tk t' hk => ?_⟩
  · show b < (s.heap.push _).objs.size
    rw [Heap.size_push]
    rcases List.mem_cons.mp hb with z | hb
    · rw [z]; exact Nat.lt_succ_self _
    · rw [List.mem_singleton.mp hb]; exact Nat.lt_succ_of_lt hlt
  · have k2 : ∀ b o, s.heap.get? b = some o → h'.get? b = some o := fun b o q => hk b o (fun m => absurd ((List.mem_singleton.mp m) ▸ Heap.lt_size q) (Nat.lt_irrefl _)) (Heap.get?_push_of_some _ q)
    have q := h h' tk t' k2
    rw [show (intItems xs).size = xs.size by simp [intItems], preSum_eq, List.take_of_length_le (by simp), hn]
    exact q
end
def rSumT (K : PySem.W.Frag) : List V → Hp → VK → Prop := fun vs H Q => ∃ (a : Addr) (ns : List Int), vs = [V.ref a] ∧ SqT K H a (ns.map V.int) ∧ Q (.int ns.sum) H
section
variable {X : Cx}
theorem cr_sumT (hc : X.calm = true) : CallR X (.builtin "sum") (rSumT X.K) := by
  intro pins s σ H vs us Q I r h
  obtain ⟨a, ns, rfl, hs, q⟩ := h
  obtain ⟨its, rv, hl, _⟩ := I.tuple hs
  rw [Vals.ref1 r]
  exact sumTup (I.ok.hd hc) hl rv.ints fun h' tk t' hk => ⟨.int _, H, I.kept hk, ⟨_, rfl⟩, q⟩
end
theorem tuple_mul1 (l : Addr) (items : Array Value) (n : Nat) (dd : Option Addr) (sl : Array (Option Value)) (u : Tok) :
    Meets (Builtin.«tuple.__mul__» ⟨[.ref l, .int 1 u], []⟩) (fun _ R s => s.heap.get? l = some { cls := .type "tuple", dict := dd, data := .seq items n, slots := sl } ∧ R (.ok (.ret (Value.ref l))) s) :=
  .of_wp fun prog w A R s h => by
    obtain ⟨hp, g, d, tk, os⟩ := s
    obtain ⟨hl, h⟩ := h
    have f1 := AutoSeq1.idx_int
    wp_walk using wpAny_loadPart' hl
    exact ⟨_, rfl, h⟩
/-- t * k, k from 1 on: t itself, or a new one -/
def rRepA (K : PySem.W.Frag) : R2 := fun x y H Q => ∃ l k xs, x = .ref l ∧ y = .int k ∧ H l = some (.tup xs) ∧ xs ≠ [] ∧ 1 ≤ k ∧ k ≤ 1000 ∧ xs.length ≤ 1000 ∧
  ∀ p H', (∀ b o, H b = some o → H' b = some o) → H' p = some (.tup (List.replicate k.toNat xs).flatten) → Q (.ref p) H'
section
variable {X : Cx}
theorem op_repA : OpR X (binaryOp .Mult) (rRepA X.K) := by
  intro pins s σ H x y v u Q I rx ry h
  obtain ⟨l, k, xs, ex, ey, hT, hne, h1, h2, hz, q⟩ := h
  by_cases hk : 2 ≤ k
  · refine op_repT pins s σ H x y v u Q I rx ry ⟨l, k, xs, ex, ey, SqT.of hT, hne, hk, h2, hz, fun p np => q p _ (fun b o e => ?_) upd_same⟩
    rw [upd_ne (ne_of_none e np)]
    exact e
  · have e1 : k = 1 := by omega
    subst e1 ex ey
    cases rx
    obtain ⟨t, rfl⟩ := ry
    obtain ⟨its, r, ⟨⟨cls, dd, data, sl⟩, ho, hc, n, hd⟩, hs⟩ := I.tuple (SqT.of hT)
    simp only at hc hd
    subst hc hd
    refine wpAny_binaryOp_repeat_ref (T := "tuple") (U := "int") (by decide) ⟨_, ho, rfl⟩ (fun s' => typeIs_int s' 1 t) noFill_tuple_mul F.fills_int_mul F.slot_int_rmul repeat_tuple F.slot_int_index.lookup
      (call_meets F.slot_int_rmul (typeIs_int s 1 t) F.entry_int_rmul (F.args_int_rmul_2 _ _) (int_rmul_tuple 1 t l its.toArray n dd sl)
        ⟨ho, rfl, ⟨_, ho, rfl⟩, call_meets F.slot_tuple_mul ⟨_, ho, rfl⟩ F.entry_tuple_mul (F.args_tuple_mul_2 _ _) (tuple_mul1 l its.toArray n dd sl t) ⟨ho, ?_⟩⟩)
    exact ⟨.ref l, H, I, rfl, q l H (fun _ _ e => e) (by rw [hT]; simp)⟩
end
end K81
set_option maxRecDepth 100000
set_option maxHeartbeats 4000000
/-! Own rules: a lambda that captures cells, handed to a def of the top (the callee is judged over a greater base: all that is not tracked and no frame). -/
namespace K81
open PySem PySem.Spec PyProof.Rows L2 LamX NdefX
/-! ### the greater base -/
def big (X : Cx) (h : Heap) (H : Hp) : Heap := PySem.W.hideAll h (trk h H ++ frs X.stack)
section
variable {X : Cx} {pins : List (Addr × Obj)} {σ : L2.St} {H : Hp} {s : Shared}
theorem big_get {b : Addr} {o : Obj} (e : s.heap.get? b = some o) (n : H b = none) (nf : b ∉ frs X.stack) : (big X s.heap H).get? b = some o :=
  PySem.W.hideAll_get _ e fun hm => (List.mem_append.mp hm).elim (fun z => by
    have q : (H b).isSome = true := (List.mem_filter.mp z).2
    rw [n] at q
    simp at q) nf
theorem of_big {b : Addr} {o : Obj} (e : (big X s.heap H).get? b = some o) : s.heap.get? b = some o ∧ H b = none ∧ b ∉ frs X.stack := by
  have e1 : s.heap.get? b = some o := PySem.W.of_hideAll _ e
  refine ⟨e1, ?_, fun z => ?_⟩
  · cases q : H b with
    | none => rfl
    | some x =>
      have hm : b ∈ trk s.heap H ++ frs X.stack := List.mem_append_left _ (List.mem_filter.mpr ⟨List.mem_range.mpr (Heap.lt_size e1), by simp [q]⟩)
      have z : (big X s.heap H).get? b = none := PySem.W.hideAll_none _ hm
      rw [z] at e
      cases e
  · have q : (big X s.heap H).get? b = none := PySem.W.hideAll_none _ (List.mem_append_right _ z)
    rw [q] at e
    cases e
theorem big_sub (I : L2.Inv X pins σ H s) : ∀ b o, X.base.get? b = some o → (big X s.heap H).get? b = some o := fun b o e => by
  obtain ⟨e1, n⟩ := I.bs b o e
  refine big_get e1 n fun z => ?_
  have q := (I.stack.mem z).1
  rw [e] at q
  cases q
theorem big_env0 (I : L2.Inv X pins σ H s) : Env0 X.prog X.w X.K X.mg (big X s.heap H) X.A X.stack s H := by
  have sub := big_sub I
  obtain ⟨m1, m2, ⟨mb, m3, m4⟩, m5⟩ := I.ok.mod
  refine ⟨I.ok.frames, ⟨m1.keeps sub, m2.keeps sub, ⟨mb, m3.keeps sub, m4⟩, m5.keeps sub⟩, fun b o e => ⟨(of_big e).1, (of_big e).2.1⟩, ?_, ?_, I.stkFree, I.hok, I.bare⟩
  · have q : (big X s.heap H).objs.size = s.heap.objs.size := PySem.W.hideAll_size _ _
    rw [q]
    exact Nat.le_refl _
  · refine funFrames_none I.stack fun L hL => ?_
    cases e : (big X s.heap H).get? L with
    | none => rfl
    | some o => exact absurd hL (of_big e).2.2
end
/-! ### a call of a def of the top, judged over the greater base -/
/-- sp hangs on what the slots js hold -/
def tBig (js : List Nat) (sp : List V → Sp) (t : TA) : TE := fun σ H Q => ∃ ws : List V, js.map (fun j => σ[j]?) = ws.map (fun v => some (some v)) ∧ t σ H fun vs H1 => sp ws vs H1 Q E0
theorem pe_big {X : Cx} {k : Nat} {x : Str} {ps : List Str} {sp : List V → Sp} {js : List Nat} {p pos : Pos} {e : Expr} {es : List Expr} {t : TA}
    (hD : ∀ (ws : List V) (pins : List (Addr × Obj)) (σ : L2.St) (H : Hp) (s : Shared), L2.Inv X pins σ H s → js.map (fun j => σ[j]?) = ws.map (fun v => some (some v)) → Def X.prog X.w X.K X.mg (big X s.heap H) CX0 k x ps (sp ws))
    (hx : ∃ f, X.mg x = some (.ref f) ∧ PySem.W.keepIn X.K (.ref f) = true) (hr : Room k X.A) (hg : Gl X x) (ha : PA X (e :: es) t)
    (hdb : (x == ("__debug__" : Str)) = false := by decide) (he : starEach (e :: es) X.env = (false, eval e X.env) :: starEach es X.env := by rfl) (hpl : (backTo pos (starEach es X.env)).any (·.1) = false := by rfl) :
    PE X (.Call (.Name x p) (e :: es) [] pos) (tBig js sp t) := by
  obtain ⟨f, hm, hk⟩ := hx
  refine ⟨fun pins s σ H Q I h => ?_⟩
  obtain ⟨ws, hw, ht⟩ := h
  refine wpAny_Call_Name_kw (ld_glob I hg hm ?_ hdb)
  refine PySem.W.callWith_K (h₀ := X.base) I.ok.mod.kin hk (thn (ha.run pos pins s σ H _ I ht) fun us s1 ⟨vs, H1, I1, r, q⟩ => ⟨I1.kIn, ?_⟩) he hpl
  obtain ⟨f', fd, h1, F, _, hb⟩ := (hD ws pins σ H1 s1 I1 hw).ex
  have ef : f' = f := by
    have z := h1.symm.trans hm
    cases z
    rfl
  subst ef
  have hl : (us ++ []).length = ps.length := by rw [List.append_nil, ← r.length]; exact F.len _ _ _ _ q
  have hbb := hb s1 us I1.kIn hl
  rw [List.append_nil] at hbb
  refine wpAny_call (codeAny_mono (F.run X.A X.stack s1 H1 ⟨us, []⟩ us vs Q E0 hr (big_env0 I1) hbb r q) fun r s' hq => ?_)
  cases r with
  | error e => exact False.elim hq
  | ok fl =>
    cases fl with
    | ret u => exact I1.after hq
    | next => exact False.elim hq
    | brk => exact False.elim hq
    | cont => exact False.elim hq
/-! ### the lambda as a function over a base in which it stands -/
/-- captured cells in a base -/
structure CellsB (base : Heap) (cl : List (Str × Addr)) (fr : List Str) (ws : List V) : Prop where
  len : ws.length = fr.length
  all : ∀ y c, cl.lookup y = some c → ∃ v, base.IsCell c v
  inj : ∀ x y c, cl.lookup x = some c → cl.lookup y = some c → x = y
  has : ∀ (i : Nat) (y : Str), fr[i]? = some y → ∃ c, cl.lookup y = some c ∧ ∀ v, ws[i]? = some v → ∃ u, L2.RelV v u ∧ base.IsCell c (some u)
abbrev lamF (q : Str) (params : Arguments) (scope : Scope) (cl : List (Str × Addr)) (c' : Addr) : NF := ⟨"<lambda>", q, params, [], scope, cl, c'⟩
theorem lam_fn {P : Program} {w : World} {K : PySem.W.Frag} {mg : Str → Option Value} {base : Heap} {k : Nat} {f c' : Addr} {q : Str} {params : Arguments} {body : Expr} {scope : Scope} {cl : List (Str × Addr)} {pm ctv : Value} {N ps fr : List Str} {ws : List V} {sp : Sp}
    (ho : base.get? f = some (PySem.W.kla_obj "<lambda>" q params body scope cl pm c' ctv)) (S : NScope N ps fr scope) (C : CellsB base cl fr ws)
    (len : ∀ vs H Q E, sp vs H Q E → vs.length = ps.length) (hc : ∀ vs H Q E, sp vs H Q E → H c' = some (CodeO c' q))
    (hbody : ∀ (A : Around) (outer : List Env) (s : Shared) (H : Hp) (vs : List V) (Q : VK) (E : XK), Room k (A.deeper (envF (lamF q params scope cl c') f s.heap.objs.size)) → sp vs H Q E →
      ∃ t, PE (ncx CX0 P w K mg base N (lamF q params scope cl c') f A outer s H E) body t ∧ t (startF N vs (ws.map some)) H Q) :
    FnOk P w K mg base CX0 (k + 1) f (PySem.W.kla_fn "<lambda>" q params body scope cl pm (.ref c') ctv) ps sp := by
  refine ⟨len, fun A outer s H args us vs Q E hr e0 hbt r hsp => ?_⟩
  have hl := len _ _ _ _ hsp
  have kp0 : ∀ b o, base.get? b = some o → s.heap.get? b = some o := fun b o e => (e0.bs b o e).1
  have lim : s.heap.NoLimit := e0.mod.nolimit.keeps kp0
  have hcell : ∀ {c : Addr} {v : Option Value}, base.IsCell c v → s.heap.IsCell c v ∧ H c = none := fun {c v} ⟨o, z, d⟩ => ⟨⟨o, kp0 _ _ z, d⟩, (e0.bs _ _ z).2⟩
  have CA : CellsAt cl fr (ws.map some) s.heap H := by
    refine ⟨by rw [List.length_map]; exact C.len, fun y c e => ?_, C.inj, fun i y e => ?_⟩
    · obtain ⟨v, z⟩ := C.all y c e
      exact ⟨(hcell z).2, v, (hcell z).1⟩
    · obtain ⟨c, e1, hv⟩ := C.has i y e
      refine ⟨c, e1, fun v z => ?_⟩
      rw [List.getElem?_map] at z
      cases hw : ws[i]? with
      | none =>
        rw [hw] at z
        cases z
      | some v' =>
        rw [hw] at z
        cases z
        obtain ⟨u, ru, hu⟩ := hv v hw
        exact ⟨u, ru, (hcell hu).1⟩
  refine PySem.W.kla_callFunE hr.depth (kp0 _ _ ho) rfl S.co S.gen rfl (codeO_at e0.hok (hc _ _ _ _ hsp)) (hbt _ _ _ _ ?_)
  refine wpAny_newFunctionEnv S.nocell (fun ⟨n, _⟩ hy => S.par n (List.of_mem_zip hy).1) (fun h₁ hns hsb => ⟨lim.fresh _ hsb, ?_⟩) S.kind
  show codeAny _ _ (.expr body (envF (lamF q params scope cl c') f s.heap.objs.size)) _ _
  have kp : ∀ b o, s.heap.get? b = some o → h₁.get? b = some o := fun b o e => hsb.extBut b o (Nat.ne_of_lt (Heap.lt_size e)) (Heap.get?_push_of_some _ e)
  obtain ⟨t, ht, hq⟩ := hbody A outer s H vs Q E (hr.deeper _) hsp
  have J : L2.Inv (ncx CX0 P w K mg base N (lamF q params scope cl c') f A outer s H E) [] (startF N vs (ws.map some)) H { s with heap := h₁, toks := s.toks + (ps.zip us).length } :=
    inv_startN (F := lamF q params scope cl c') S hr.hd e0 hl r CA hns kp
  refine PySem.W.kla_codeExpr (wpAny_mono (ht.run [] _ _ H Q J hq) (fun v s' ⟨w', H', J', rv, q'⟩ => ?_) fun e s' z => z)
  exact ⟨w', H', J'.os, J'.bare, J'.base, J'.hok, rv, q'⟩
/-! ### y = lambda ..; then a statement in whose states the new function stands as a pin -/
def tLam2 (T : List (Addr × Str)) (q : Str) (i : Nat) (t2 : Addr → Addr → TS) (u : TS) : TS := fun D σ H => Tabs T H ∧
  ∀ (f c' : Addr) (H1 : Hp), ExtN H H1 → Tabs T H1 → H1 f = none → H1 c' = some (CodeO c' q) → t2 f c' { D with nx := u D } (σ.set i (some (.ref f))) H1
theorem pss_lam {X : Cx} {T : List (Addr × Str)} {c P : Addr} {params : Arguments} {body : Expr} {scope : Scope} {lpos p1 p2 : Pos} {yl : Str} {i : Nat} {s2 : Stmt} {rest : List Stmt} {t2 : Addr → Addr → TS} {u : TS}
    (TB : TabB X.base X.mg c P) (hcode : X.env.code = .ref c) (hm : (P, X.env.qual ++ "<lambda>") ∈ T) (hu : ∀ p ∈ T, p.1 = P → p.2 = X.env.qual ++ "<lambda>") (hdef : defaultsOf params X.env = ([], []))
    (hfree : ∀ y ∈ scope.names, y.2 = .free → X.env.scope.names.lookup y.1 = some .cell ∨ X.env.scope.names.lookup y.1 = some .free) (hN : X.N.Nodup) (hi : X.N[i]? = some yl) (hl : X.env.scope.names.lookup yl = some .local)
    (hs : X.stack = X.env :: X.outer) (hf : X.env.frame = some X.env.locals) (hsw : swapsWith (.Lambda params body scope lpos) (some (.Name yl p1)) p2.line X.env = pure false)
    (h2 : ∀ (f c' : Addr) (pm ctv : Value) (pn : List (Addr × Obj)), (f, PySem.W.kla_obj "<lambda>" (X.env.qual ++ "<lambda>") params body scope (cloFrom X.env.cells scope.names []) pm c' ctv) ∈ pn → PS (X.tr pn X.xe) s2 (t2 f c'))
    (h3 : PSs X rest u) : PSs X (.Assign [.Name yl p1] (.Lambda params body scope lpos) p2 :: s2 :: rest) (tLam2 T (X.env.qual ++ "<lambda>") i t2 u) := by
  refine ⟨fun pins s σ H D I h => ?_⟩
  obtain ⟨hT, h⟩ := h
  have ok := I.ok
  refine wpAny_execs_cons (wpAny_Assign_Name (lam_make2 I TB hcode hm hu hT hdef (fun y hy e => (hfree y hy e).elim (fun k => ok.has _ (.inl k)) fun k => ok.has _ (.inr k)) fun f c' pm ctv H1 s1 I1 eN T1 hob hfn hfr hco => ?_) hsw)
  have nL : f ≠ X.env.locals := fun z => hfr (List.mem_filterMap.mpr ⟨X.env, by rw [hs]; exact List.mem_cons_self, by rw [hf, z]⟩)
  have nF : f ∉ X.fs := fun z => by
    obtain ⟨e, he, q⟩ := List.mem_filterMap.mp z
    exact hfr (List.mem_filterMap.mpr ⟨e, by rw [hs]; exact List.mem_cons_of_mem _ he, q⟩)
  have I2 : L2.Inv X (pins ++ [(f, PySem.W.kla_obj "<lambda>" (X.env.qual ++ "<lambda>") params body scope (cloFrom X.env.cells scope.names []) pm c' ctv)]) σ H1 s1 := I1.pins_of fun p hp => by
    rcases List.mem_append.mp hp with z | z
    · exact I1.pin p (List.mem_append_right _ z)
    · rw [List.mem_singleton.mp z]
      exact ⟨hob, hfn, nL, nF, fun v z => nomatch z⟩
  refine store_ok (v := .ref f) I2 hN hi (.inl hl) rfl (fun s3 I3 => ?_) (.inr hl)
  have h2' := h2 f c' pm ctv (X.pn ++ (pins ++ [(f, PySem.W.kla_obj "<lambda>" (X.env.qual ++ "<lambda>") params body scope (cloFrom X.env.cells scope.names []) pm c' ctv)]))
    (List.mem_append_right _ (List.mem_append_right _ List.mem_cons_self))
  refine wpAny_execs_cons (wpAny_mono (h2'.run [] s3 _ H1 _ (I3.toTry X.xe) (h f c' H1 eN T1 hfn hco)) (fun fl s4 q => ?_) fun e s4 q => q)
  cases fl with
  | next =>
    obtain ⟨σ', H', J, q⟩ := q
    exact h3.run pins s4 σ' H' D (J.ofTry ok).unpinned q
  | ret v =>
    obtain ⟨x, σ', H', J, r, q⟩ := q
    exact ⟨x, σ', H', (J.ofTry ok).unpinned, r, q⟩
  | brk =>
    obtain ⟨σ', H', J, q⟩ := q
    exact ⟨σ', H', (J.ofTry ok).unpinned, q⟩
  | cont =>
    obtain ⟨σ', H', J, q⟩ := q
    exact ⟨σ', H', (J.ofTry ok).unpinned, q⟩
/-! ### what the greater base holds of a pinned lambda and of the running def's cells -/
section
variable {X : Cx} {pins : List (Addr × Obj)} {σ : L2.St} {H : Hp} {s : Shared}
theorem pin_big (I : L2.Inv X pins σ H s) {f : Addr} {o : Obj} (hp : (f, o) ∈ X.pn) : (big X s.heap H).get? f = some o := by
  obtain ⟨e, n, nL, nF, _⟩ := I.pin (f, o) (List.mem_append_left _ hp)
  exact big_get e n fun z => (List.mem_cons.mp (I.stkSub _ z)).elim nL nF
theorem cell_big (I : L2.Inv X pins σ H s) (hfn : ∀ x, X.fn x = true) {y : Str} {c : Addr} (e : X.env.cells.lookup y = some c) {v : Option Value} (h : s.heap.IsCell c v) : (big X s.heap H).IsCell c v := by
  obtain ⟨o, ho, hd⟩ := h
  refine ⟨o, big_get ho (I.freeC y c e) fun z => ?_, hd⟩
  rcases List.mem_cons.mp (I.stkSub _ z) with q | q
  · exact I.cne y c e q
  · obtain ⟨_, o', h0, _⟩ := I.ok.funs.mem q
    exact Nat.lt_irrefl _ (Nat.lt_of_lt_of_le (Heap.lt_size h0) (I.ok.cab y c (hfn y) e))
theorem slots_get {js : List Nat} {ws : List V} (hw : js.map (fun j => σ[j]?) = ws.map (fun v => some (some v))) {i : Nat} {v : V} (h : ws[i]? = some v) : (js.map (slotAt σ))[i]? = some (some v) := by
  have q : (js.map fun j => σ[j]?)[i]? = some (some (some v)) := by rw [hw, List.getElem?_map, h] <;> rfl
  rw [List.getElem?_map] at q ⊢
  cases e : js[i]? with
  | none =>
    rw [e] at q
    cases q
  | some j =>
    rw [e] at q
    have q' : σ[j]? = some (some v) := Option.some.inj (show some (σ[j]?) = some (some (some v)) from q)
    show some (slotAt σ j) = some (some v)
    rw [slotAt_of q']
theorem cellsB_big (I : L2.Inv X pins σ H s) (hfn : ∀ x, X.fn x = true) {cl : List (Str × Addr)} {fr : List Str} {js : List Nat} (cp : Caps X cl fr js) {ws : List V} (hw : js.map (fun j => σ[j]?) = ws.map (fun v => some (some v))) : CellsB (big X s.heap H) cl fr ws := by
  have C := cells_of I cp
  refine ⟨?_, fun y c e => ?_, C.inj, fun i y e => ?_⟩
  · have q := congrArg List.length hw
    rw [List.length_map, List.length_map] at q
    have q2 := C.len
    rw [List.length_map] at q2
    omega
  · obtain ⟨_, v, z⟩ := C.all y c e
    exact ⟨v, cell_big I hfn (cp.sub y c e) z⟩
  · obtain ⟨c, e1, hv⟩ := C.has i y e
    refine ⟨c, e1, fun v ev => ?_⟩
    obtain ⟨u, r, z⟩ := hv v (slots_get hw ev)
    exact ⟨u, r, cell_big I hfn (cp.sub y c e1) z⟩
end
end K81
set_option maxRecDepth 100000
set_option maxHeartbeats 4000000
/-! Own rules: an exception class over ValueError (through another) whose __init__ says super().__init__(a text) and stores its one argument. -/
namespace K81
open PySem PySem.Spec PyProof.Rows L2 LamX NdefX
open PySem.W (kxs_mw KxsFacts ks_superIn ks_superObj)
/-- the body of such an __init__ -/
def excBody (z : Str) (fld : Str) (j : Nat) (q0 q1 q2 q3 q4 q5 q6 q7 q8 q9 : Pos) : List Stmt :=
  [.Expr (.Call (.Attribute (.Call (.Name "super" q0) [] [] q1) "__init__" q2) [.Constant (.str z) j q3] [] q4) q5,
   .Assign [.Attribute (.Name "self" q6) fld q7] (.Name fld q8) q9]
/-- what the written part tells of the class at C and its __init__ at f -/
structure ExcC (P : Program) (K : PySem.W.Frag) (mg : Str → Option Value) (C f : Addr) (qual fld : Str) (params : Arguments) (body : List Stmt) (scope : Scope) : Prop where
  oex : OexC K C
  fn : ∃ (oc : Value) (od : Option Addr) (kV doc pm ct : Value) (an : Option Addr) (osl : Array (Option Value)) (cda cc : Addr) (ccl cl : Value) (cdd cld : Option Addr) (vs : Array Value) (ccs csl : Array (Option Value)) (file : Str) (tf : Tok),
    K.lookup f = some ⟨oc, od, .func (PySem.W.fnX "__init__" qual params body scope [("__class__", cc)] .none kV doc pm an (.ref cda) ct), osl⟩ ∧ PySem.W.codeIn K (.ref cda) qual = true ∧
    K.lookup cda = some ⟨ccl, cdd, .fields vs, ccs⟩ ∧ vs[2]? = some (.str file tf) ∧ ((P.main.file : Str) == file) = true ∧ K.lookup cc = some ⟨cl, cld, .cell (some (.ref C)), csl⟩
  cls : ∃ cd, PySem.W.clsIn K C = some cd
  sub : PySem.W.mroIn K C (.ref C) = some true
  along : ks_superIn K C C "__init__" = some (some (.builtin "ValueError.__init__"))
  subVE : PySem.W.subIn K (.ref C) (.type "ValueError") = some true
  opq : PySem.W.nsIn K cStatics "thirdparty.any" = some none
  sup : mg "super" = none
  noF : PySem.W.findIn K (.ref C) fld = some none
  ini : PySem.W.findIn K (.ref C) "__init__" = some (some (.ref f))
  tyF : PySem.W.typeIn K (.ref f) = some (.type "function")
abbrev eN (fld : Str) : List Str := [("self" : Str), fld, ("__class__" : Str)]
abbrev eP (fld : Str) : List Str := [("self" : Str), fld]
/-- its promise: the one argument is stored in the new dict -/
def spExc (C : Addr) (fld : Str) : Sp := fun vs H Q _ => ∃ (a : Addr) (v : V), vs = [.ref a, v] ∧ H a = some (exo a C none) ∧ ∀ d, H d = none → d ≠ a → Q .non (upd (upd H d (exd d [(fld, v)])) a (exo a C (some d)))
theorem mw_call {P : Program} {w : World} {A : Around} {E : Value → Shared → Prop} {h : Heap} {g : Array GenState} {d : Drawn} {t : Nat} {os : OsState} {nm q : Str} {C N u x t0 : Addr} {bs bm : List Value} {sn : List Str} {sub : List Value} {ab : Bool} {col : Option Bool} {dd : Option Addr}
    {k0 k1 k2 k3 k5 : Option Value} {rest : List Value} {Q : Value → Shared → Prop} (hC : h.get? C = some (excClassObj nm q C N bs bm true sn sub ab col dd k0 k1 k2 k3 k5 "ValueError.__new__"))
    (hu : h.get? u = some (kxs_mw "ValueError.__init__" x)) (hx : h.get? x = some ({ cls := .ref C, dict := none, data := .fields #[.ref t0, .none, .none, .none, .bool false, .none] } : Obj)) (hz : rest.length ≤ sizeLine)
    (hq : ∀ (h' : Heap) (t1 : Addr), (∀ b o, b ≠ x → h.get? b = some o → h'.get? b = some o) → h'.get? x = some ({ cls := .ref C, dict := none, data := .fields #[.ref t1, .none, .none, .none, .bool false, .none] } : Obj) → Q .none ⟨h', g, d, t, os⟩) :
    wpAny (model P w) A (call (.ref u) rest) Q E ⟨h, g, d, t, os⟩ := by
  refine wpAny_call (codeAny_of_tree ?_)
  show wpAny _ A.in1 (callAny (.ref u) ⟨rest, []⟩) _ _ _
  simp only [callAny]
  refine wpAny_bind (wpAny_load hu ?_)
  simp only [show (Value.type "method-wrapper" == Value.type "method" || Value.type "method-wrapper" == Value.type "builtin_function_or_method" || Value.type "method-wrapper" == Value.type "method-wrapper") = true by decide, if_true]
  refine PySem.W.KFB.if_so (by decide) ?_
  refine wpAny_bind (PySem.W.check_bound_init PySem.F.excBase_ValueError.toExcCallFacts hC hx rfl ?_)
  refine wpAny_bind (wpAny_pure (wpAny_pure ?_))
  refine ⟨plainId_quiet PySem.F.excBase_ValueError.init.plain _, codeAny_builtin PySem.F.excBase_ValueError.initEntry ?_⟩
  exact PySem.W.exc_init_tree (cls := .ref C) (t0 := t0) (dv := none) (c2 := .none) (c3 := .none) (b4 := .bool false) hx hz fun h' k e _ => hq h' _ k e
theorem ok_exc {P : Program} {w : World} {K : PySem.W.Frag} {mg : Str → Option Value} {base : Heap} {k : Nat} {C f : Addr} {qual fld z : Str} {params : Arguments} {scope : Scope} {j : Nat} {q0 q1 q2 q3 q4 q5 q6 q7 q8 q9 : Pos}
    (T : ExcC P K mg C f qual fld params (excBody z fld j q0 q1 q2 q3 q4 q5 q6 q7 q8 q9) scope) (S : NScope (eN fld) (eP fld) ["__class__"] scope)
    (hp : ∃ ar, (params.posonlyargs ++ params.args).head? = some ar ∧ ar.arg = ("self" : Str)) (hs : scope.names.lookup ("super" : Str) = some .globalImplicit) (htop : (P.main.scope.names.lookup ("super" : Str)).isSome = false)
    (hq : (q2.endLine == q4.line) = true) (hd1 : (fld == ("__debug__" : Str)) = false) (hd2 : (fld == ("__classdict__" : Str)) = false)
    (hb : ∀ (kV doc pm cdv ct : Value) (an : Option Addr) (cl : List (Str × Addr)) (us : List Value), us.length = (eP fld).length → bindArgs (PySem.W.fnX "__init__" qual params (excBody z fld j q0 q1 q2 q3 q4 q5 q6 q7 q8 q9) scope cl .none kV doc pm an cdv ct) ⟨us, []⟩ = pure ((eP fld).zip us)) :
    ∃ fd, Binds K fd (eP fld) [] ∧ FnOk P w K mg base CX0 (k + 1) f fd (eP fld) (spExc C fld) := by
  obtain ⟨oc, od, kV, doc, pm, ct, an, osl, cda, cc, ccl, cl, cdd, cld, vs0, ccs, csl, file, tf, lk, hcd, lcd, hfile, hmain, lcc⟩ := T.fn
  refine ⟨_, Binds.all (hb kV doc pm (.ref cda) ct an [("__class__", cc)]), ?_⟩
  refine ⟨fun vs H Q E h => by obtain ⟨a, v, rfl, _⟩ := h; rfl, fun A outer s H args us vs Q E hr e0 hbt r hsp => ?_⟩
  have kp0 : ∀ b o, base.get? b = some o → s.heap.get? b = some o := fun b o e => (e0.bs b o e).1
  have KB : K.In base := e0.mod.kin
  have KX : K.In s.heap := KB.keeps kp0
  have lim : s.heap.NoLimit := e0.mod.nolimit.keeps kp0
  obtain ⟨a, v, rfl, ha, q⟩ := hsp
  obtain ⟨uv, rfl, ruv⟩ : ∃ uv, us = [.ref a, uv] ∧ L2.RelV v uv := by
    cases r with
    | cons r1 r2 =>
      cases r2 with
      | cons r3 r4 =>
        cases r4
        cases r1
        exact ⟨_, rfl, r3⟩
  have CA : CellsAt [("__class__", cc)] ["__class__"] [some (.ref C)] s.heap H := by
    have hcell : s.heap.IsCell cc (some (.ref C)) := ⟨_, KX _ _ lcc, rfl⟩
    have hone : ∀ y c, List.lookup y [(("__class__" : Str), cc)] = some c → c = cc := fun y c e => by
      have hm := PySem.mem_of_lookup e
      have z := List.mem_singleton.mp hm
      injection z
    have hkey : ∀ y c, List.lookup y [(("__class__" : Str), cc)] = some c → y = "__class__" := fun y c e => by
      have hm := PySem.mem_of_lookup e
      have z := List.mem_singleton.mp hm
      injection z
    refine ⟨rfl, fun y c e => ?_, fun x y c e1 e2 => (hkey x c e1).trans (hkey y c e2).symm, fun i y e => ?_⟩
    · rw [hone y c e]
      exact ⟨(e0.bs _ _ (KB _ _ lcc)).2, _, hcell⟩
    · cases i with
      | zero =>
        cases e
        refine ⟨cc, by simp [List.lookup], fun v e => ?_⟩
        cases e
        exact ⟨_, rfl, hcell⟩
      | succ i => simp at e
  refine ks_codeAny_call_defAt (fd := PySem.W.fnX "__init__" qual params (excBody z fld j q0 q1 q2 q3 q4 q5 q6 q7 q8 q9) scope [("__class__", cc)] .none kV doc pm an (.ref cda) ct) hr.depth (KX _ _ lk) rfl lim (PySem.W.codeRec_of KX hcd) rfl hbt S.nocell
    (fun ⟨n, _⟩ hy => S.par n (List.of_mem_zip hy).1) (fun h0 hns kp => ?_) S.co S.gen S.kind
  have J : L2.Inv (ncx CX0 P w K mg base (eN fld) (NF.mk "__init__" qual params (excBody z fld j q0 q1 q2 q3 q4 q5 q6 q7 q8 q9) scope [("__class__", cc)] cda) f A outer s H E) [] (startF (eN fld) [.ref a, v] [some (.ref C)]) H
      { s with heap := h0, toks := s.toks + ((eP fld).zip [Value.ref a, uv]).length } :=
    inv_startN (F := NF.mk "__init__" qual params (excBody z fld j q0 q1 q2 q3 q4 q5 q6 q7 q8 q9) scope [("__class__", cc)] cda) S hr.hd e0 rfl r CA hns kp
  generalize hX : ncx CX0 P w K mg base (eN fld) (NF.mk "__init__" qual params (excBody z fld j q0 q1 q2 q3 q4 q5 q6 q7 q8 q9) scope [("__class__", cc)] cda) f A outer s H E = X at J
  have xprog : X.prog = P := by rw [← hX]; rfl
  have xw : X.w = w := by rw [← hX]; rfl
  have xK : X.K = K := by rw [← hX]; rfl
  have xmg : X.mg = mg := by rw [← hX]; rfl
  have xenv : X.env = callEnv (PySem.W.fnX "__init__" qual params (excBody z fld j q0 q1 q2 q3 q4 q5 q6 q7 q8 q9) scope [("__class__", cc)] .none kV doc pm an (.ref cda) ct) s.heap.objs.size f := by rw [← hX]; rfl
  have xN : X.N = eN fld := by rw [← hX]; rfl
  have xA : X.A = A.deeper X.env := by rw [← hX]; rfl
  have xE : X.xe = fun e s' => wpAny (model P w) (A.deeper X.env) (leaving X.env e) (fun _ s'' => CX0 outer H s E e s'') (fun e' s'' => CX0 outer H s E e' s'') s' := by rw [← hX]; rfl
  have xS : X.s_0 = s ∧ X.H_0 = H ∧ X.fs = frs outer ∧ X.ex = [] := by rw [← hX]; exact ⟨rfl, rfl, rfl, rfl⟩
  rw [← xenv]
  obtain ⟨ar, har, harg⟩ := hp
  generalize hs1 : ({ s with heap := h0, toks := s.toks + ((eP fld).zip [Value.ref a, uv]).length } : Shared) = s1 at J
  have J0 := J
  obtain ⟨hh, g, d, t, os⟩ := s1
  have KH : K.In hh := xK ▸ J.kIn
  obtain ⟨nm, qn, Nm, bs, bm, sn, sub, ab, col, dd, k0, k1, k2, k3, k5, hC, hbm⟩ := T.oex.cls
  obtain ⟨t0, hoe⟩ := exo_at J.hok ha
  obtain ⟨cd, hcl⟩ := T.cls
  obtain ⟨oD, hD1, hD2⟩ : ∃ oD, hh.get? C = some oD ∧ oD.data = .cls cd := by
    unfold PySem.W.clsIn at hcl
    split at hcl
    · rename_i c d cd' sl ho
      cases hcl
      exact ⟨_, KH _ _ ho, rfl⟩
    · cases hcl
  have kf : X.env.kindOf "super" = some .globalImplicit := by rw [xenv]; exact hs
  have kc : X.env.kindOf "__class__" = some .free := by rw [xenv]; exact S.frk _ (by simp)
  have ks : X.env.kindOf "self" = some .local := by rw [xenv]; exact S.par _ (by simp)
  have kk : X.env.scope.kind = .function := J.ok.kind
  obtain ⟨mb, hb1, hb2⟩ := J.mod.blt
  obtain ⟨m, hn, hl⟩ := J.loc
  have hself : m "self" = some (.ref a) := by
    obtain ⟨u, ru, l⟩ := hl 0 "self" (.ref a) (by rw [xN]; rfl) rfl (.inl ks)
    cases ru
    rcases l with ⟨_, e⟩ | ⟨e, _⟩
    · exact e
    · rcases e with e | e <;> rw [ks] at e <;> cases e
  obtain ⟨pl, he⟩ : ∃ pl : Sem Bool, eval (.Call (.Attribute (.Call (.Name "super" q0) [] [] q1) "__init__" q2) [.Constant (.str z) j q3] [] q4) X.env = (do
      let ov ← attributeBase (.Call (.Name "super" q0) [] [] q1) "__init__" X.env (eval (.Call (.Name "super" q0) [] [] q1) X.env)
      standAt q2.atName
      let (f, first) ← holding [ov] (getMethod ov "__init__" pl)
      callWith q4 f first (backTo q4 (starEach [.Constant (.str z) j q3] X.env)) []) := by
    have e : methodCallPos true (.Call (.Name "super" q0) [] [] q1) X.env q2 q4 = pure q4 := by
      unfold methodCallPos
      rw [hq]
      rfl
    refine ⟨(do return (← importBound (.Call (.Name "super" q0) [] [] q1) X.env).getD true), ?_⟩
    show (do
      let ov ← attributeBase (.Call (.Name "super" q0) [] [] q1) "__init__" X.env (eval (.Call (.Name "super" q0) [] [] q1) X.env)
      standAt q2.atName
      let (f, first) ← holding [ov] (getMethod ov "__init__" (do return (← importBound (.Call (.Name "super" q0) [] [] q1) X.env).getD true))
      let cp ← methodCallPos true (.Call (.Name "super" q0) [] [] q1) X.env q2 q4
      callWith cp f first (backTo q4 (starEach [.Constant (.str z) j q3] X.env)) []) = _
    rw [e]
    rfl
  have hi : interactive X.env = false := J.quiet
  have hsw : swapsWith (.Call (.Attribute (.Call (.Name "super" q0) [] [] q1) "__init__" q2) [.Constant (.str z) j q3] [] q4) none q5.line X.env = pure false := by rfl
  refine PySem.ks_wpAt_execs_cons (PySem.ks_wpAt_Expr_any (PySem.ks_wpAt_MethodCall (pl := pl) (PySem.ks_wpAt_super_base (prog := P) (env := X.env) kf kc (by decide) (by rw [xenv]; rfl) (KH _ _ lk) rfl har (by rw [xenv]; rfl) (KH _ _ lcd) rfl hfile hmain htop ?_) he) hi hsw)
  have gN : hh.Ns X.env.globals mg := by rw [J.ok.glob, ← xmg]; exact J.mod.glob.keeps J.bk
  have bN : hh.Ns X.env.builtins mb := by rw [J.ok.blt]; exact hb1.keeps J.bk
  refine PySem.W.ks_loadName_global kk kf (Calls.loadGlobal_builtin gN T.sup bN ((hb2 _ (by decide)).trans (by decide +kernel : bootBuiltins "super" = some (.type "super"))) ⟨rfl, ?_⟩)
  have hcc : X.env.cells.lookup ("__class__" : Str) = some cc := by rw [xenv]; rfl
  refine wpAny_loadName_free kk kc hcc ⟨_, KH _ _ lcc, rfl⟩ ?_
  rw [harg]
  refine wpAny_loadName_local kk ks hn hself ?_
  refine PySem.ks_wpAny_isType_cls hD1 hD2 ⟨rfl, ?_⟩
  refine PySem.ks_wpAny_call_super hD1 hD2 hoe rfl (fun c e => nomatch e) (PySem.W.looks_mroIn KH T.sub) (fun h1 e1 k1 => ?_)
  have KH1 : K.In h1 := KH.keeps k1
  have hoe1 := k1 _ _ hoe
  have hin : PySem.W.Looks (model P w) h1 (isInstance (.ref a) (.type "ValueError")) true := (PySem.W.InstAt.type (od := none) ⟨hoe1, rfl, rfl, trivial⟩).andThen (PySem.W.looks_subIn KH1 T.subVE)
  have hal := T.along
  unfold ks_superIn at hal
  rw [hcl] at hal
  have haC : a ≠ C := fun z => by
    rw [z, hD1] at hoe
    have z2 := Option.some.inj hoe
    subst z2
    cases hD2
  refine PySem.W.kxs_getMethod PySem.W.kxs_ValueError e1 (PySem.W.looks_opaque KH1 T.opq) (l₀ := cd.mro) (fun A Q E s k q => wpAny_bind ((PySem.W.looks_clsIn KH1 hcl) A _ E s k (wpAny_pure q))) rfl KH1 hal hin haC (by decide) ?_
  have z1 : (h1.push (kxs_mw "ValueError.__init__" a)).get? h1.objs.size = some (kxs_mw "ValueError.__init__" a) := Heap.get?_push_at rfl rfl
  have k2 : ∀ b o, hh.get? b = some o → (h1.push (kxs_mw "ValueError.__init__" a)).get? b = some o := fun b o e => Heap.get?_push_of_some _ (k1 b o e)
  refine PySem.W.kxs_callWith (i := "ValueError.__init__") (x := a) (by rfl) (Calls.evalArgs_plain ?_)
  show wpAny _ _ (spliced ((false, eval (.Constant (.str z) j q3) X.env) :: backTo q4 (starEach [] X.env))) _ _ _
  refine Calls.spliced_cons (Calls.Constant_str ?_)
  refine Calls.spliced_nil ⟨z1, ?_⟩
  have J1 : L2.Inv X [] (startF (eN fld) [.ref a, v] [some (.ref C)]) H ⟨h1.push (kxs_mw "ValueError.__init__" a), g, d, t + 1 + 1, os⟩ := J.kept (t' := t + 1 + 1) k2
  refine mw_call (C := C) (x := a) (t0 := t0) (k2 _ _ (KH _ _ hC)) z1 (k2 _ _ hoe) (by show 1 ≤ sizeLine; decide) fun h3 t3 k3 e3 => ?_
  have J2 := J1.write (t' := t + 1 + 1) (x := a) (e := a) (o := exo a C none) (by rw [ha]; exact True.intro) (.inl rfl) k3 ⟨_, e3⟩ (exo_ok e3)
  have eu : upd H a (exo a C none) = H := by
    funext b
    by_cases hb : b = a
    · rw [hb, upd_same, ha]
    · rw [upd_ne hb]
  rw [eu] at J2
  -- self.f = f, and the end
  have st2 : PSs X [.Assign [.Attribute (.Name "self" q6) fld q7] (.Name fld q8) q9] (tOst X.K fld (tVar 0) (tVar 1)) :=
    pss_one (ps_ost (pe_var (i := 0) (by rw [xN]; rfl) (.inl ks)) (pe_var (i := 1) (by rw [xN]; rfl) (.inl (by rw [xenv]; exact S.par _ (by simp))) hd1 hd2) (by rfl))
  have rd : tOst X.K fld (tVar 0) (tVar 1) { nx := fun _ H' => Q .non H', rt := Q } (startF (eN fld) [.ref a, v] [some (.ref C)]) H :=
    ⟨v, rfl, .ref a, rfl, a, C, rfl, xK ▸ T.oex, xK ▸ T.noF, .inl ⟨ha, fun dx n ne => q dx n ne⟩⟩
  have run2 := st2.run [] _ _ H _ J2 rd
  rw [xprog, xw, xA, xE] at run2
  refine wpAt_of_wpAny (wpAny_mono run2 (fun fl s4 hs4 => ?_) fun e s4 x => x)
  have fin : ∀ {σ' : L2.St} {H' : Hp} {y : V} {u : Value}, L2.Inv X [] σ' H' s4 → L2.RelV y u → Q y H' → CE outer P w H s Q u s4 := fun {σ' H' y u} J' ry qy => by
    obtain ⟨x1, x2, x3, x4⟩ := xS
    have u1 := J'.base
    rw [x1, x2, x3, x4] at u1
    have o1 := J'.os
    rw [x1] at o1
    have h1 := J'.hok
    rw [xprog, xw] at h1
    exact ⟨y, H', o1, J'.bare, u1, h1, ry, qy⟩
  cases fl with
  | next =>
    obtain ⟨σ', H', J', qy⟩ := hs4
    exact fin (y := .non) (u := .none) J' rfl qy
  | ret u =>
    obtain ⟨y, σ', H', J', ry, qy⟩ := hs4
    exact fin J' ry qy
  | brk =>
    obtain ⟨_, _, _, z⟩ := hs4
    exact z.elim
  | cont =>
    obtain ⟨_, _, _, z⟩ := hs4
    exact z.elim
end K81
set_option maxRecDepth 100000
set_option maxHeartbeats 4000000
/-! Own rules: raise of such an exception; try with several clauses under one name. -/
namespace K81
open PySem PySem.Spec PyProof.Rows L2 LamX NdefX
/-- a class of exceptions whose __init__ keeps its promise -/
structure ExcD (P : Program) (w : World) (K : PySem.W.Frag) (mg : Str → Option Value) (base : Heap) (x fld : Str) (C : Addr) : Prop where
  gC : mg x = some (.ref C)
  oex : OexC K C
  fn : ∃ (k : Nat) (f : Addr) (fd : FuncData), k ≤ 1 ∧ PySem.W.findIn K (.ref C) "__init__" = some (some (.ref f)) ∧ PySem.W.typeIn K (.ref f) = some (.type "function") ∧ Binds K fd (eP fld) [] ∧ FnOk P w K mg base CX0 k f fd (eP fld) (spExc C fld)
/-- x(e): the new exception's dict is new -/
def tMkE (C : Addr) (fld : Str) (ta : TA) : L2.St → Hp → XK → Prop := fun σ H Q => ta σ H fun vs H1 => ∃ v, vs = [v] ∧ ∀ d, H1 d = none → Q (.ref C) (some d) (upd H1 d (.xd [(fld, v)]))
theorem pmk_exc {X : Cx} {x fld : Str} {C : Addr} {e : Expr} {ta : TA} {p pos : Pos} (D : ExcD X.prog X.w X.K X.mg X.base x fld C) (hr : Room 2 X.A) (hg : Gl X x) (ha : PA X [e] ta)
    (hdb : (x == ("__debug__" : Str)) = false := by decide) (he : starEach [e] X.env = (false, eval e X.env) :: starEach [] X.env := by rfl) (hpl : (backTo pos (starEach [] X.env)).any (·.1) = false := by rfl) :
    PMk X (.Call (.Name x p) [e] [] pos) (tMkE C fld ta) := by
  obtain ⟨k, f, fd, hk, iC, tI, hb, F⟩ := D.fn
  intro pins s σ H Q I h
  have ha' : PA X [e] (fun σ H Q => ∃ R : List V → Hp → Prop, ta σ H R ∧ ∀ vs H1, R vs H1 → Q vs H1) :=
    ⟨fun pos pins s σ H Q I ⟨R, h1, h2⟩ => thn (ha.run pos pins s σ H R I h1) fun us s1 ⟨vs, H1, I1, r, q⟩ => ⟨vs, H1, I1, r, h2 vs H1 q⟩⟩
  refine pmk_oex D.oex iC tI (F.mono hk) hr hb .nil (pass0 (X := X)) hg D.gC ha' hdb he hpl pins s σ H Q I ⟨_, h, fun vs H1 ⟨v, ev, q⟩ => ?_⟩
  subst ev
  refine ⟨by show 1 ≤ 1000; decide, fun a na => ⟨a, v, rfl, upd_same, fun d nd ne => ⟨rfl, d, [(fld, v)], upd_same, ?_, ?_, ?_⟩⟩⟩
  · rw [upd_ne ne, upd_same]
  · rw [upd_ne ne] at nd
    exact nd
  · have nd' : H1 d = none := by
      rw [upd_ne ne] at nd
      exact nd
    have eq : upd (del (upd (upd (upd H1 a (exo a C none)) d (exd d [(fld, v)])) a (exo a C (some d))) a) d (.xd [(fld, v)]) = upd H1 d (.xd [(fld, v)]) := by
      funext b
      by_cases hbd : b = d
      · rw [hbd, upd_same, upd_same]
      · rw [upd_ne hbd, upd_ne hbd]
        by_cases hba : b = a
        · rw [hba, del_same, na]
        · rw [del_ne hba, upd_ne hba, upd_ne hbd, upd_ne hba]
    rw [eq]
    exact q d nd'
/-! ### try: body / except A as n: .. / except B as n: .. -/
/-- a clause: its class, the wish of its suite -/
abbrev Cl := Value × (Addr → Value → Option Addr → TS)
def offI (i : Nat) (D : Ends) : Ends where
  nx := fun σ' H' => D.nx (σ'.set i none) H'
  rt := D.rt
  bk := fun σ' H' => D.bk (σ'.set i none) H'
  ct := fun σ' H' => D.ct (σ'.set i none) H'
/-- what the clauses, one after the other, wish of an exception of the body -/
def wCls (K : PySem.W.Frag) (i : Nat) (Wout : WX) (D : Ends) : List Cl → WX
  | [] => Wout
  | (c, ts) :: r => fun cls d σ H => ∃ b, PySem.W.exmOne K cls c = some b ∧ (b = true → ∀ a, H a = none → ts a cls d (offI i D) (σ.set i (some (.ref a))) H) ∧ (b = false → wCls K i Wout D r cls d σ H)
inductive ClsOk (X : Cx) (n : Str) : List ExceptHandler → List Cl → Prop
  | nil : ClsOk X n [] []
  | cons {x : Str} {c : Value} {ts : Addr → Value → Option Addr → TS} {b : Stmt} {bs : List Stmt} {np pos' : Pos} {hs : List ExceptHandler} {l : List Cl} (hc : Names X x c)
      (suite : ∀ (a : Addr) (oe : Obj) (cls : Value) (d : Option Addr) (pn : List (Addr × Obj)), Zc cls d oe → (∃ vs, oe.data = .fields vs) → PSs (X.suite a ((a, oe) :: pn)) (b :: bs) (ts a cls d)) (r : ClsOk X n hs l) :
      ClsOk X n (.ExceptHandler (some (.Name x np)) (some n) (b :: bs) pos' :: hs) ((c, ts) :: l)
theorem ps_try_cls {X : Cx} {n : Str} {i : Nat} {body : List Stmt} {h1 : ExceptHandler} {hs : List ExceptHandler} {l : List Cl} {pos : Pos} {tb : WX → TS} {Wout : WX}
    (hst : X.stack = X.env :: X.outer) (hf : X.env.frame = some X.env.locals) (hN : X.N.Nodup) (hi : X.N[i]? = some n) (hln : X.env.kindOf n = some .local) (tk : Takes X Wout)
    (hb : ∀ (W : WX) (pn : List (Addr × Obj)) (xe : Value → Shared → Prop), Takes (X.tr pn xe) W → PassesOwn (model X.prog X.w) X.A X.env xe → PSs (X.tr pn xe) body (tb W)) (hh : ClsOk X n (h1 :: hs) l) :
    PS X (.Try body (h1 :: hs) [] [] pos) (fun D σ H => tb (wCls X.K i Wout D l) D σ H) := by
  refine ⟨fun pins s σ H D I h => ?_⟩
  have ok := I.ok
  have hfr : X.A.frames = some (X.env :: X.outer) := by rw [ok.frames, hst]
  have hloc : Loc X.env.scope n := .inl hln
  refine wpAny_Try_except ?_
  refine wpAny_mono ((hb (wCls X.K i Wout D l) (X.pn ++ pins) (fun e s₁ => wpAny (model X.prog X.w) X.A (noteFrame e X.env) (fun _ s₂ => wpAny (model X.prog X.w) X.A (setFlight e none) (fun _ s₃ =>
    wpAny (model X.prog X.w) X.A (handleBy e X.env (h1 :: hs)) (SP X pins D) X.xe s₃) X.xe s₂) X.xe s₁) (fun u s' xx => ?_) PassesOwn.looking).run [] s σ H D (I.toTry _) h) (fun fl s1 hsp => ?_) (fun e s1 he => he)
  · obtain ⟨a, B, sI, pins', σ', H', cls, d, rfl, J', nb, up, sky, na, os, ag, w⟩ := xx
    have J : L2.Inv X pins σ' H' sI := J'.ofTry ok
    have sky' : Sky B (X.env :: X.outer) a (Zc cls d) X.env.locals s'.heap := by rw [← hst]; exact sky
    show wpAny (model X.prog X.w) X.A (noteFrame (.ref a) X.env) _ _ _
    refine Sky.land Zc.steady hfr hf sky' fun h3 fl3 up3 => ?_
    have J3 : L2.Inv X pins σ' H' { s' with heap := h3 } := J.landed nb fl3.1 (up.trans up3) os ag
    obtain ⟨oe3, vs3, he3, hz3, hd3⟩ := fl3.there
    have nfr : a ∉ frs (X.env :: X.outer) := fun hm => by
      obtain ⟨_, o', e', hnf⟩ := fl3.2.2.1.mem hm
      rw [he3] at e'
      cases e'
      exact hnf _ hd3
    have nL : a ≠ X.env.locals := fun z => nfr (List.mem_filterMap.mpr ⟨X.env, List.mem_cons_self, by rw [hf, z]⟩)
    have nF : a ∉ X.fs := fun hm => by
      obtain ⟨e, he, q⟩ := List.mem_filterMap.mp hm
      exact nfr (List.mem_filterMap.mpr ⟨e, List.mem_cons_of_mem _ he, q⟩)
    have S3 := J3.suite he3 hd3 na nL nF
    have go : ∀ {hs' : List ExceptHandler} {l' : List Cl}, ClsOk X n hs' l' → wCls X.K i Wout D l' cls d σ' H' →
        wpAny (model X.prog X.w) X.A (handleBy (.ref a) X.env hs') (SP X pins D) X.xe { s' with heap := h3 } := by
      intro hs' l' hk
      induction hk with
      | nil =>
        intro w
        refine wpAny_handleBy_nil ?_
        obtain ⟨k1, k2, k3, oe, vs, T, oT, ts', he, hz, hd, t1, hr⟩ := id fl3
        unfold PySem.passOn
        refine wpAny_bind (wpAny_field he hd t1 ?_)
        rw [if_neg (show ¬ ((Value.ref T == Value.none) = true) from by simp)]
        have fin : wpAny (model X.prog X.w) X.A (setFlight (.ref a) X.env.frame) (fun _ s4 => wpAny (model X.prog X.w) X.A (throw (.ref a) : Sem Flow) (SP X pins D) X.xe s4) X.xe { s' with heap := h3 } := by
          rw [hf]
          refine HandSPX.setFlight_upZ fl3 fun h4 hh4 up4 => wpAny_throw (tk _ _ ?_)
          exact ⟨a, B, sI, pins, σ', H', cls, d, rfl, J, nb, (up.trans up3).trans up4, .inr (.inr (by rw [hst]; exact hh4)), na, os, ag, w⟩
        first
          | exact wpAny_bind (wpAny_pure (wpAny_bind fin))
          | exact wpAny_bind fin
      | @cons x c ts b bs np pos' hs2 l2 hc suite r ih =>
        intro w
        obtain ⟨bb, hb1, yes, no⟩ := w
        refine wpAny_handleBy_cons (codeAny_handlers_test ?_) (by intro q; cases q)
        have LT : PySem.W.Looks (model X.prog X.w) h3 (typeOf (.ref a)) cls := fun A Q E s k q => wpAny_typeOf_ref (k _ _ he3) (by rw [hz3.1]; exact q)
        have LM := PySem.W.exm_one (M := model X.prog X.w) (J3.kIn) LT hb1
        have test : ∀ {Q : Value → Shared → Prop} {E : Value → Shared → Prop}, Q c { s' with heap := h3 } → wpAny (model X.prog X.w) (X.A.mark (some (.ref a))) (eval (.Name x np) X.env) Q E { s' with heap := h3 } := fun {Q E} q => by
          obtain ⟨hg, hdbg, hm | ⟨hm, hv, hnn⟩⟩ := hc
          · exact ld_glob (X := X.suite a ((a, oe3) :: (X.pn ++ pins))) S3 hg hm q hdbg
          · exact ld_blt (X := X.suite a ((a, oe3) :: (X.pn ++ pins))) S3 hg hm hv q hnn hdbg
        refine test (LM.here ?_)
        cases bb with
        | true =>
          refine codeAny_handlers_suite_as ?_
          refine HandSPX.lands_againZ fl3 fun h4 fl4 up4 => ?_
          have J4 : L2.Inv X pins σ' H' { s' with heap := h4 } := J.landed nb fl4.1 ((up.trans up3).trans up4) os ag
          obtain ⟨oe4, vs4, he4, hz4, hd4⟩ := fl4.there
          have S4 := J4.suite he4 hd4 na nL nF
          refine store_ok (X := X.suite a ((a, oe4) :: (X.pn ++ pins))) (v := .ref a) S4 hN hi hloc rfl (fun s5 S5 => ?_) (.inr hln)
          refine wpAny_mono ((suite a oe4 cls d (X.pn ++ pins) hz4 ⟨_, hd4⟩).run [] s5 _ H' _ S5 (yes rfl a na)) (fun fl s6 hsp => ?_) (fun _ _ z => False.elim z)
          have off : ∀ {σ6 : L2.St} {H6 : Hp} {Q : Shared → Prop}, L2.Inv (X.suite a ((a, oe4) :: (X.pn ++ pins))) [] σ6 H6 s6 → (∀ s7, L2.Inv X pins (σ6.set i none) H6 s7 → Q s7) →
              wpAny (model X.prog X.w) X.A (do bindName X.env n .none; unbindBehindTheSuite X.env n pos') (fun _ s7 => Q s7) X.xe s6 := fun {σ6 H6 Q} S6 hq => gone_ok (S6.unsuite ok) hN hi hln hq
          cases fl with
          | next =>
            obtain ⟨σ6, H6, S6, q6⟩ := hsp
            exact off S6 fun s7 J7 => ⟨_, _, J7, q6⟩
          | brk =>
            obtain ⟨σ6, H6, S6, q6⟩ := hsp
            exact off S6 fun s7 J7 => ⟨_, _, J7, q6⟩
          | cont =>
            obtain ⟨σ6, H6, S6, q6⟩ := hsp
            exact off S6 fun s7 J7 => ⟨_, _, J7, q6⟩
          | ret u =>
            obtain ⟨v6, σ6, H6, S6, r6, q6⟩ := hsp
            exact off S6 fun s7 J7 => ⟨_, _, _, J7, r6, q6⟩
        | false =>
          show wpAny _ X.A (handleBy (.ref a) X.env hs2) _ _ _
          exact ih (no rfl)
    exact go hh w
  · cases fl with
    | next =>
      obtain ⟨σ', H', J', q⟩ := hsp
      exact wpAny_execs_nil ⟨σ', H', J'.ofTry ok, q⟩
    | brk =>
      obtain ⟨σ', H', J', q⟩ := hsp
      exact ⟨σ', H', J'.ofTry ok, q⟩
    | cont =>
      obtain ⟨σ', H', J', q⟩ := hsp
      exact ⟨σ', H', J'.ofTry ok, q⟩
    | ret u =>
      obtain ⟨v, σ', H', J', r, q⟩ := hsp
      exact ⟨v, σ', H', J'.ofTry ok, r, q⟩
end K81
set_option maxRecDepth 100000
set_option maxHeartbeats 4000000
/-! Own rule: a dict comprehension whose keys are tuples (made after HandS.DictComp's rule for ints and texts). -/
namespace K81
open PySem PySem.Spec PyProof.Rows L2
theorem dt_dictSet {X : Cx} {pins : List (Addr × Obj)} {σ : L2.St} {H : Hp} {s : Shared} {E : Value → Shared → Prop} {D b : Addr} {kvs : List (List Key × V)} {k : List Key} {v : V} {u r : Value} {Q : Unit → Shared → Prop} (hu : X.A.units + 1 < cLine) (I : L2.Inv X pins σ H s)
    (hD : H D = some (.dT kvs)) (hb : H b = some (.tup (k.map kV))) (hz : kvs.length < sizeLine) (ry : L2.RelV (.ref b) u) (rv : L2.RelV v r) (h : ∀ s', L2.Inv X pins σ (upd H D (.dT (putK kvs k v))) s' → Q () s') : wpAny (model X.prog X.w) X.A (dictSet D u r) Q E s := by
  cases (show u = Value.ref b from ry)
  obtain ⟨z, hd, xs, rel, dd⟩ := dt_of I.hok hD
  have hzv : xs.length ≤ sizeLine := by rw [← Paired.length rel]; exact z
  have hl : (putK kvs k v).length ≤ sizeLine := by have := length_putK kvs k v; omega
  refine wpAny_dictSet_heap (hsz := hzv) (show (tupleKind (mixKind X.prog X.w)).room X.A from Nat.lt_of_succ_lt hu) (key_of I.hok hb) dd fun h' dd' hs => h _ ?_
  obtain ⟨q, es, ep, hq, h2, h3, h4, _, h5⟩ := dd'
  refine d_write I (by rw [hD]; exact True.intro) hs ⟨q, hq⟩ ⟨hl, hd, _, (rel.put k hb rv).keeps fun c ys ec => ?_, q, es, ep, hq, h2, h3, h4, h5⟩
  rw [upd_ne (ne_of ec hD (fun z => nomatch z))]
  exact ec
section
variable {X : Cx}
def tDct (wi : TI) (g : TG) (tt : TT) (tk tv : TE) (vs : List Nat) : TE := fun σ H Q => wi σ H fun J H1 => ∀ D, H1 D = none → ∃ W : Nat → Nat → Hp → Prop, (∃ m, W 0 m (upd H1 D (.dT []))) ∧ ∀ i m H, W i m H →
  (J.stop i H ∧ Q (.ref D) H) ∨ (J.go i H ∧ ∃ Nx : Hp → Prop, (∀ H', Nx H' → ∃ m', m' < m ∧ W (i + 1) m' H') ∧ ∀ x H', J.yld i H x H' → g x (wipe σ vs) H' fun σ2 H2 => wipe σ2 vs = wipe σ vs ∧ tt σ2 H2 fun b H3 =>
    if b = true then tk σ2 H3 fun y H4 => tv σ2 H4 fun z H5 => ∃ kvs k b, y = .ref b ∧ H5 b = some (.tup (List.map kV k)) ∧ H5 D = some (.dT kvs) ∧ kvs.length < sizeLine ∧ Nx (upd H5 D (.dT (putK kvs k z))) else Nx H3)
theorem dct_core {pins : List (Addr × Obj)} {s : Shared} {σ : L2.St} {H : Hp} {Q : VK} {kx vx tg iter : Expr} {ifs : List Expr} {scope : Scope} {own : List (Str × Nat)} {pos pos' : Pos} {wi : TI} {g : TG} {tt : TT} {tk tv : TE} {use : Option (Value → Sem Unit)} {Qf : Value → Shared → Prop}
    (hu : X.A.units + 1 < cLine) (hc : X.calm = true) (hN : X.N.Nodup) (I : L2.Inv X pins σ H s) (hi : PI X tg iter wi) (ok : BlkOk X.N X.env.scope scope own)
    (hg : ∀ (s : Shared) (H : Hp) (C : Addr) (cl : List (Str × Addr)) (fp : List Addr), PG (X.blk s H scope (compEnvC scope cl C X.env) fp) tg g) (ht : ∀ (s : Shared) (H : Hp) (C : Addr) (cl : List (Str × Addr)) (fp : List Addr), PTs (X.blk s H scope (compEnvC scope cl C X.env) fp) ifs tt)
    (hk : ∀ (s : Shared) (H : Hp) (C : Addr) (cl : List (Str × Addr)) (fp : List Addr), PE (X.blk s H scope (compEnvC scope cl C X.env) fp) kx tk)
    (he : ∀ (s : Shared) (H : Hp) (C : Addr) (cl : List (Str × Addr)) (fp : List Addr), PE (X.blk s H scope (compEnvC scope cl C X.env) fp) vx tv) (hs : ∀ x, foldedSetIterable iter X.env x = pure x)
    (h : tDct wi g tt tk tv (own.map (·.2)) σ H Q)
    (hRR : ∀ D C s' m H', L2.Inv X pins σ H' s' → Q (.ref D) H' → s'.heap.Ns C m → FpOk X pins H' C → compPost (model X.prog X.w) X.A X.xe use Qf (.ref D) C (.ok .next) s') :
    wpAny (model X.prog X.w) X.A (comprehension (.DictComp kx vx [⟨tg, iter, ifs, 0⟩] scope pos) scope X.env pos' newDict false (eval iter X.env) use) Qf X.xe s := by
  have hfree : ∀ y ∈ scope.names, y.2 = .free → ∃ c, X.env.cells.lookup y.1 = some c := fun y hy e => by
    rcases ok.free y hy e with k | k
    · exact I.ok.has _ (.inl k)
    · exact I.ok.has _ (.inr k)
  refine wpAny_comprehension_free (use := use) rfl hs (closure_ok hfree) ok.kind (fun y hy e => by rw [ok.uniq y hy, e])
    (thn (hi.run pins s σ H _ I h) fun xv s1 hx => thn hx fun itv s2 h2 => ?_)
  obtain ⟨it, fp, tn, J, H2, e, I2, T, st2, f2, q⟩ := h2
  subst e
  refine wpAny_newObj_type (newEnv_comp ?_)
  generalize hD : s2.heap.objs.size = D
  have hDn : H2 D = none := I2.hok.fresh (Nat.le_of_eq hD)
  obtain ⟨W, ⟨m0, w0⟩, turn⟩ := q D hDn
  -- the new list
  generalize hs3 : ({ s2 with heap := s2.heap.push { cls := .type "dict", data := .dict #[] } } : Shared) = s3
  have I3 : L2.Inv X pins σ (upd H2 D (.dT [])) s3 := by
    rw [← hs3]
    refine I2.laid (t' := s2.toks) (fun b o e => Heap.get?_push_of_some _ e) (Nat.le_of_eq hD) ?_
    rw [← hD]
    exact dt_empty s2.heap I2.big
  have h3 : s3.heap = s2.heap.push { cls := .type "dict", data := .dict #[] } := by rw [← hs3]
  have sz : ∀ b ∈ fp, b < s2.heap.objs.size := fun b hb => by
    obtain ⟨o, e, _⟩ := T.obj _ _ st2 b hb
    exact Heap.lt_size e
  have f3 : ∀ b ∈ fp, FpOk X pins (upd H2 D (.dT [])) b ∧ b < s3.heap.objs.size := fun b hb => by
    have hlt := sz b hb
    refine ⟨⟨?_, (f2 b hb).2⟩, by rw [h3, Heap.size_push]; exact Nat.lt_succ_of_lt hlt⟩
    rw [upd_ne (by rw [← hD]; exact Nat.ne_of_lt hlt)]
    exact (f2 b hb).1
  have st3 : tn 0 s3.heap := T.keep _ _ _ st2 fun b _ o e => by rw [h3]; exact Heap.get?_push_of_some _ e
  have I4 := block_start I3 ok hN f3
  have pg := hg s3 (upd H2 D (.dT [])) s3.heap.objs.size (cellsFrom (s3.heap.objs.size + 1) scope.names (cloFrom X.env.cells scope.names [])) fp
  have pt := ht s3 (upd H2 D (.dT [])) s3.heap.objs.size (cellsFrom (s3.heap.objs.size + 1) scope.names (cloFrom X.env.cells scope.names [])) fp
  have pk := hk s3 (upd H2 D (.dT [])) s3.heap.objs.size (cellsFrom (s3.heap.objs.size + 1) scope.names (cloFrom X.env.cells scope.names [])) fp
  have pe := he s3 (upd H2 D (.dT [])) s3.heap.objs.size (cellsFrom (s3.heap.objs.size + 1) scope.names (cloFrom X.env.cells scope.names [])) fp
  show codeAny _ _ (.compStart (.DictComp kx vx [⟨tg, iter, ifs, 0⟩] scope pos) 0 (.ref it) (.ref D) (compEnvC scope (cellsFrom (s3.heap.objs.size + 1) scope.names (cloFrom X.env.cells scope.names [])) s3.heap.objs.size X.env)) (compPost (model X.prog X.w) X.A X.xe use Qf (.ref D) s3.heap.objs.size) { s3 with heap := pushCells (s3.heap.push { cls := .type "dict", data := .dict #[] }) scope.names }
  have nfp : ∀ b ∈ fp, (upd H2 D (.dT [])) b = none := fun b hb => (f3 b hb).1.1
  generalize hce : compEnvC scope (cellsFrom (s3.heap.objs.size + 1) scope.names (cloFrom X.env.cells scope.names [])) s3.heap.objs.size X.env = ce at I4 pg pt pk pe ⊢
  have cL : ce.locals = s3.heap.objs.size := by subst hce; rfl
  generalize hH3 : upd H2 D (.dT []) = H3 at I3 I4 pg pt pk pe w0 nfp f3
  generalize hs4 : ({ s3 with heap := pushCells (s3.heap.push { cls := .type "dict", data := .dict #[] }) scope.names } : Shared) = s4 at I4 ⊢
  have st4 : tn 0 s4.heap := T.keep _ _ _ st3 fun b _ o e => by rw [← hs4]; exact pushCells_keeps _ _ _ _ (Heap.get?_push_of_some _ e)
  have stat : ∀ {σ' : L2.St} {H' : Hp} {s' : Shared}, L2.Inv (X.blk s3 H3 scope ce fp) [] σ' H' s' → (∀ b ∈ fp, H' b = none) → ∀ b ∈ fp, FpOk (X.blk s3 H3 scope ce fp) [] H' b := fun {σ' H' s'} I' hn b hb =>
    ⟨hn b hb, (I'.ok.exf b hb).1, I'.ok.exfs b hb, .inl hb, fun x c e => (I'.ok.exf b hb).2 x c e, fun p hp => absurd (show p ∈ ([] : List (Addr × Obj)) ++ [] from hp) (by simp)⟩
  have loop : codeAny (model X.prog X.w) X.A (.compLoop (.DictComp kx vx [⟨tg, iter, ifs, 0⟩] scope pos) 0 (.ref it) (.ref D) ce) (compPost (model X.prog X.w) X.A X.xe use Qf (.ref D) s3.heap.objs.size) s4 := by
    refine compLoop_anyD (fun n s' => ∃ i H', L2.Inv (X.blk s3 H3 scope ce fp) [] (wipe σ (own.map (·.2))) H' s' ∧ tn i s'.heap ∧ (∀ b ∈ fp, H' b = none) ∧ W i n H') ?_ m0 ⟨0, H3, I4, st4, nfp, w0⟩
    rintro n s5 ⟨i, H5, I5, st5, n5, w5⟩
    rcases turn i n H5 w5 with ⟨stop, qq⟩ | ⟨go, Nx, hNx, step⟩
    · have td := T.done (X.blk s3 H3 scope ce fp) rfl rfl rfl hc i [] s5 _ H5 (fun _ _ => False) I5 (stat I5 n5) st5 stop
      refine thnF td fun r s6 ⟨hr, I6⟩ => ?_
      subst hr
      -- back in the def's context
      have I7 : L2.Inv X pins σ H5 s6 := I3.call' (ch := fp) I6.os I6.base I6.hok I6.bare fun b hb => ⟨(f3 b hb).1.2.2.2.1, (f3 b hb).1.2.1, (f3 b hb).1.2.2.2.2.1, (f3 b hb).1.2.2.2.2.2⟩
      have nC : H5 s3.heap.objs.size = none := by
        have z : H5 ce.locals = none := I6.free
        rw [cL] at z
        exact z
      obtain ⟨m, hn, _⟩ := I6.loc
      have hn : s6.heap.Ns ce.locals m := hn
      rw [cL] at hn
      exact hRR D s3.heap.objs.size s6 m H5 I7 qq hn (I3.fpOk (Nat.le_refl _) nC)
    · have ti := T.item (X.blk s3 H3 scope ce fp) rfl rfl rfl hc i [] s5 _ H5 (fun _ _ => False) I5 (stat I5 n5) st5 go
      refine thnF ti fun r s6 ⟨u, hr, h6⟩ => ?_
      subst hr
      refine thnF h6 fun _ s7 ⟨x, H7, I7, r7, y7, st7, n7⟩ => ?_
      have I7' := I7.pinned (stat I7 n7) (T.obj _ _ st7)
      refine thnF (pg.run _ s7 _ H7 x u _ I7' r7 (step x H7 y7)) fun _ s8 ⟨σ8, H8, I8, hw8, q8⟩ => ?_
      refine thnF (pt.run _ s8 σ8 H8 _ I8 q8) fun b s9 ⟨H9, I9, q9⟩ => ?_
      -- the turn's end
      have fin : ∀ {s' : Shared} {H' : Hp}, L2.Inv (X.blk s3 H3 scope ce fp) ([] ++ pinsAt fp s7.heap) σ8 H' s' → Nx H' → ∃ m, m < n ∧ ∃ i H', L2.Inv (X.blk s3 H3 scope ce fp) [] (wipe σ (own.map (·.2))) H' s' ∧ tn i s'.heap ∧ (∀ b ∈ fp, H' b = none) ∧ W i m H' := fun {s' H'} I' nx => by
        obtain ⟨m', hm, w'⟩ := hNx H' nx
        have pin' : ∀ b ∈ fp, ∀ o, s7.heap.get? b = some o → s'.heap.get? b = some o ∧ H' b = none := fun b hb o e =>
          let z := I'.pin (b, o) (List.mem_append_right _ (List.mem_append_right _ (mem_pinsAt hb e)))
          ⟨z.1, z.2.1⟩
        have hl : (wipe σ (own.map (·.2))).length = σ8.length := by rw [← hw8, wipe_length]
        refine ⟨m', hm, i + 1, H', (I'.unpinned (pins := [])).weak hl (fun j v e => ?_), T.keep _ _ _ st7 fun b hb o e => (pin' b hb o e).1, fun b hb => ?_, w'⟩
        · rw [← hw8] at e
          exact (wipe_some e).1
        · obtain ⟨o, e, _⟩ := T.obj _ _ st7 b hb
          exact (pin' b hb o e).2
      cases b with
      | false =>
        simp only [Bool.false_eq_true, if_false] at q9 ⊢
        exact fin I9 q9
      | true =>
        simp only [if_true] at q9 ⊢
        refine thnF (pk.run _ s9 σ8 H9 _ I9 q9) fun z s10 ⟨yk, H10, I10, r10, q10⟩ => ?_
        refine thnF (pe.run _ s10 σ8 H10 _ I10 q10) fun z2 s11 ⟨yv, H11, I11, r11, kvs, k, kb, ek, hkb, hD11, hz11, nx⟩ => ?_
        subst ek
        exact dt_dictSet (X := X.blk s3 H3 scope ce fp) hu I11 hD11 hkb hz11 r10 r11 fun s12 I12 => fin I12 nx
  exact codeAny_compStart_dict loop (T.self X.A 0 _ _ _ st4 loop)
/-- as a value -/
theorem pe_dct {kx vx tg iter : Expr} {ifs : List Expr} {scope : Scope} {own : List (Str × Nat)} {pos : Pos} {wi : TI} {g : TG} {tt : TT} {tk tv : TE} (hu : X.A.units + 1 < cLine) (hc : X.calm = true) (hN : X.N.Nodup) (hi : PI X tg iter wi) (ok : BlkOk X.N X.env.scope scope own)
    (hg : ∀ (s : Shared) (H : Hp) (C : Addr) (cl : List (Str × Addr)) (fp : List Addr), PG (X.blk s H scope (compEnvC scope cl C X.env) fp) tg g) (ht : ∀ (s : Shared) (H : Hp) (C : Addr) (cl : List (Str × Addr)) (fp : List Addr), PTs (X.blk s H scope (compEnvC scope cl C X.env) fp) ifs tt)
    (hk : ∀ (s : Shared) (H : Hp) (C : Addr) (cl : List (Str × Addr)) (fp : List Addr), PE (X.blk s H scope (compEnvC scope cl C X.env) fp) kx tk)
    (he : ∀ (s : Shared) (H : Hp) (C : Addr) (cl : List (Str × Addr)) (fp : List Addr), PE (X.blk s H scope (compEnvC scope cl C X.env) fp) vx tv) (hs : ∀ x, foldedSetIterable iter X.env x = pure x := by intro _; rfl) :
    PE X (.DictComp kx vx [⟨tg, iter, ifs, 0⟩] scope pos) (tDct wi g tt tk tv (own.map (·.2))) := by
  refine ⟨fun pins s σ H Q I h => ?_⟩
  rw [arm_eval_DictComp]
  refine dct_core hu hc hN I hi ok hg ht hk he hs h fun D C s' m H' I' q hn f => ⟨m, hn, fun h'' sb => ?_⟩
  obtain ⟨f0, f1, f2, f3, f4, f5⟩ := f
  exact ⟨.ref D, H', I'.turned (t' := s'.toks) (fun b o hb e => (sb.2 b hb).trans e) f0 f1 f3 f4 f5, rfl, q⟩
/-- over a tuple that stays -/
theorem dct_tup {K : PySem.W.Frag} {a : Addr} {xs : List V} {g : TG} {tt : TT} {tk tv : TE} {vs : List Nat} {σ : L2.St} {H1 : Hp} {D : Addr} {Qd : Hp → Prop} (Pv : Nat → Hp → Prop) (h0 : Pv 0 (upd H1 D (.dT []))) (hl : ∀ i H, i ≤ xs.length → Pv i H → SqT K H a xs)
    (hs : ∀ i x H, xs[i]? = some x → Pv i H → g x (wipe σ vs) H fun σ2 H2 => wipe σ2 vs = wipe σ vs ∧ tt σ2 H2 fun b H3 =>
      if b = true then tk σ2 H3 fun y H4 => tv σ2 H4 fun z H5 => ∃ kvs k b, y = .ref b ∧ H5 b = some (.tup (List.map kV k)) ∧ H5 D = some (.dT kvs) ∧ kvs.length < sizeLine ∧ Pv (i + 1) (upd H5 D (.dT (putK kvs k z))) else Pv (i + 1) H3) (hd : ∀ H, Pv xs.length H → Qd H) :
    ∃ W : Nat → Nat → Hp → Prop, (∃ m, W 0 m (upd H1 D (.dT []))) ∧ ∀ i m H, W i m H →
      ((Itt K a).stop i H ∧ Qd H) ∨ ((Itt K a).go i H ∧ ∃ Nx : Hp → Prop, (∀ H', Nx H' → ∃ m', m' < m ∧ W (i + 1) m' H') ∧ ∀ x H', (Itt K a).yld i H x H' → g x (wipe σ vs) H' fun σ2 H2 => wipe σ2 vs = wipe σ vs ∧ tt σ2 H2 fun b H3 =>
        if b = true then tk σ2 H3 fun y H4 => tv σ2 H4 fun z H5 => ∃ kvs k b, y = .ref b ∧ H5 b = some (.tup (List.map kV k)) ∧ H5 D = some (.dT kvs) ∧ kvs.length < sizeLine ∧ Nx (upd H5 D (.dT (putK kvs k z))) else Nx H3) := by
  refine ⟨fun i m H => m = xs.length - i ∧ i ≤ xs.length ∧ Pv i H, ⟨xs.length, by simp, Nat.zero_le _, h0⟩, ?_⟩
  rintro i m H ⟨rfl, hi, p⟩
  have q := hl i H hi p
  by_cases hlt : i < xs.length
  · refine .inr ⟨⟨xs, xs[i], q, by simp [hlt]⟩, Pv (i + 1), fun H' p' => ⟨xs.length - (i + 1), by omega, rfl, hlt, p'⟩, fun x H' y => ?_⟩
    obtain ⟨e, y⟩ := y
    subst e
    exact hs i x _ (y xs q) p
  · have e : i = xs.length := by omega
    subst e
    exact .inl ⟨⟨xs, q, Nat.le_refl _⟩, hd H p⟩
end
end K81
set_option maxRecDepth 100000
set_option maxHeartbeats 4000000
/-! The data: tracks, texts, what the text computes of them; how they lie in the heap. -/
namespace K81
open PySem PySem.Spec PyProof.Rows L2
/-! ### texts: rows of letters by number -/
def tx (r : List Nat) : Str := ⟨(r.map (97 + ·)).toArray⟩
theorem tx_app (r s : List Nat) : tx r ++ tx s = tx (r ++ s) := by
  show Str.mk ((tx r).cps ++ (tx s).cps) = _
  unfold tx
  simp
theorem tx_len (r : List Nat) : (tx r).length = r.length := by
  show (tx r).cps.size = _
  unfold tx
  simp
theorem tx_cps (r : List Nat) : (tx r).cps.toList = r.map (97 + ·) := by
  unfold tx
  simp
theorem tx_inj {r s : List Nat} (h : tx r = tx s) : r = s := by
  have e : r.map (97 + ·) = s.map (97 + ·) := by rw [← tx_cps, ← tx_cps, h]
  have inj : ∀ (r s : List Nat), r.map (97 + ·) = s.map (97 + ·) → r = s := by
    intro r
    induction r with
    | nil => intro s h; cases s with
      | nil => rfl
      | cons a s => simp at h
    | cons a r ih => intro s h; cases s with
      | nil => simp at h
      | cons b s =>
        simp only [List.map_cons, List.cons.injEq] at h
        rw [ih s h.2, show a = b by omega]
  exact inj r s e
theorem tx_eq_iff {r s : List Nat} : tx r = tx s ↔ r = s := ⟨tx_inj, fun h => by rw [h]⟩
theorem tx_nil : tx [] = ("" : Str) := by decide
/-! ### tracks -/
/-- an arrow: place, letter, pay, goal -/
abbrev Arr := Nat × Nat × Nat × Nat
structure Tk where
  n : Nat
  arr : List Arr
/-- the steps from a place: letter, pay, goal -/
def steps (T : Tk) (p : Nat) : List (Nat × Nat × Nat) := (T.arr.filter fun a => a.1 == p).map (·.2)
structure Wf (T : Tk) : Prop where
  pos : 1 ≤ T.n
  le : T.n ≤ 14
  ne : 1 ≤ T.arr.length
  len : T.arr.length ≤ 60
  pl : ∀ a ∈ T.arr, a.1 < T.n
  lt : ∀ a ∈ T.arr, a.2.1 < 26
  py : ∀ a ∈ T.arr, a.2.2.1 ≤ 9
  gl : ∀ a ∈ T.arr, a.2.2.2 < T.n
  asc : T.arr.Pairwise fun a b => a.1 < b.1 ∨ (a.1 = b.1 ∧ a.2.1 < b.2.1)
  tot : ∀ p, p < T.n → ∃ a ∈ T.arr, a.1 = p
theorem steps_of {T : Tk} {p : Nat} {s : Nat × Nat × Nat} (h : s ∈ steps T p) : (p, s) ∈ T.arr := by
  unfold steps at h
  obtain ⟨a, ha, e⟩ := List.mem_map.mp h
  obtain ⟨h1, h2⟩ := List.mem_filter.mp ha
  have h3 : a.1 = p := by simpa using h2
  rw [← e, ← h3]
  exact h1
theorem steps_goal {T : Tk} (W : Wf T) {p : Nat} {s : Nat × Nat × Nat} (h : s ∈ steps T p) : s.2.2 < T.n := W.gl _ (steps_of h)
theorem steps_pay {T : Tk} (W : Wf T) {p : Nat} {s : Nat × Nat × Nat} (h : s ∈ steps T p) : s.2.1 ≤ 9 := W.py _ (steps_of h)
theorem steps_letter {T : Tk} (W : Wf T) {p : Nat} {s : Nat × Nat × Nat} (h : s ∈ steps T p) : s.1 < 26 := W.lt _ (steps_of h)
theorem steps_pos {T : Tk} (W : Wf T) {p : Nat} (hp : p < T.n) : 0 < (steps T p).length := by
  obtain ⟨a, ha, e⟩ := W.tot p hp
  unfold steps
  rw [List.length_map]
  exact List.length_pos_of_mem (List.mem_filter.mpr ⟨ha, by simp [e]⟩)
theorem steps_len {T : Tk} (W : Wf T) (p : Nat) : (steps T p).length ≤ 60 := by
  unfold steps
  rw [List.length_map]
  exact Nat.le_trans (List.length_filter_le _ _) W.len
/-- where a text leads -/
def ledM (T : Tk) : Nat → List Nat → Option Nat
  | p, [] => some p
  | p, c :: r => match (steps T p).find? (fun s => s.1 == c) with
    | none => none
    | some s => ledM T s.2.2 r
/-- how many rows there are -/
def cnt (T : Tk) : Nat → Nat → Nat
  | 0, _ => 1
  | k + 1, p => ((steps T p).map fun s => cnt T k s.2.2).sum
/-- a bettor: behind a text, with some coins: a stake, or what is none -/
abbrev Bf := List Nat → Int → Option (List Int)
/-- a row, the coins behind it, the place -/
abbrev It3 := List Nat × Int × Nat
def behindM (T : Tk) (p : Nat) (c : Int) (xs : List Int) : List (Nat × Int × Nat) := ((steps T p).zip xs).map fun q => (q.1.1, c - xs.sum + q.1.2.1 * q.2, q.1.2.2)
def expand (T : Tk) (f : Bf) (x : It3) : List It3 := match f x.1 x.2.1 with
  | none => []
  | some xs => (behindM T x.2.2 x.2.1 xs).map fun q => (x.1 ++ [q.1], q.2.1, q.2.2)
/-- all rows of a length, ascending, with the coins behind them -/
def lv (T : Tk) (f : Bf) (p : Nat) (c : Int) : Nat → List It3
  | 0 => [([], c, p)]
  | k + 1 => (lv T f p c k).flatMap (expand T f)
/-! ### in the heap -/
def TupsP {β : Type} (H : Hp) (f : β → List V) (vs : List V) (bs : List β) : Prop := Paired (fun v b => ∃ p, v = V.ref p ∧ H p = some (.tup (f b))) vs bs
def aV (a : Arr) : List V := [.int a.1, .str (tx [a.2.1]), .int a.2.2.1, .int a.2.2.2]
def sV (s : Nat × Nat × Nat) : List V := [.str (tx [s.1]), .int s.2.1, .int s.2.2]
/-- (letter, coins, place) behind a stake -/
def bV (q : Nat × Int × Nat) : List V := [.str (tx [q.1]), .int q.2.1, .int q.2.2]
/-- (text, coins, place) -/
def wV (x : It3) : List V := [.str (tx x.1), .int x.2.1, .int x.2.2]
/-- (coins, text, place) -/
def eV (x : It3) : List V := [.int x.2.1, .str (tx x.1), .int x.2.2]
/-- (coins, text) -/
def mV (x : Int × List Nat) : List V := [.int x.1, .str (tx x.2)]
structure ToldAt (H : Hp) (t : Addr) (T : Tk) : Prop where
  ex : ∃ ta as, H t = some (.tup [.int T.n, .ref ta]) ∧ H ta = some (.tup as) ∧ TupsP H aV as T.arr
/-- the fields of a track -/
def trF (n : Nat) (ta ka : Addr) : List (Str × V) := putF "kept_arrows" (.ref ka) (putF "arrows" (.ref ta) (putF "places" (.int n) []))
/-- a track of a class in CC; its lists stand where N holds -/
structure TrackAt (CC N : Addr → Prop) (H : Hp) (x : Addr) (T : Tk) : Prop where
  ex : ∃ C dx ta ka as ls, CC C ∧ H x = some (.ins C dx (trF T.n ta ka)) ∧ H ta = some (.tup as) ∧ TupsP H aV as T.arr ∧ H ka = some (.lst ls) ∧ N ka ∧
    Paired (fun v p => ∃ l vs, v = V.ref l ∧ H l = some (.lst vs) ∧ N l ∧ TupsP H sV vs (steps T p)) ls (List.range T.n)
/-- all but what stands where D holds is kept -/
def Kp (D : Addr → Prop) (H H' : Hp) : Prop := ∀ b o, H b = some o → ¬ D b → H' b = some o
theorem Kp.refl {D : Addr → Prop} (H : Hp) : Kp D H H := fun _ _ h _ => h
theorem Kp.trans {D : Addr → Prop} {H H1 H2 : Hp} (a : Kp D H H1) (b : Kp D H1 H2) : Kp D H H2 := fun c o h n => b c o (a c o h n) n
theorem Kp.of {D : Addr → Prop} {H H' : Hp} (a : Same H H') : Kp D H H' := fun c o h _ => a c o h
theorem Same.new {H : Hp} {p : Addr} {o : HO} (h : H p = none) : Same H (upd H p o) := fun b u e => by rw [upd_ne (ne_of_none e h)]; exact e
theorem Same.new2 {H H' : Hp} {p : Addr} {o : HO} (e : Same H H') (h : H' p = none) : Same H (upd H' p o) := e.trans (Same.new h)
/-- a new object grows -/
theorem Same.put {H H' : Hp} {p : Addr} {o : HO} (e : Same H H') (h : H p = none) : Same H (upd H' p o) := fun b u z => by rw [upd_ne (ne_of_none z h)]; exact e b u z
theorem TupsP.mono {β : Type} {H H' : Hp} {f : β → List V} {vs : List V} {bs : List β} (t : TupsP H f vs bs) (k : ∀ b xs, H b = some (.tup xs) → H' b = some (.tup xs)) : TupsP H' f vs bs :=
  pd_imp t fun _ _ ⟨p, e, h⟩ => ⟨p, e, k _ _ h⟩
theorem TupsP.same {β : Type} {H H' : Hp} {f : β → List V} {vs : List V} {bs : List β} (t : TupsP H f vs bs) (k : Same H H') : TupsP H' f vs bs := t.mono fun b xs h => k b _ h
theorem TupsP.get {β : Type} {H : Hp} {f : β → List V} {vs : List V} {bs : List β} (t : TupsP H f vs bs) {i : Nat} {b : β} (h : bs[i]? = some b) : ∃ p, vs[i]? = some (.ref p) ∧ H p = some (.tup (f b)) := by
  obtain ⟨v, e, p, ev, hp⟩ := pd_get t h
  exact ⟨p, by rw [e, ev], hp⟩
theorem TupsP.get' {β : Type} {H : Hp} {f : β → List V} {vs : List V} {bs : List β} (t : TupsP H f vs bs) {i : Nat} {v : V} (h : vs[i]? = some v) : ∃ b p, bs[i]? = some b ∧ v = .ref p ∧ H p = some (.tup (f b)) := by
  obtain ⟨b, e, p, ev, hp⟩ := pd_get' t h
  exact ⟨b, p, e, ev, hp⟩
theorem TupsP.len {β : Type} {H : Hp} {f : β → List V} {vs : List V} {bs : List β} (t : TupsP H f vs bs) : vs.length = bs.length := pd_len t
theorem ToldAt.mono {H H' : Hp} {t : Addr} {T : Tk} (h : ToldAt H t T) (k : ∀ b xs, H b = some (.tup xs) → H' b = some (.tup xs)) : ToldAt H' t T := by
  obtain ⟨ta, as, h1, h2, h3⟩ := h.ex
  exact ⟨ta, as, k _ _ h1, k _ _ h2, h3.mono k⟩
theorem ToldAt.same {H H' : Hp} {t : Addr} {T : Tk} (h : ToldAt H t T) (k : Same H H') : ToldAt H' t T := h.mono fun b xs e => k b _ e
theorem TrackAt.kp {CC N D : Addr → Prop} {H H' : Hp} {x : Addr} {T : Tk} (h : TrackAt CC N H x T) (k : Kp D H H') (hn : ∀ b, N b → ¬ D b) (hd : ∀ b o, H b = some o → (∀ xs, o ≠ .lst xs) → ¬ D b) : TrackAt CC N H' x T := by
  obtain ⟨C, dx, ta, ka, as, ls, h1, h2, h3, h4, h5, h6, h7⟩ := h.ex
  have kt : ∀ b xs, H b = some (.tup xs) → H' b = some (.tup xs) := fun b xs e => k b _ e (hd b _ e fun xs q => nomatch q)
  exact ⟨C, dx, ta, ka, as, ls, h1, k _ _ h2 (hd _ _ h2 fun xs q => nomatch q), kt _ _ h3, h4.mono kt, k _ _ h5 (hn _ h6), h6,
    pd_imp h7 fun v p ⟨l, vs, e, a1, a2, a3⟩ => ⟨l, vs, e, k _ _ a1 (hn _ a2), a2, a3.mono kt⟩⟩
theorem TrackAt.same {CC N : Addr → Prop} {H H' : Hp} {x : Addr} {T : Tk} (h : TrackAt CC N H x T) (k : Same H H') : TrackAt CC N H' x T :=
  h.kp (D := fun _ => False) (Kp.of k) (fun _ _ z => z) fun _ _ _ _ z => z
theorem TrackAt.weak {CC N N' : Addr → Prop} {H : Hp} {x : Addr} {T : Tk} (h : TrackAt CC N H x T) (w : ∀ b o, H b = some o → N b → N' b) : TrackAt CC N' H x T := by
  obtain ⟨C, dx, ta, ka, as, ls, h1, h2, h3, h4, h5, h6, h7⟩ := h.ex
  exact ⟨C, dx, ta, ka, as, ls, h1, h2, h3, h4, h5, w _ _ h5 h6, pd_imp h7 fun v p ⟨l, vs, e, a1, a2, a3⟩ => ⟨l, vs, e, a1, w _ _ a1 a2, a3⟩⟩
theorem n1 : ¬ (("places" : Str) = "arrows") := by decide +kernel
theorem n2 : ¬ (("places" : Str) = "kept_arrows") := by decide +kernel
theorem n3 : ¬ (("arrows" : Str) = "kept_arrows") := by decide +kernel
theorem trF_places (n : Nat) (ta ka : Addr) : (trF n ta ka).lookup ("places" : Str) = some (.int n) := by
  unfold trF
  rw [lookup_putF, if_neg n2, lookup_putF, if_neg n1, lookup_putF, if_pos rfl]
theorem trF_arrows (n : Nat) (ta ka : Addr) : (trF n ta ka).lookup ("arrows" : Str) = some (.ref ta) := by
  unfold trF
  rw [lookup_putF, if_neg n3, lookup_putF, if_pos rfl]
theorem trF_kept (n : Nat) (ta ka : Addr) : (trF n ta ka).lookup ("kept_arrows" : Str) = some (.ref ka) := by
  unfold trF
  rw [lookup_putF, if_pos rfl]
theorem trF_no (n : Nat) (ta ka : Addr) {m : Str} (h1 : ¬ m = "places") (h2 : ¬ m = "arrows") (h3 : ¬ m = "kept_arrows") : (trF n ta ka).lookup m = none := by
  unfold trF
  rw [lookup_putF, if_neg h3, lookup_putF, if_neg h2, lookup_putF, if_neg h1]
  rfl
end K81
set_option maxRecDepth 100000
set_option maxHeartbeats 4000000
/-! checks.py -/
namespace K81
open PySem PySem.Spec PyProof.Rows L2
section
variable {P : Program} {w : World} {K : PySem.W.Frag} {mg : Str → Option Value} {base : Heap}
abbrev sIsInteger : Stmt := top 10
theorem scIsInteger : FnScope ["thing"] ["thing"] (defScope sIsInteger) := ⟨rfl, rfl, rfl, by decide +kernel, rfl, by decide +kernel, by decide +kernel⟩
/-- of an int -/
def spIsInt : Sp := fun vs H Q _ => ∃ i : Int, vs = [.int i] ∧ Q (.bl true) H
theorem ok_is_integer (F : DefAt K mg "is_integer" sIsInteger) (B : Bt mg) : Def P w K mg base CX0 1 "is_integer" ["thing"] spIsInt := by
  refine Def.of F scIsInteger (fun _ _ _ _ _ _ us hl => match us, hl with | [_], _ => rfl) (fun vs H Q E h => ?_) (fun f cdv A outer s H vs Q E hr h => ?_)
  · obtain ⟨i, rfl, _⟩ := h
    rfl
  · obtain ⟨i, rfl, hQ⟩ := h
    refine ⟨_, pss_one (ps_ret (pe_and (pe_callB call_isi (by rfl) B.isinstance (by decide +kernel) (pa_cons (pv 0) (pa_cons (pe_bltn (v := .ty "int") (by rfl) B.int (by decide +kernel) rfl) pa_nil)))
      (pe_one (pe_not (pe_callB call_isi (by rfl) B.isinstance (by decide +kernel) (pa_cons (pv 0) (pa_cons (pe_bltn (v := .ty "bool") (by rfl) B.bool (by decide +kernel) rfl) pa_nil))))))), ?_⟩
    refine ⟨_, rfl, _, _, _, _, _, rfl, .ty _, .base (.int _), kit_ty (by decide +kernel), true, rfl, iteT ?_⟩
    exact ⟨_, rfl, _, _, _, _, _, rfl, .ty _, .base (.int _), kit_ty (by decide +kernel), false, rfl, hQ⟩
abbrev sIsWithin : Stmt := top 11
theorem scIsWithin : FnScope ["thing", "least", "most"] ["thing", "least", "most"] (defScope sIsWithin) := ⟨rfl, rfl, rfl, by decide +kernel, rfl, by decide +kernel, by decide +kernel⟩
def spWithin : Sp := fun vs H Q _ => ∃ i a b : Int, vs = [.int i, .int a, .int b] ∧ Q (.bl (decide (a ≤ i ∧ i ≤ b))) H
theorem ok_is_within (F : DefAt K mg "is_within" sIsWithin) (D1 : Def P w K mg base CX0 1 "is_integer" ["thing"] spIsInt) : Def P w K mg base CX0 2 "is_within" ["thing", "least", "most"] spWithin := by
  refine Def.of F scIsWithin (fun _ _ _ _ _ _ us hl => match us, hl with | [_, _, _], _ => rfl) (fun vs H Q E h => ?_) (fun f cdv A outer s H vs Q E hr h => ?_)
  · obtain ⟨i, a, b, rfl, _⟩ := h
    rfl
  · obtain ⟨i, a, b, rfl, hQ⟩ := h
    refine ⟨_, pss_one (ps_ret (pe_and (pe_d D1 hr (by rfl) (pa_cons (pv 0) pa_nil)) (pe_one (pe_chain op_le op_le (pv 1) (pv 0) (pv 2))))), ?_⟩
    refine ⟨_, rfl, i, rfl, true, rfl, iteT ?_⟩
    refine ⟨_, rfl, _, rfl, _, _, rfl, rfl, _, rfl, ?_⟩
    by_cases h1 : a ≤ i
    · rw [decide_eq_true h1]
      refine iteT ⟨_, rfl, _, _, rfl, rfl, ?_⟩
      have e : decide (i ≤ b) = decide (a ≤ i ∧ i ≤ b) := by simp [h1]
      show Q (.bl (decide (i ≤ b))) H
      rw [e]
      exact hQ
    · rw [decide_eq_false h1]
      refine iteF ?_
      have e : false = decide (a ≤ i ∧ i ≤ b) := by simp [h1]
      rw [e]
      exact hQ
abbrev sIsFrom : Stmt := top 12
theorem scIsFrom : FnScope ["thing", "least"] ["thing", "least"] (defScope sIsFrom) := ⟨rfl, rfl, rfl, by decide +kernel, rfl, by decide +kernel, by decide +kernel⟩
def spFrom : Sp := fun vs H Q _ => ∃ i a : Int, vs = [.int i, .int a] ∧ Q (.bl (decide (a ≤ i))) H
theorem ok_is_from (F : DefAt K mg "is_from" sIsFrom) (D1 : Def P w K mg base CX0 1 "is_integer" ["thing"] spIsInt) : Def P w K mg base CX0 2 "is_from" ["thing", "least"] spFrom := by
  refine Def.of F scIsFrom (fun _ _ _ _ _ _ us hl => match us, hl with | [_, _], _ => rfl) (fun vs H Q E h => ?_) (fun f cdv A outer s H vs Q E hr h => ?_)
  · obtain ⟨i, a, rfl, _⟩ := h
    rfl
  · obtain ⟨i, a, rfl, hQ⟩ := h
    refine ⟨_, pss_one (ps_ret (pe_and (pe_d D1 hr (by rfl) (pa_cons (pv 0) pa_nil)) (pe_one (pe_cmpR op_ge (pv 0) (pv 1) (nomark _))))), ?_⟩
    refine ⟨_, rfl, i, rfl, true, rfl, iteT ?_⟩
    exact ⟨_, rfl, _, rfl, _, _, rfl, rfl, hQ⟩
/-- the constants of the text -/
structure Kn (mg : Str → Option Value) : Prop where
  letters : ∃ t, mg "LETTERS" = some (.str "abcdefghijklmnopqrstuvwxyz" t)
  places : ∃ t, mg "MOST_PLACES" = some (.int 12 t)
  arrows : ∃ t, mg "MOST_ARROWS" = some (.int 60 t)
  pay : ∃ t, mg "MOST_PAY" = some (.int 9 t)
  rows : ∃ t, mg "MOST_ROWS" = some (.int 2000 t)
  worst : ∃ t, mg "MOST_WORST" = some (.int 12 t)
abbrev sIsLetter : Stmt := top 13
theorem scIsLetter : FnScope ["thing"] ["thing"] (defScope sIsLetter) := ⟨rfl, rfl, rfl, by decide +kernel, rfl, by decide +kernel, by decide +kernel⟩
def spLetter : Sp := fun vs H Q _ => ∃ c : Nat, vs = [.str (tx [c])] ∧ c < 26 ∧ Q (.bl true) H
theorem letter_in {c : Nat} (h : c < 26) : (97 + c) ∈ ("abcdefghijklmnopqrstuvwxyz" : Str).cps.toList := by
  have : ∀ c : Fin 26, (97 + c.val) ∈ ("abcdefghijklmnopqrstuvwxyz" : Str).cps.toList := by decide +kernel
  exact this ⟨c, h⟩
theorem ok_is_letter (F : DefAt K mg "is_letter" sIsLetter) (B : Bt mg) (C : Kn mg) : Def P w K mg base CX0 1 "is_letter" ["thing"] spLetter := by
  obtain ⟨tl, hL⟩ := C.letters
  refine Def.of F scIsLetter (fun _ _ _ _ _ _ us hl => match us, hl with | [_], _ => rfl) (fun vs H Q E h => ?_) (fun f cdv A outer s H vs Q E hr h => ?_)
  · obtain ⟨i, rfl, _⟩ := h
    rfl
  · obtain ⟨c, rfl, hc, hQ⟩ := h
    refine ⟨_, pss_one (ps_ret (pe_and (pe_callB call_isi (by rfl) B.isinstance (by decide +kernel) (pa_cons (pv 0) (pa_cons (pe_bltn (v := .ty "str") (by rfl) B.str (by decide +kernel) rfl) pa_nil)))
      (pe_and (pe_cmpR op_eq (pe_callB call_len_str (by rfl) B.len PySem.boot_len (pa_cons (pv 0) pa_nil)) pe_int (nomark _))
        (pe_one (pe_cmpR op_in_sign (pv 0) (pe_glob (v := .str "abcdefghijklmnopqrstuvwxyz") (by rfl) hL ⟨_, rfl⟩) (by rfl)))))), ?_⟩
    refine ⟨_, rfl, _, _, _, _, _, rfl, .ty _, .base (.str _), kit_ty (by decide +kernel), true, rfl, iteT ?_⟩
    refine ⟨_, rfl, _, rfl, (by rw [tx_len]; show 1 ≤ sizeLine; decide), rfl, ?_⟩
    refine ⟨true, ?_, iteT ?_⟩
    · rw [tx_len]
      rfl
    · refine ⟨_, rfl, 97 + c, "abcdefghijklmnopqrstuvwxyz", rfl, rfl, ?_⟩
      rw [decide_eq_true (letter_in hc)]
      exact hQ
end
end K81
set_option maxRecDepth 100000
set_option maxHeartbeats 4000000
/-! The order of the tuples. -/
namespace K81
open PySem PySem.Spec PyProof.Rows L2 PySem.W PySem.SeqAt
def aD (a : Arr) : PyData := .tuple [.int a.1, .str (tx [a.2.1]), .int a.2.2.1, .int a.2.2.2]
def mD (x : Int × List Nat) : PyData := .tuple [.int x.1, .str (tx x.2)]
theorem aD_dp {K : Frag} {H : Hp} {v : V} {a : Arr} (h : ∃ p, v = V.ref p ∧ H p = some (.tup (aV a))) : Dp K H v (aD a) := by
  obtain ⟨p, rfl, h⟩ := h
  exact .tup (SqT.of h) (.cons (.int _) (.cons (.str _) (.cons (.int _) (.cons (.int _) .nil))))
theorem mD_dp {K : Frag} {H : Hp} {v : V} {x : Int × List Nat} (h : ∃ p, v = V.ref p ∧ H p = some (.tup (mV x))) : Dp K H v (mD x) := by
  obtain ⟨p, rfl, h⟩ := h
  exact .tup (SqT.of h) (.cons (.int _) (.cons (.str _) .nil))
theorem aD_alike (a b : Arr) : alike (aD a) (aD b) = true := by simp [aD, alike, alikeAll]
theorem mD_alike (a b : Int × List Nat) : alike (mD a) (mD b) = true := by simp [mD, alike, alikeAll]
theorem aD_depth (a : Arr) : (aD a).depth ≤ 60 := by simp [aD, PyData.depth, PyData.depthAll]
theorem mD_depth (a : Int × List Nat) : (mD a).depth ≤ 60 := by simp [mD, PyData.depth, PyData.depthAll]
/-- before: by place, then by letter -/
def aLt (a b : Arr) : Prop := a.1 < b.1 ∨ (a.1 = b.1 ∧ a.2.1 < b.2.1)
theorem eqv_int (i j : Int) : PyData.eqv (.int i) (.int j) = decide (i = j) := by
  by_cases h : i = j <;> simp [PyData.eqv, h]
theorem eqv_str (i j : Str) : PyData.eqv (.str i) (.str j) = decide (i = j) := by
  by_cases h : i = j <;> simp [PyData.eqv, h]
theorem aD_lt {a b : Arr} (h : aLt a b) : dataLt (aD a) (aD b) = true := by
  unfold aD
  rw [dataLt_tuple, dataLt_cons (by simp [alike]), eqv_int]
  rcases h with h | ⟨h1, h2⟩
  · rw [if_neg (by simp; omega), dataLt_int]
    simp
    omega
  · rw [if_pos (by simp [h1]), dataLt_cons (by simp [alike]), eqv_str, if_neg (by simp [tx_eq_iff]; omega), dataLt_str]
    rw [tx_cps, tx_cps]
    exact decide_eq_true (List.Lex.rel (by show 97 + a.2.1 < 97 + b.2.1; omega))
theorem map_lt : ∀ r s : List Nat, r.map (97 + ·) < s.map (97 + ·) ↔ r < s
  | [], [] => by simp
  | [], b :: s => by simp
  | a :: r, [] => by simp
  | a :: r, b :: s => by
    rw [List.map_cons, List.map_cons, List.cons_lt_cons_iff, List.cons_lt_cons_iff, map_lt r s, Nat.add_lt_add_iff_left, Nat.add_left_cancel_iff]
/-- the order of pairs (number, text) -/
def mLt (x y : Int × List Nat) : Prop := x.1 < y.1 ∨ (x.1 = y.1 ∧ x.2 < y.2)
instance (x y : Int × List Nat) : Decidable (mLt x y) := by unfold mLt; infer_instance
theorem mD_lt (x y : Int × List Nat) : dataLt (mD x) (mD y) = decide (mLt x y) := by
  unfold mD
  rw [dataLt_pair (by simp [alike]) (by simp [alike]), dataLt_int, dataLt_str, eqv_int, eqv_str, tx_cps, tx_cps]
  unfold mLt
  have e1 : (x.2.map (97 + ·) < y.2.map (97 + ·)) = (x.2 < y.2) := propext (map_lt _ _)
  by_cases h1 : x.1 = y.1
  · by_cases h2 : x.2 = y.2
    · simp [h1, h2]
    · have h3 : ¬ tx x.2 = tx y.2 := fun z => h2 (tx_inj z)
      simp only [h1, h3, decide_true, decide_false, if_true, if_false, Bool.false_eq_true, e1]
      simp
  · simp [h1]
/-- a sorted list sorts to itself -/
theorem aSorted {l : List Arr} (h : l.Pairwise aLt) : l.mergeSort (dataLe false aD) = l := by
  refine List.mergeSort_of_pairwise ?_
  refine h.imp fun {a b} hab => ?_
  rw [dataLe_eq]
  show (!dataLt (aD b) (aD a)) = true
  have h1 : dataLt (aD b) (aD a) = false := KeyOrd.klt_asymm (O := listOrd itemOrd) (a := keyToks (aD a)) (b := keyToks (aD b)) (aD_lt hab)
  rw [h1]
  rfl
end K81
set_option maxRecDepth 100000
set_option maxHeartbeats 4000000
/-! checks.py, tracks.py: ascending, arrows. -/
namespace K81
open PySem PySem.Spec PyProof.Rows L2
section
variable {P : Program} {w : World} {K : PySem.W.Frag} {mg : Str → Option Value} {base : Heap}
theorem rep_snoc {α : Type} (n : Nat) (x : α) : List.replicate n x ++ [x] = List.replicate (n + 1) x := List.replicate_succ'.symm
abbrev sAscend : Stmt := top 14
theorem scAscend : FnScope ["things", "at"] ["things"] (defScope sAscend) := ⟨rfl, rfl, rfl, by decide +kernel, rfl, by decide +kernel, by decide +kernel⟩
def spAscend : Sp := fun vs H Q _ => ∃ (ta : Addr) (as : List V) (arr : List Arr), vs = [.ref ta] ∧ H ta = some (.tup as) ∧ TupsP H aV as arr ∧ arr.Pairwise aLt ∧ 1 ≤ arr.length ∧ arr.length ≤ 60 ∧ ∀ H', Same H H' → Q (.bl true) H'
theorem ok_ascend (F : DefAt K mg "are_ascending" sAscend) (B : Bt mg) : Def P w K mg base CX0 1 "are_ascending" ["things"] spAscend := by
  refine Def.of F scAscend (fun _ _ _ _ _ _ us hl => match us, hl with | [_], _ => rfl) (fun vs H Q E h => ?_) (fun f cdv A outer s H vs Q E hr h => ?_)
  · obtain ⟨ta, as, arr, rfl, _⟩ := h
    rfl
  · obtain ⟨ta, as, arr, rfl, hta, hT, hasc, h1, h60, hQ⟩ := h
    have hlen : as.length = arr.length := hT.len
    refine ⟨_, pss_one (ps_ret (pe_callB (cr_all rfl) (by rfl) B.all (by decide +kernel) (pa_cons (pe_lc (own := [("at", 1)]) (g := gName 1) (tt := tYes) rfl scAscend.nd
      (pi_range2 (by rfl) B.range (pa_cons pe_int (pa_cons (pe_callB call_len_seq (by rfl) B.len PySem.boot_len (pa_cons (pv 0) pa_nil)) pa_nil)))
      (blkOk_by (N := ["things", "at"]) (sc := defScope sAscend) (by decide +kernel)) (fun _ _ _ _ _ => pg_name (i := 1) scAscend.nd rfl (Or.inl rfl)) (fun _ _ _ _ _ => pts_nil)
      (fun _ _ _ _ _ => pe_cmpR (r := rLtD K) (op_ltD hr.units) (pe_ix (r := rIxT K) ix_tup (pv 0) (pe_op op_sub (pv 1) pe_int) (fun _ _ => rfl)) (pe_ix (r := rIxT K) ix_tup (pv 0) (pv 1) (fun _ _ => rfl)) (nomark _))) pa_nil))), ?_⟩
    refine ⟨_, rfl, ta, as, rfl, .inr (SqT.of hta), ?_⟩
    refine ⟨1, (as.length : Int), rfl, ⟨by omega, by omega, by omega, by omega⟩, fun D hD => ?_⟩
    refine lc_range (lo := 1) (n := ((as.length : Int) - 1).toNat) (fun i H' => H' = upd H D (.lst (List.replicate i (V.bl true)))) rfl (fun i H' hi e => ?_) (fun H' e => ?_)
    · subst e
      have hta' : upd H D (.lst (List.replicate i (V.bl true))) ta = some (.tup as) := by rw [upd_ne (ne_of_none hta hD)]; exact hta
      have g1 : i < arr.length := by omega
      have g2 : i + 1 < arr.length := by omega
      obtain ⟨p1, e1, q1⟩ := hT.get (List.getElem?_eq_getElem g1)
      obtain ⟨p2, e2, q2⟩ := hT.get (List.getElem?_eq_getElem g2)
      refine ⟨rfl, ?_⟩
      refine ⟨_, rfl, _, rfl, _, _, rfl, rfl, ta, as, _, .ref p1, rfl, rfl, SqT.of hta', at_of (j := i) (by omega) e1, ?_⟩
      refine ⟨_, rfl, _, rfl, ta, as, _, .ref p2, rfl, rfl, SqT.of hta', at_of (j := i + 1) (by omega) e2, ?_⟩
      refine ⟨aD arr[i], aD arr[i + 1], aD_dp ⟨p1, rfl, by rw [upd_ne (ne_of_none q1 hD)]; exact q1⟩, aD_dp ⟨p2, rfl, by rw [upd_ne (ne_of_none q2 hD)]; exact q2⟩, aD_alike _ _, (fun z => by cases z), Nat.le_trans (Nat.min_le_left _ _) (aD_depth _), ?_⟩
      rw [aD_lt (List.pairwise_iff_getElem.mp hasc i (i + 1) g1 g2 (Nat.lt_succ_self _))]
      refine ⟨_, upd_same, by rw [List.length_replicate, sizeLine_eq]; omega, ?_⟩
      rw [upd_upd, rep_snoc]
    · subst e
      refine ⟨D, List.replicate ((as.length : Int) - 1).toNat true, rfl, SqL.of (by rw [upd_same, List.map_replicate]), ?_⟩
      have e3 : (List.replicate ((as.length : Int) - 1).toNat true).all id = true := by
        rw [List.all_replicate]
        simp
      rw [e3]
      exact hQ _ (Same.new hD)
end
end K81
set_option maxRecDepth 100000
set_option maxHeartbeats 4000000
/-! tracks.py: arrows judged. -/
namespace K81
open PySem PySem.Spec PyProof.Rows L2
section
variable {P : Program} {w : World} {K : PySem.W.Frag} {mg : Str → Option Value} {base : Heap}
abbrev sIsArrow : Stmt := top 22
theorem scIsArrow : FnScope ["thing", "places"] ["thing", "places"] (defScope sIsArrow) := ⟨rfl, rfl, rfl, by decide +kernel, rfl, by decide +kernel, by decide +kernel⟩
def spIsArrow : Sp := fun vs H Q _ => ∃ (p : Addr) (n : Nat) (a : Arr), vs = [.ref p, .int n] ∧ H p = some (.tup (aV a)) ∧ a.1 < n ∧ a.2.1 < 26 ∧ a.2.2.1 ≤ 9 ∧ a.2.2.2 < n ∧ Q (.bl true) H
theorem ok_is_arrow (F : DefAt K mg "is_arrow" sIsArrow) (B : Bt mg) (C : Kn mg) (D1 : Def P w K mg base CX0 2 "is_within" ["thing", "least", "most"] spWithin) (D2 : Def P w K mg base CX0 1 "is_letter" ["thing"] spLetter) :
    Def P w K mg base CX0 3 "is_arrow" ["thing", "places"] spIsArrow := by
  obtain ⟨tp, hP⟩ := C.pay
  refine Def.of F scIsArrow (fun _ _ _ _ _ _ us hl => match us, hl with | [_, _], _ => rfl) (fun vs H Q E h => ?_) (fun f cdv A outer s H vs Q E hr h => ?_)
  · obtain ⟨p, n, a, rfl, _⟩ := h
    rfl
  · obtain ⟨p, n, a, rfl, hp, h1, h2, h3, h4, hQ⟩ := h
    have hr1 : Room 1 _ := hr.mono (by decide)
    refine ⟨_, pss_cons (ps_if (PW.pt (pw_or (pt_not (pt_val (pe_callB call_isi (by rfl) B.isinstance (by decide +kernel) (pa_cons (pv 0) (pa_cons (pe_bltn (v := .ty "tuple") (by rfl) B.tuple (by decide +kernel) rfl) pa_nil)))))
        (pw_or1 (pt_cmpR op_ne (pe_callB call_len_seq (by rfl) B.len PySem.boot_len (pa_cons (pv 0) pa_nil)) pe_int (nomark _))))) pss_never pss_nil)
      (pss_cons (ps_if (PW.pt (pw_or (pt_not (pt_val (pe_d D1 hr (by rfl) (pa_cons (pe_ix ix_tup (pv 0) pe_int (fun _ _ => rfl)) (pa_cons pe_int (pa_cons (pe_op op_sub (pv 1) pe_int) pa_nil))))))
        (pw_or1 (pt_not (pt_val (pe_d D2 hr1 (by rfl) (pa_cons (pe_ix ix_tup (pv 0) pe_int (fun _ _ => rfl)) pa_nil))))))) pss_never pss_nil)
      (pss_one (ps_ret (pe_and (pe_d D1 hr (by rfl) (pa_cons (pe_ix ix_tup (pv 0) pe_int (fun _ _ => rfl)) (pa_cons pe_int (pa_cons (pe_glob (v := .int 9) (by rfl) hP ⟨_, rfl⟩) pa_nil))))
        (pe_one (pe_d D1 hr (by rfl) (pa_cons (pe_ix ix_tup (pv 0) pe_int (fun _ _ => rfl)) (pa_cons pe_int (pa_cons (pe_op op_sub (pv 1) pe_int) pa_nil))))))))), ?_⟩
    refine ⟨_, rfl, _, _, _, _, _, rfl, .ty _, .base (.tup hp), kit_ty (by decide +kernel), true, rfl, ?_⟩
    refine iteF ⟨_, rfl, p, aV a, rfl, .inr (SqT.of hp), rfl, ?_⟩
    refine ⟨false, rfl, iteF ?_⟩
    refine ⟨_, rfl, p, aV a, 0, .int a.1, rfl, rfl, SqT.of hp, at_of (j := 0) rfl rfl, _, rfl, _, _, rfl, rfl, a.1, 0, (n : Int) - 1, rfl, ?_⟩
    rw [show decide ((0 : Int) ≤ (a.1 : Int) ∧ (a.1 : Int) ≤ (n : Int) - 1) = true from decide_eq_true (by omega)]
    refine ⟨true, rfl, iteF ?_⟩
    refine ⟨_, rfl, p, aV a, 1, .str (tx [a.2.1]), rfl, rfl, SqT.of hp, at_of (j := 1) rfl rfl, a.2.1, rfl, h2, ?_⟩
    refine ⟨true, rfl, iteF ?_⟩
    refine ⟨_, rfl, p, aV a, 2, .int a.2.2.1, rfl, rfl, SqT.of hp, at_of (j := 2) rfl rfl, a.2.2.1, 0, 9, rfl, ?_⟩
    rw [show decide ((0 : Int) ≤ (a.2.2.1 : Int) ∧ (a.2.2.1 : Int) ≤ 9) = true from decide_eq_true (by omega)]
    refine ⟨true, rfl, iteT ?_⟩
    refine ⟨_, rfl, p, aV a, 3, .int a.2.2.2, rfl, rfl, SqT.of hp, at_of (j := 3) rfl rfl, _, rfl, _, _, rfl, rfl, a.2.2.2, 0, (n : Int) - 1, rfl, ?_⟩
    rw [show decide ((0 : Int) ≤ (a.2.2.2 : Int) ∧ (a.2.2.2 : Int) ≤ (n : Int) - 1) = true from decide_eq_true (by omega)]
    exact hQ
abbrev sAreArrows : Stmt := top 23
theorem scAreArrows : FnScope ["thing", "places", "arrow"] ["thing", "places"] (defScope sAreArrows) := ⟨rfl, rfl, rfl, by decide +kernel, rfl, by decide +kernel, by decide +kernel⟩
/-- the arrows are right for n places -/
structure ArrOk (n : Nat) (arr : List Arr) : Prop where
  ne : 1 ≤ arr.length
  len : arr.length ≤ 60
  ok : ∀ a ∈ arr, a.1 < n ∧ a.2.1 < 26 ∧ a.2.2.1 ≤ 9 ∧ a.2.2.2 < n
  asc : arr.Pairwise aLt
theorem Wf.arrOk {T : Tk} (W : Wf T) : ArrOk T.n T.arr := ⟨W.ne, W.len, fun a ha => ⟨W.pl a ha, W.lt a ha, W.py a ha, W.gl a ha⟩, W.asc⟩
def spAreArrows : Sp := fun vs H Q _ => ∃ (ta : Addr) (n : Nat) (as : List V) (arr : List Arr), vs = [.ref ta, .int n] ∧ H ta = some (.tup as) ∧ TupsP H aV as arr ∧ ArrOk n arr ∧ ∀ H', Same H H' → Q (.bl true) H'
theorem ok_are_arrows (F : DefAt K mg "are_arrows" sAreArrows) (B : Bt mg) (C : Kn mg) (D1 : Def P w K mg base CX0 3 "is_arrow" ["thing", "places"] spIsArrow) (D2 : Def P w K mg base CX0 1 "are_ascending" ["things"] spAscend) :
    Def P w K mg base CX0 4 "are_arrows" ["thing", "places"] spAreArrows := by
  obtain ⟨tp, hP⟩ := C.arrows
  refine Def.of F scAreArrows (fun _ _ _ _ _ _ us hl => match us, hl with | [_, _], _ => rfl) (fun vs H Q E h => ?_) (fun f cdv A outer s H vs Q E hr h => ?_)
  · obtain ⟨ta, n, as, arr, rfl, _⟩ := h
    rfl
  · obtain ⟨ta, n, as, arr, rfl, hta, hT, hok, hQ⟩ := h
    have hr1 : Room 1 _ := hr.mono (by decide)
    have hlen : as.length = arr.length := hT.len
    have h1 := hok.ne
    have h60 := hok.len
    refine ⟨_, pss_cons (ps_if (PW.pt (pw_or (pt_not (pt_val (pe_callB call_isi (by rfl) B.isinstance (by decide +kernel) (pa_cons (pv 0) (pa_cons (pe_bltn (v := .ty "tuple") (by rfl) B.tuple (by decide +kernel) rfl) pa_nil)))))
        (pw_or1 (pt_not (pt_chain op_le op_le pe_int (pe_callB call_len_seq (by rfl) B.len PySem.boot_len (pa_cons (pv 0) pa_nil)) (pe_glob (v := .int 60) (by rfl) hP ⟨_, rfl⟩)))))) pss_never pss_nil)
      (pss_one (ps_ret (pe_and (pe_callB (cr_all rfl) (by rfl) B.all (by decide +kernel) (pa_cons (pe_lc (own := [("arrow", 2)]) (g := gName 2) (tt := tYes) rfl scAreArrows.nd
        (pi_tup (pv 0)) (blkOk_by (N := ["thing", "places", "arrow"]) (sc := defScope sAreArrows) (by decide +kernel)) (fun _ _ _ _ _ => pg_name (i := 2) scAreArrows.nd rfl (Or.inl rfl)) (fun _ _ _ _ _ => pts_nil)
        (fun _ _ _ _ _ => pe_d D1 hr (by rfl) (pa_cons (pv 2) (pa_cons (pv 1) pa_nil)))) pa_nil))
        (pe_one (pe_d D2 hr1 (by rfl) (pa_cons (pv 0) pa_nil)))))), ?_⟩
    refine ⟨_, rfl, _, _, _, _, _, rfl, .ty _, .base (.tup hta), kit_ty (by decide +kernel), true, rfl, ?_⟩
    refine iteF ⟨_, rfl, ta, as, rfl, .inr (SqT.of hta), _, _, rfl, rfl, _, rfl, ?_⟩
    rw [show decide ((1 : Int) ≤ (as.length : Int)) = true from decide_eq_true (by omega)]
    refine iteT ⟨_, _, rfl, rfl, ?_⟩
    refine ⟨true, ?_, iteF ?_⟩
    · show V.bl (decide ((as.length : Int) ≤ 60)) = V.bl true
      rw [show decide ((as.length : Int) ≤ (60 : Int)) = true from decide_eq_true (by omega)]
    refine ⟨_, rfl, ta, rfl, ⟨_, SqT.of hta⟩, fun D hD => ?_⟩
    have keep : ∀ i, Same H (upd H D (.lst (List.replicate i (V.bl true)))) := fun i => Same.new hD
    refine lc_tup (K := K) (a := ta) (xs := as) (fun i H' => H' = upd H D (.lst (List.replicate i (V.bl true)))) rfl (fun i H' _ e => by rw [e]; exact SqT.of (keep i _ _ hta)) (fun i x H' hx e => ?_) (fun H' e => ?_)
    · subst e
      obtain ⟨a, p, ha, rfl, hp⟩ := hT.get' hx
      obtain ⟨o1, o2, o3, o4⟩ := hok.ok a (List.mem_of_getElem? ha)
      refine ⟨rfl, _, rfl, _, rfl, p, n, a, rfl, keep i _ _ hp, o1, o2, o3, o4, _, upd_same, by rw [List.length_replicate, sizeLine_eq]; have := (List.getElem?_eq_some_iff.mp hx).1; omega, ?_⟩
      rw [upd_upd, rep_snoc]
    · subst e
      refine ⟨D, List.replicate as.length true, rfl, SqL.of (by rw [upd_same, List.map_replicate]), true, ?_, iteT ?_⟩
      · rw [List.all_replicate]
        simp
      · exact ⟨_, rfl, ta, as, arr, rfl, keep _ _ _ hta, hT.same (keep _), hok.asc, h1, h60, fun H' e => hQ H' ((keep _).trans e)⟩
end
end K81
set_option maxRecDepth 100000
set_option maxHeartbeats 8000000
/-! tracks.py: a track is made. -/
namespace K81
open PySem PySem.Spec PyProof.Rows L2
/-- a class of tracks as the top has made it -/
structure TC (K : PySem.W.Frag) (C : Addr) : Prop where
  cl : Cls K C
  nP : NoAttr K C "places"
  nA : NoAttr K C "arrows"
  nK : NoAttr K C "kept_arrows"
def MethAt (K : PySem.W.Frag) (C : Addr) (m qual : Str) (st : Stmt) : Prop := ∃ f fd, Meth K C m f ∧ Fun K m qual st f fd
structure MDef (P : Program) (w : World) (K : PySem.W.Frag) (mg : Str → Option Value) (base : Heap) (k : Nat) (C : Addr) (m : Str) (ps : List Str) (sp : Sp) : Prop where
  ex : ∃ f fd, Meth K C m f ∧ FnOk P w K mg base CX0 k f fd ps sp ∧ Binds K fd ps []
theorem steps_snoc (n : Nat) (l : List Arr) (a : Arr) (p : Nat) : steps ⟨n, l ++ [a]⟩ p = if a.1 = p then steps ⟨n, l⟩ p ++ [a.2] else steps ⟨n, l⟩ p := by
  unfold steps
  rw [List.filter_append, List.map_append]
  by_cases h : a.1 = p
  · simp [h]
  · simp [h]
section
variable {P : Program} {w : World} {K : PySem.W.Frag} {mg : Str → Option Value} {base : Heap}
abbrev sKeep : Stmt := inClass (top 24) 1
abbrev nKeep : List Str := ["self", "places", "arrows", "place", "letter", "pay", "goal"]
theorem scKeep : FnScope nKeep ["self", "places", "arrows"] (defScope sKeep) := ⟨rfl, rfl, rfl, by decide +kernel, rfl, by decide +kernel, by decide +kernel⟩
def spKeep (K : PySem.W.Frag) : Sp := fun vs H Q _ => ∃ (x C dx ta : Addr) (n : Nat) (as : List V) (arr : List Arr), vs = [.ref x, .int n, .ref ta] ∧ TC K C ∧ H x = some (.ins C dx []) ∧ H ta = some (.tup as) ∧ TupsP H aV as arr ∧ n ≤ 14 ∧ arr.length ≤ 60 ∧ (∀ a ∈ arr, a.1 < n) ∧
  ∀ H', Kp (· = x) H H' → TrackAt (TC K) (fun b => H b = none) H' x ⟨n, arr⟩ → Q .non H'
/-- the lists of the places so far -/
structure Kept (H0 H : Hp) (x C dx ta ka : Addr) (n : Nat) (las : List Addr) (l : List Arr) : Prop where
  ob : H x = some (.ins C dx (trF n ta ka))
  ls : H ka = some (.lst (las.map V.ref))
  kp : Kp (· = x) H0 H
  fresh : H0 ka = none ∧ ∀ b ∈ las, H0 b = none
  nd : las.Nodup
  nk : ¬ ka ∈ las
  len : las.length = n
  at_ : ∀ p, p < n → ∃ b vs, las[p]? = some b ∧ H b = some (.lst vs) ∧ TupsP H sV vs (steps ⟨n, l⟩ p)
theorem ok_keep {f : Addr} {fd : FuncData} (F : Fun K "keep" "Track.keep" sKeep f fd) (B : Bt mg) : FnOk P w K mg base CX0 1 f fd ["self", "places", "arrows"] (spKeep K) := by
  refine F.ok scKeep (fun vs H Q E h => ?_) (fun cdv A outer s H vs Q E hr h => ?_)
  · obtain ⟨x, C, dx, ta, n, as, arr, rfl, _⟩ := h
    rfl
  · obtain ⟨x, C, dx, ta, n, as, arr, rfl, T, hx, hta, hT, hn, h60, hpl, hQ⟩ := h
    refine ⟨_, pss_cons (ps_fld (pv 0) (pv 1) rfl) (pss_cons (ps_fld (pv 0) (pv 2) rfl)
      (pss_cons (ps_fld (pv 0) (pe_lc (own := [("place", 3)]) (g := gName 3) (tt := tYes) rfl scKeep.nd (pi_range1 rfl B.range (pa_cons (pv 1) pa_nil)) (blkOk_by (N := nKeep) (sc := defScope sKeep) (by decide +kernel))
        (fun _ _ _ _ _ => pg_name (i := 3) scKeep.nd rfl (Or.inl rfl)) (fun _ _ _ _ _ => pts_nil) (fun _ _ _ _ _ => pe_lst pa_nil)) rfl)
      (pss_one (ps_for PassesOwn.never rfl (pi_tup (pv 2)) (pg_tup rfl (pgs_cons (pg_name (i := 3) scKeep.nd rfl (Or.inl rfl)) (pgs_cons (pg_name (i := 4) scKeep.nd rfl (Or.inl rfl)) (pgs_cons (pg_name (i := 5) scKeep.nd rfl (Or.inl rfl)) (pgs_cons (pg_name (i := 6) scKeep.nd rfl (Or.inl rfl)) pgs_nil)))))
        (pss_one (ps_expr (pe_bm PySem.F.plainAttrs_list PySem.F.slot_list_append PySem.F.type_list_append mt_append (pe_ix ix_list (pe_fld (pv 0) rfl) (pv 3) (fun _ _ => rfl))
          (pa_cons (pe_tup (pa_cons (pv 4) (pa_cons (pv 5) (pa_cons (pv 6) pa_nil)))) pa_nil)))))))), ?_⟩
    refine ⟨_, rfl, _, rfl, x, C, dx, [], rfl, hx, T.cl, T.nP, (by show 0 < 1000; decide), ?_⟩
    refine ⟨_, rfl, _, rfl, x, C, dx, _, rfl, upd_same, T.cl, T.nA, (by show 1 < 1000; decide), ?_⟩
    rw [upd_upd]
    generalize hH2 : upd H x (.ins C dx (putF "arrows" (.ref ta) (putF "places" (.int n) []))) = H2
    have hx2 : H2 x = some (.ins C dx (putF "arrows" (.ref ta) (putF "places" (.int n) []))) := by rw [← hH2, upd_same]
    have k2 : Kp (· = x) H H2 := fun b o e ne => by rw [← hH2, upd_ne ne]; exact e
    have f2 : ∀ b, H2 b = none → H b = none := fun b e => by
      cases q : H b with
      | none => rfl
      | some o =>
        by_cases hb : b = x
        · rw [hb, hx2] at e
          cases e
        · rw [k2 b o q hb] at e
          cases e
    refine ⟨_, rfl, (n : Int), rfl, by omega, by omega, fun D hD => ?_⟩
    refine lc_range (lo := 0) (n := (n : Int).toNat) (fun i H' => ∃ las : List Addr, las.length = i ∧ las.Nodup ∧ (∀ b ∈ las, H2 b = none ∧ H' b = some (.lst [])) ∧ H' D = some (.lst (las.map V.ref)) ∧ D ∉ las ∧ Same H2 H')
      ⟨[], rfl, List.nodup_nil, (fun b hb => absurd hb List.not_mem_nil), upd_same, List.not_mem_nil, Same.new hD⟩ (fun i H' hi inv => ?_) (fun H' inv => ?_)
    · obtain ⟨las, e1, e2, e3, e4, e5, e6⟩ := inv
      refine ⟨rfl, ⟨by show 0 ≤ sizeLine; decide, fun b hb => ?_⟩⟩
      have nbD : b ≠ D := fun z => by rw [z, e4] at hb; cases hb
      refine ⟨las.map V.ref, by rw [upd_ne nbD.symm]; exact e4, by rw [List.length_map, e1, sizeLine_eq]; omega, las ++ [b], by simp [e1], ?_, fun c hc => ?_, ?_, ?_, ?_⟩
      · refine List.nodup_append.mpr ⟨e2, by simp, fun c hc d hd => ?_⟩
        rw [List.mem_singleton.mp hd]
        intro z
        rw [z] at hc
        rw [(e3 b hc).2] at hb
        cases hb
      · rcases List.mem_append.mp hc with hc | hc
        · have nc : c ≠ b := fun z => by
            rw [z] at hc
            rw [(e3 b hc).2] at hb
            cases hb
          have ncD : c ≠ D := fun z => e5 (by rw [← z]; exact hc)
          exact ⟨(e3 c hc).1, by rw [upd_ne ncD, upd_ne nc]; exact (e3 c hc).2⟩
        · rw [List.mem_singleton.mp hc]
          exact ⟨e6.free hb, by rw [upd_ne nbD, upd_same]⟩
      · rw [upd_same, List.map_append]
        rfl
      · intro hc
        rcases List.mem_append.mp hc with hc | hc
        · exact e5 hc
        · exact nbD (List.mem_singleton.mp hc).symm
      · exact Same.put (e6.trans (Same.new hb)) hD
    · obtain ⟨las, e1, e2, e3, e4, e5, e6⟩ := inv
      refine ⟨_, rfl, x, C, dx, _, rfl, e6 _ _ hx2, T.cl, T.nK, (by show 2 < 1000; decide), ?_⟩
      have hDx : D ≠ x := fun z => by rw [z, hx2] at hD; cases hD
      have nx : ∀ b ∈ las, b ≠ x := fun b hb z => by rw [z] at hb; rw [(e3 x hb).1] at hx2; cases hx2
      have K0 : Kept H (upd H' x (.ins C dx (trF n ta D))) x C dx ta D n las [] := by
        refine ⟨upd_same, by rw [upd_ne hDx]; exact e4, fun b o e ne => by rw [upd_ne ne]; exact e6 _ _ (k2 b o e ne), ⟨f2 D hD, fun b hb => f2 b (e3 b hb).1⟩, e2, e5, by rw [e1]; omega, fun p hp => ?_⟩
        have hp' : p < las.length := by rw [e1]; omega
        refine ⟨las[p], [], List.getElem?_eq_getElem hp', ?_, .nil⟩
        rw [upd_ne (nx _ (List.getElem_mem hp'))]
        exact (e3 _ (List.getElem_mem hp')).2
      have hta1 : ∀ {H1 : Hp} {l : List Arr}, Kept H H1 x C dx ta D n las l → H1 ta = some (.tup as) := fun k => k.kp _ _ hta (ne_of hta hx (fun z => by cases z))
      refine ⟨_, rfl, ta, rfl, ⟨_, SqT.of (hta1 K0)⟩, for_tup (K := K) (a := ta) (xs := as) (fun i σ H1 => ∃ v3 v4 v5 v6 : Option V, σ = [some (.ref x), some (.int n), some (.ref ta), v3, v4, v5, v6] ∧ Kept H H1 x C dx ta D n las (arr.take i))
        ⟨none, none, none, none, rfl, K0⟩ (fun i σ H1 _ ⟨_, _, _, _, _, k⟩ => SqT.of (hta1 k)) ?_ ?_⟩
      · rintro i y σ H1 hy ⟨v3, v4, v5, v6, rfl, k⟩
        obtain ⟨a, q, ha, rfl, hq⟩ := hT.get' hy
        have hq1 : H1 q = some (.tup (aV a)) := k.kp _ _ hq (ne_of hq hx (fun z => by cases z))
        refine ⟨q, aV a, rfl, SqT.of hq1, rfl, _, _, rfl, _, _, rfl, _, _, rfl, _, _, rfl, rfl, ?_⟩
        obtain ⟨b, vs, hb, hHb, hTb⟩ := k.at_ a.1 (hpl a (List.mem_of_getElem? ha))
        refine ⟨_, rfl, x, C, dx, _, _, rfl, k.ob, T.cl, T.nK, trF_kept _ _ _, _, rfl, D, _, _, .ref b, rfl, rfl, SqL.of k.ls, at_of (j := a.1) rfl (by rw [List.getElem?_map, hb]; rfl), .inl ⟨rfl, _, SqL.of hHb⟩, ?_⟩
        refine ⟨_, rfl, _, rfl, _, rfl, (by show 3 ≤ sizeLine; decide), fun t ht => ?_⟩
        have nbt : b ≠ t := ne_of_none hHb ht
        have hl : vs.length < sizeLine := by
          rw [hTb.len]
          unfold steps
          rw [List.length_map, sizeLine_eq]
          have := List.length_filter_le (fun z : Arr => z.1 == a.1) (arr.take i)
          have := List.length_take_le' i arr
          show (List.filter (fun z : Arr => z.1 == a.1) (arr.take i)).length < _
          omega
        refine ⟨b, vs, .ref t, rfl, rfl, by rw [upd_ne nbt]; exact hHb, hl, _, _, _, _, rfl, ?_⟩
        have bmem : b ∈ las := List.mem_of_getElem? hb
        have nbx : b ≠ x := ne_of hHb k.ob (fun z => by cases z)
        have nbD : b ≠ D := fun z => k.nk (by rw [← z]; exact bmem)
        have ntx : x ≠ t := ne_of_none k.ob ht
        have ntD : D ≠ t := ne_of_none k.ls ht
        have et : arr.take (i + 1) = arr.take i ++ [a] := by rw [List.take_add_one, ha]; rfl
        refine ⟨by rw [upd_ne nbx.symm, upd_ne ntx]; exact k.ob, by rw [upd_ne nbD.symm, upd_ne ntD]; exact k.ls, fun c o e ne => ?_, k.fresh, k.nd, k.nk, k.len, fun p hp => ?_⟩
        · have e1 := k.kp c o e ne
          rw [upd_ne (ne_of_none e (k.fresh.2 b bmem)), upd_ne (ne_of_none e1 ht)]
          exact e1
        · have kt : ∀ c xs, H1 c = some (.tup xs) → upd (upd H1 t (.tup [.str (tx [a.2.1]), .int a.2.2.1, .int a.2.2.2])) b (.lst (vs ++ [.ref t])) c = some (.tup xs) := fun c xs e => by
            rw [upd_ne (ne_of e hHb (fun z => by cases z)), upd_ne (ne_of_none e ht)]
            exact e
          rw [et, steps_snoc]
          obtain ⟨b', vs', hb', hHb', hTb'⟩ := k.at_ p hp
          by_cases hap : a.1 = p
          · subst hap
            have eb : b' = b := Option.some.inj (hb'.symm.trans hb)
            subst eb
            have ev : vs' = vs := by
              rw [hHb] at hHb'
              injection hHb' with z
              injection z with z
              exact z.symm
            subst ev
            rw [if_pos rfl]
            exact ⟨b', vs' ++ [.ref t], hb, upd_same, pd_app (hTb.mono kt) (.cons ⟨t, rfl, by rw [upd_ne nbt.symm, upd_same]; rfl⟩ .nil)⟩
          · rw [if_neg hap]
            have nb' : b' ≠ b := fun z => by
              exact hap ((List.getElem?_inj (List.getElem?_eq_some_iff.mp hb).1 k.nd).mp (by rw [hb, hb', z]))
            exact ⟨b', vs', hb', by rw [upd_ne nb', upd_ne (ne_of_none hHb' ht)]; exact hHb', hTb'.mono kt⟩
      · rintro σ H1 ⟨v3, v4, v5, v6, rfl, k⟩
        rw [hT.len, List.take_length] at k
        refine hQ H1 k.kp ⟨C, dx, ta, D, as, las.map V.ref, T, k.ob, hta1 k, ?_, k.ls, k.fresh.1, ?_⟩
        · exact hT.mono fun b xs e => k.kp _ _ e (ne_of e hx (fun z => by cases z))
        · have go : ∀ (m : Nat) (l : List Addr) (off : Nat), l.length = m → (∀ j, j < m → ∃ b vs, l[j]? = some b ∧ H1 b = some (.lst vs) ∧ H b = none ∧ TupsP H1 sV vs (steps ⟨n, arr⟩ (off + j))) →
              Paired (fun v p => ∃ b vs, v = V.ref b ∧ H1 b = some (.lst vs) ∧ H b = none ∧ TupsP H1 sV vs (steps ⟨n, arr⟩ p)) (l.map V.ref) (List.range' off m) := by
            intro m
            induction m with
            | zero =>
              intro l off hl _
              rw [List.eq_nil_of_length_eq_zero hl]
              exact .nil
            | succ m ih =>
              intro l off hl hh
              cases l with
              | nil => simp at hl
              | cons c l =>
                rw [List.map_cons, List.range'_succ]
                obtain ⟨b, vs, e1, e2, e3, e4⟩ := hh 0 (Nat.succ_pos _)
                have ec : c = b := by simpa using e1
                subst ec
                refine .cons ⟨c, vs, rfl, e2, e3, e4⟩ (ih l (off + 1) (by simpa using hl) fun j hj => ?_)
                obtain ⟨b, vs, e1, e2, e3, e4⟩ := hh (j + 1) (by omega)
                exact ⟨b, vs, by simpa using e1, e2, e3, by rw [show off + 1 + j = off + (j + 1) by omega]; exact e4⟩
          rw [List.range_eq_range']
          refine go n las 0 k.len fun j hj => ?_
          obtain ⟨b, vs, e1, e2, e3⟩ := k.at_ j hj
          exact ⟨b, vs, e1, e2, k.fresh.2 b (List.mem_of_getElem? e1), by rw [Nat.zero_add]; exact e3⟩
end
end K81
set_option maxRecDepth 100000
set_option maxHeartbeats 8000000
/-! tracks.py: Track.__init__, RawTrack.__init__. -/
namespace K81
open PySem PySem.Spec PyProof.Rows L2
section
variable {κ : Type} [DecidableEq κ]
theorem putK_self (kvs : List (κ × V)) (k : κ) (v : V) : k ∈ (putK kvs k v).map (·.1) := by
  unfold putK
  split
  · rename_i h
    obtain ⟨kv, h1, h2⟩ := List.any_eq_true.mp h
    have h2 := of_decide_eq_true h2
    refine List.mem_map.mpr ⟨(kv.1, v), List.mem_map.mpr ⟨kv, h1, by rw [if_pos h2]⟩, h2⟩
  · simp
theorem putK_old {kvs : List (κ × V)} {k j : κ} {v : V} (h : j ∈ kvs.map (·.1)) : j ∈ (putK kvs k v).map (·.1) := by
  unfold putK
  split
  · obtain ⟨kv, h1, h2⟩ := List.mem_map.mp h
    refine List.mem_map.mpr ⟨if kv.1 = k then (kv.1, v) else kv, List.mem_map.mpr ⟨kv, h1, rfl⟩, ?_⟩
    split <;> exact h2
  · rw [List.map_append]
    exact List.mem_append_left _ h
theorem putK_fresh {kvs : List (κ × V)} {k : κ} {v : V} (h : ¬ k ∈ kvs.map (·.1)) : putK kvs k v = kvs ++ [(k, v)] := by
  unfold putK
  rw [if_neg]
  intro z
  obtain ⟨kv, h1, h2⟩ := List.any_eq_true.mp z
  exact h (List.mem_map.mpr ⟨kv, h1, of_decide_eq_true h2⟩)
end
theorem all_below : ∀ (n : Nat) (l : List Key), (∀ p : Nat, p < n → (Sum.inl (p : Int) : Key) ∈ l) → n ≤ l.length
  | 0, _, _ => Nat.zero_le _
  | n + 1, l, h => by
    have hm := h n (Nat.lt_succ_self n)
    obtain ⟨l', h1, h2⟩ : ∃ l' : List Key, (∀ k, k ∈ l → k ≠ .inl (n : Int) → k ∈ l') ∧ l'.length < l.length :=
      ⟨l.filter fun k => decide (k ≠ (Sum.inl (n : Int) : Key)), fun k hk ne => List.mem_filter.mpr ⟨hk, decide_eq_true ne⟩, List.length_filter_lt_length_iff_exists.mpr ⟨_, hm, by simp⟩⟩
    have q := all_below n l' fun p hp => h1 _ (h p (by omega)) fun z => by
      have z2 := Sum.inl.inj z
      omega
    omega
/-- the key of an arrow: its place and its letter -/
def aK (a : Arr) : List Key := [.inl a.1, .inr (tx [a.2.1])]
theorem aK_ne {a b : Arr} (h : aLt a b) : aK a ≠ aK b := by
  intro z
  unfold aK at z
  have h1 : (Sum.inl (a.1 : Int) : Key) = Sum.inl (b.1 : Int) := by injection z
  have h2 : (Sum.inr (tx [a.2.1]) : Key) = Sum.inr (tx [b.2.1]) := by
    injection z with _ z
    injection z
  have e1 := Sum.inl.inj h1
  have e2 := tx_inj (Sum.inr.inj h2)
  have e3 : a.2.1 = b.2.1 := by simpa using e2
  rcases h with h | h <;> omega
section
variable {P : Program} {w : World} {K : PySem.W.Frag} {mg : Str → Option Value} {base : Heap}
abbrev sTrack : Stmt := inClass (top 24) 0
abbrev nTrack : List Str := ["self", "places", "arrows", "arrow"]
theorem scTrack : FnScope nTrack ["self", "places", "arrows"] (defScope sTrack) := ⟨rfl, rfl, rfl, by decide +kernel, rfl, by decide +kernel, by decide +kernel⟩
def spTrack (K : PySem.W.Frag) (CT : Addr) : Sp := fun vs H Q _ => ∃ (x dx ta : Addr) (n : Nat) (as : List V) (arr : List Arr), vs = [.ref x, .int n, .ref ta] ∧ H x = some (.ins CT dx []) ∧ H ta = some (.tup as) ∧ TupsP H aV as arr ∧ 1 ≤ n ∧ n ≤ 12 ∧ ArrOk n arr ∧ (∀ p, p < n → ∃ a ∈ arr, a.1 = p) ∧
  ∀ H', Kp (· = x) H H' → TrackAt (TC K) (fun b => H b = none) H' x ⟨n, arr⟩ → Q .non H'
theorem ok_track {f CT : Addr} {fd : FuncData} (F : Fun K "__init__" "Track.__init__" sTrack f fd) (B : Bt mg) (C : Kn mg) (T : TC K CT) (D1 : Def P w K mg base CX0 2 "is_within" ["thing", "least", "most"] spWithin) (D2 : Def P w K mg base CX0 4 "are_arrows" ["thing", "places"] spAreArrows)
    (M : MDef P w K mg base 1 CT "keep" ["self", "places", "arrows"] (spKeep K)) : FnOk P w K mg base CX0 5 f fd ["self", "places", "arrows"] (spTrack K CT) := by
  obtain ⟨tp, hP⟩ := C.places
  obtain ⟨fk, fdk, mK, FK, bK⟩ := M.ex
  refine F.ok scTrack (fun vs H Q E h => ?_) (fun cdv A outer s H vs Q E hr h => ?_)
  · obtain ⟨x, dx, ta, n, as, arr, rfl, _⟩ := h
    rfl
  · obtain ⟨x, dx, ta, n, as, arr, rfl, hx, hta, hT, hn1, hn12, hok, htot, hQ⟩ := h
    have hr1 : Room 1 _ := hr.mono (by decide)
    have hr2 : Room 2 _ := hr.mono (by decide)
    have hlen : as.length = arr.length := hT.len
    have h60 := hok.len
    refine ⟨_, pss_cons (ps_if (pt_not (pt_val (pe_d D1 hr2 (by rfl) (pa_cons (pv 1) (pa_cons pe_int (pa_cons (pe_glob (v := .int 12) (by rfl) hP ⟨_, rfl⟩) pa_nil)))))) pss_never pss_nil)
      (pss_cons (ps_if (pt_not (pt_val (pe_d D2 hr (by rfl) (pa_cons (pv 2) (pa_cons (pv 1) pa_nil))))) pss_never pss_nil)
      (pss_cons (ps_if (pt_cmpR op_lt (pe_callB call_len_dT (by rfl) B.len PySem.boot_len (pa_cons (pe_dct (own := [("arrow", 3)]) (g := gName 3) (tt := tYes) (hu_of hr) rfl scTrack.nd (pi_tup (pv 2)) (blkOk_by (N := nTrack) (sc := defScope sTrack) (by decide +kernel))
          (fun _ _ _ _ _ => pg_name (i := 3) scTrack.nd rfl (Or.inl rfl)) (fun _ _ _ _ _ => pts_nil) (fun _ _ _ _ _ => pe_slice (r := rSlT K) sl_tup (pv 3) po_none (po_some pe_int)) (fun _ _ _ _ _ => pe_bl)) pa_nil))
          (pe_callB call_len_seq (by rfl) B.len PySem.boot_len (pa_cons (pv 2) pa_nil)) (nomark _)) pss_never pss_nil)
      (pss_cons (ps_if (pt_cmpR op_lt (pe_callB call_lenD (by rfl) B.len PySem.boot_len (pa_cons (pe_dc (own := [("arrow", 3)]) (g := gName 3) (tt := tYes) rfl scTrack.nd (pi_tup (pv 2)) (blkOk_by (N := nTrack) (sc := defScope sTrack) (by decide +kernel))
          (fun _ _ _ _ _ => pg_name (i := 3) scTrack.nd rfl (Or.inl rfl)) (fun _ _ _ _ _ => pts_nil) (fun _ _ _ _ _ => pe_ix (r := rIxT K) ix_tup (pv 3) pe_int (fun _ _ => rfl)) (fun _ _ _ _ _ => pe_bl)) pa_nil))
          (pv 1) (nomark _)) pss_never pss_nil)
      (pss_one (ps_expr (pe_meth (pv 0) T.cl mK FK hr1 bK .nil pass0 (pa_cons (pv 1) (pa_cons (pv 2) pa_nil)))))))), ?_⟩
    refine ⟨_, rfl, n, 1, 12, rfl, ?_⟩
    rw [show decide ((1 : Int) ≤ (n : Int) ∧ (n : Int) ≤ 12) = true from decide_eq_true (by omega)]
    refine ⟨true, rfl, iteF ?_⟩
    refine ⟨_, rfl, _, rfl, ta, n, as, arr, rfl, hta, hT, hok, fun H1 k1 => ⟨true, rfl, iteF ?_⟩⟩
    refine ⟨_, rfl, ta, rfl, ⟨_, SqT.of (k1 _ _ hta)⟩, fun D hD => ?_⟩
    refine dct_tup (K := K) (a := ta) (xs := as) (fun i H' => Same H1 H' ∧ H' D = some (.dT ((arr.take i).map fun a => (aK a, V.bl true)))) ⟨Same.new hD, upd_same⟩ (fun i H' _ ⟨e, _⟩ => SqT.of (e _ _ (k1 _ _ hta))) (fun i y H' hy ⟨k2, hd⟩ => ?_) (fun H2 ⟨k2, hd⟩ => ?_)
    · obtain ⟨a, q, ha, rfl, hq⟩ := hT.get' hy
      have hq2 : H' q = some (.tup (aV a)) := k2 _ _ (k1 _ _ hq)
      have et : arr.take (i + 1) = arr.take i ++ [a] := by rw [List.take_add_one, ha]; rfl
      refine ⟨rfl, _, rfl, 2, rfl, q, aV a, rfl, SqT.of hq2, (by show ¬ ((0 : Nat) = 0 ∧ (2 : Nat) = 4); omega), fun t ht => ?_⟩
      have ntD : D ≠ t := ne_of_none hd ht
      refine ⟨(arr.take i).map fun a => (aK a, V.bl true), aK a, t, rfl, by rw [upd_same]; rfl, by rw [upd_ne ntD]; exact hd, ?_, ?_, ?_⟩
      · rw [List.length_map, sizeLine_eq]
        have := List.length_take_le' i arr
        omega
      · exact Same.put (k2.trans (Same.new ht)) hD
      · rw [upd_same, putK_fresh, et, List.map_append]
        · rfl
        · intro z
          rw [List.map_map] at z
          obtain ⟨c, hc, ec⟩ := List.mem_map.mp z
          obtain ⟨j, hj⟩ := List.mem_iff_getElem?.mp hc
          have hji : j < i := by
            have := (List.getElem?_eq_some_iff.mp hj).1
            have := List.length_take_le i arr
            omega
          rw [List.getElem?_take_of_lt hji] at hj
          obtain ⟨l1, g1⟩ := List.getElem?_eq_some_iff.mp hj
          obtain ⟨l2, g2⟩ := List.getElem?_eq_some_iff.mp ha
          have := List.pairwise_iff_getElem.mp hok.asc j i l1 l2 hji
          rw [g1, g2] at this
          exact aK_ne this ec
    · rw [hT.len, List.take_length] at hd
      refine ⟨D, _, rfl, hd, _, rfl, ta, as, rfl, .inr (SqT.of (k2 _ _ (k1 _ _ hta))), _, _, rfl, rfl, _, rfl, ?_⟩
      rw [List.length_map, hlen]
      rw [show decide ((arr.length : Int) < (arr.length : Int)) = false from decide_eq_false (by omega)]
      refine iteF ?_
      have k3 : Same H H2 := k1.trans k2
      refine ⟨_, rfl, ta, rfl, ⟨_, SqT.of (k3 _ _ hta)⟩, fun D2 hD2 => ?_⟩
      refine dc_tup (K := K) (a := ta) (xs := as) (fun i H' => Same H2 H' ∧ ∃ kvs : List (Key × V), H' D2 = some (.dK kvs) ∧ kvs.length ≤ i ∧ ∀ a ∈ arr.take i, (Sum.inl (a.1 : Int) : Key) ∈ kvs.map (·.1))
        ⟨Same.new hD2, [], upd_same, Nat.le_refl _, fun a ha => by simp at ha⟩ (fun i H' _ ⟨e, _⟩ => SqT.of (e _ _ (k3 _ _ hta))) (fun i y H' hy ⟨k4, kvs, hd2, hl, hm⟩ => ?_) (fun H3 ⟨k4, kvs, hd2, hl, hm⟩ => ?_)
      · obtain ⟨a, q, ha, rfl, hq⟩ := hT.get' hy
        have hi : i < as.length := (List.getElem?_eq_some_iff.mp hy).1
        have hq2 : H' q = some (.tup (aV a)) := k4 _ _ (k3 _ _ hq)
        have et : arr.take (i + 1) = arr.take i ++ [a] := by rw [List.take_add_one, ha]; rfl
        refine ⟨rfl, _, rfl, q, aV a, 0, .int a.1, rfl, rfl, SqT.of hq2, at_of (j := 0) rfl rfl, kvs, .inl a.1, rfl, hd2, by rw [sizeLine_eq]; omega, Same.put k4 hD2, _, upd_same, ?_, ?_⟩
        · have := length_putK kvs (Sum.inl (a.1 : Int) : Key) (V.bl true)
          omega
        · intro c hc
          rw [et] at hc
          rcases List.mem_append.mp hc with hc | hc
          · exact putK_old (hm c hc)
          · rw [List.mem_singleton.mp hc]
            exact putK_self _ _ _
      · rw [hT.len, List.take_length] at hm
        have hn : n ≤ kvs.length := by
          have := all_below n (kvs.map (·.1)) fun p hp => by
            obtain ⟨a, ha, e⟩ := htot p hp
            rw [← e]
            exact hm a ha
          rwa [List.length_map] at this
        have k5 : Same H H3 := k3.trans k4
        refine ⟨D2, kvs, rfl, hd2, _, rfl, _, _, rfl, rfl, _, rfl, ?_⟩
        rw [show decide ((kvs.length : Int) < (n : Int)) = false from decide_eq_false (by omega)]
        refine iteF ?_
        refine ⟨_, rfl, x, dx, [], rfl, k5 _ _ hx, rfl, _, rfl, _, rfl, x, CT, dx, ta, n, as, arr, rfl, T, k5 _ _ hx, k5 _ _ hta, hT.same k5, by omega, h60, fun a ha => (hok.ok a ha).1, fun H4 k6 tr => ?_⟩
        exact hQ H4 ((Kp.of k5).trans k6) (tr.weak fun b o _ e => k5.free e)
end
end K81
set_option maxRecDepth 100000
set_option maxHeartbeats 8000000
/-! Defs that raise; the small checks; tracks by raw_track and side. -/
namespace K81
open PySem PySem.Spec PyProof.Rows L2
section
variable {P : Program} {w : World} {K : PySem.W.Frag} {mg : Str → Option Value} {base : Heap}
theorem Def.ofX {k : Nat} {x : Str} {st : Stmt} {N ps : List Str} {sp : Sp} (F : DefAt K mg x st) (S : FnScope N ps (defScope st))
    (hb : ∀ (kV doc pm : Value) (an : Option Addr) (cdv ct : Value) (us : List Value), us.length = ps.length → bindArgs (PySem.W.fnOf x x (defArgs st) (defBody st) (defScope st) .none kV doc pm an cdv ct) ⟨us, []⟩ = pure (ps.zip us))
    (len : ∀ vs H Q E, sp vs H Q E → vs.length = ps.length)
    (hbody : ∀ (f : Addr) (cdv : Value) (A : Around) (outer : List Env) (s : Shared) (H : Hp) (vs : List V) (Q : VK) (E : XK), Room k (A.deeper (envOfC x (defScope st) s.heap.objs.size f cdv)) → sp vs H Q E →
      ∃ t, PSs (cxOf (L2.CX P w) P w K mg base N x (defScope st) f cdv A outer s H E) (defBody st) t ∧ t { nx := fun _ H' => Q .non H', rt := Q } (start N vs) H) : Def P w K mg base (L2.CX P w) (k + 1) x ps sp := by
  obtain ⟨f, fd, h1, h2⟩ := F
  exact ⟨f, fd, h1, h2.okX S len (hbody f), h2.kp, h2.binds hb⟩
variable {X : Cx}
/-- x(e, ..), what it raises goes on -/
theorem pe_dX {k : Nat} {x : Str} {ps : List Str} {sp : Sp} {p pos : Pos} {e : Expr} {es : List Expr} {t : TA} {W : WX} {E : XK} (D : Def X.prog X.w X.K X.mg X.base (L2.CX X.prog X.w) k x ps sp) (tk : Takes X W) (hW : ∀ cls d σ H, E cls d H → W cls d σ H) (hr : Room k X.A) (hg : Gl X x) (ha : PA X (e :: es) t)
    (hdb : (x == ("__debug__" : Str)) = false := by decide) (he : starEach (e :: es) X.env = (false, eval e X.env) :: starEach es X.env := by rfl) (hpl : (backTo pos (starEach es X.env)).any (·.1) = false := by rfl) :
    PE X (.Call (.Name x p) (e :: es) [] pos) (tCall sp [] E t) := by
  obtain ⟨f, fd, h1, h2, h3, h4⟩ := D.ex
  exact pe_call h2 hr hg h1 h3 h4 .nil (passes_call tk hW) ha hdb he hpl
/-- x(e, ..) in a try -/
theorem pe_dS {k : Nat} {x : Str} {ps : List Str} {sp : Sp} {p pos : Pos} {e : Expr} {es : List Expr} {t : TA} {W : WX} (D : Def X.prog X.w X.K X.mg X.base (L2.CX X.prog X.w) k x ps sp) (tk : Takes X W) (hr : Room k X.A) (hg : Gl X x) (ha : PA X (e :: es) t)
    (hdb : (x == ("__debug__" : Str)) = false := by decide) (he : starEach (e :: es) X.env = (false, eval e X.env) :: starEach es X.env := by rfl) (hpl : (backTo pos (starEach es X.env)).any (·.1) = false := by rfl) :
    PE X (.Call (.Name x p) (e :: es) [] pos) (tCallS sp (WE W) t) := by
  obtain ⟨f, fd, h1, h2, h3, h4⟩ := D.ex
  exact pe_callS h2 hr hg h1 h3 h4 (fun σ => passAt tk σ) ha hdb he hpl
/-! ### checks.py -/
abbrev sCheckNumber : Stmt := top 15
theorem scCheckNumber : FnScope ["thing", "least", "most"] ["thing", "least", "most"] (defScope sCheckNumber) := ⟨rfl, rfl, rfl, by decide +kernel, rfl, by decide +kernel, by decide +kernel⟩
def spCheckNumber : Sp := fun vs H Q _ => ∃ i a b : Int, vs = [.int i, .int a, .int b] ∧ a ≤ i ∧ i ≤ b ∧ Q .non H
theorem ok_check_number (F : DefAt K mg "check_number" sCheckNumber) (D1 : Def P w K mg base CX0 2 "is_within" ["thing", "least", "most"] spWithin) : Def P w K mg base CX0 3 "check_number" ["thing", "least", "most"] spCheckNumber := by
  refine Def.of F scCheckNumber (fun _ _ _ _ _ _ us hl => match us, hl with | [_, _, _], _ => rfl) (fun vs H Q E h => ?_) (fun f cdv A outer s H vs Q E hr h => ?_)
  · obtain ⟨i, a, b, rfl, _⟩ := h
    rfl
  · obtain ⟨i, a, b, rfl, h1, h2, hQ⟩ := h
    refine ⟨_, pss_one (ps_if (pt_not (pt_val (pe_d D1 hr (by rfl) (pa_cons (pv 0) (pa_cons (pv 1) (pa_cons (pv 2) pa_nil)))))) pss_never pss_nil), ?_⟩
    refine ⟨_, rfl, _, rfl, _, rfl, i, a, b, rfl, ?_⟩
    rw [show decide (a ≤ i ∧ i ≤ b) = true from decide_eq_true ⟨h1, h2⟩]
    exact ⟨true, rfl, iteF hQ⟩
abbrev sCheckMany : Stmt := top 16
theorem scCheckMany : FnScope ["number", "most"] ["number", "most"] (defScope sCheckMany) := ⟨rfl, rfl, rfl, by decide +kernel, rfl, by decide +kernel, by decide +kernel⟩
def spCheckMany (CM : Addr) : Sp := fun vs H Q E => ∃ i m : Int, vs = [.int i, .int m] ∧ (i ≤ m → Q .non H) ∧ (m < i → ∀ d, H d = none → E (.ref CM) (some d) (upd H d (.xd [("most", .int m)])))
theorem ok_check_many {CM : Addr} (F : DefAt K mg "check_many" sCheckMany) (XM : ExcD P w K mg base "TooMany" "most" CM) : Def P w K mg base (L2.CX P w) 3 "check_many" ["number", "most"] (spCheckMany CM) := by
  refine Def.ofX F scCheckMany (fun _ _ _ _ _ _ us hl => match us, hl with | [_, _], _ => rfl) (fun vs H Q E h => ?_) (fun f cdv A outer s H vs Q E hr h => ?_)
  · obtain ⟨i, m, rfl, _⟩ := h
    rfl
  · obtain ⟨i, m, rfl, h1, h2⟩ := h
    refine ⟨_, pss_one (ps_if (pt_cmpR op_gt (pv 0) (pv 1) (nomark _)) (pss_one (ps_raise rfl (takes_of rfl rfl rfl rfl) (pmk_exc XM hr (by rfl) (pa_cons (pv 1) pa_nil)))) pss_nil), ?_⟩
    refine ⟨_, rfl, _, rfl, _, _, rfl, rfl, _, rfl, ?_⟩
    by_cases h : m < i
    · rw [show decide (m < i) = true from decide_eq_true h]
      exact iteT ⟨_, rfl, _, rfl, fun d hd => h2 h d hd⟩
    · rw [show decide (m < i) = false from decide_eq_false h]
      exact iteF (h1 (by omega))
abbrev sCheckCoins : Stmt := top 17
theorem scCheckCoins : FnScope ["thing"] ["thing"] (defScope sCheckCoins) := ⟨rfl, rfl, rfl, by decide +kernel, rfl, by decide +kernel, by decide +kernel⟩
def spCheckCoins : Sp := fun vs H Q _ => ∃ i : Int, vs = [.int i] ∧ 0 ≤ i ∧ Q .non H
theorem ok_check_coins (F : DefAt K mg "check_coins" sCheckCoins) (D1 : Def P w K mg base CX0 2 "is_from" ["thing", "least"] spFrom) : Def P w K mg base CX0 3 "check_coins" ["thing"] spCheckCoins := by
  refine Def.of F scCheckCoins (fun _ _ _ _ _ _ us hl => match us, hl with | [_], _ => rfl) (fun vs H Q E h => ?_) (fun f cdv A outer s H vs Q E hr h => ?_)
  · obtain ⟨i, rfl, _⟩ := h
    rfl
  · obtain ⟨i, rfl, h1, hQ⟩ := h
    refine ⟨_, pss_one (ps_if (pt_not (pt_val (pe_d D1 hr (by rfl) (pa_cons (pv 0) (pa_cons pe_int pa_nil))))) pss_never pss_nil), ?_⟩
    refine ⟨_, rfl, i, 0, rfl, ?_⟩
    rw [show decide ((0 : Int) ≤ i) = true from decide_eq_true h1]
    exact ⟨true, rfl, iteF hQ⟩
/-! ### tracks.py -/
abbrev sIsPlace : Stmt := top 27
theorem scIsPlace : FnScope ["track", "thing"] ["track", "thing"] (defScope sIsPlace) := ⟨rfl, rfl, rfl, by decide +kernel, rfl, by decide +kernel, by decide +kernel⟩
def spIsPlace (K : PySem.W.Frag) : Sp := fun vs H Q _ => ∃ (x : Addr) (p : Nat) (N : Addr → Prop) (T : Tk), vs = [.ref x, .int p] ∧ TrackAt (TC K) N H x T ∧ p < T.n ∧ Q (.bl true) H
theorem ok_is_place (F : DefAt K mg "is_place" sIsPlace) (D1 : Def P w K mg base CX0 2 "is_within" ["thing", "least", "most"] spWithin) : Def P w K mg base CX0 3 "is_place" ["track", "thing"] (spIsPlace K) := by
  refine Def.of F scIsPlace (fun _ _ _ _ _ _ us hl => match us, hl with | [_, _], _ => rfl) (fun vs H Q E h => ?_) (fun f cdv A outer s H vs Q E hr h => ?_)
  · obtain ⟨x, p, N, T, rfl, _⟩ := h
    rfl
  · obtain ⟨x, p, N, T, rfl, ht, hp, hQ⟩ := h
    obtain ⟨C, dx, ta, ka, as, ls, c1, c2, _⟩ := ht.ex
    refine ⟨_, pss_one (ps_ret (pe_d D1 hr (by rfl) (pa_cons (pv 1) (pa_cons pe_int (pa_cons (pe_op op_sub (pe_fld (pv 0) rfl) pe_int) pa_nil))))), ?_⟩
    refine ⟨_, rfl, _, rfl, x, C, dx, _, _, rfl, c2, c1.cl, c1.nP, trF_places _ _ _, _, _, rfl, rfl, p, 0, (T.n : Int) - 1, rfl, ?_⟩
    rw [show decide ((0 : Int) ≤ (p : Int) ∧ (p : Int) ≤ (T.n : Int) - 1) = true from decide_eq_true (by omega)]
    exact hQ
abbrev sCheckPlace : Stmt := top 28
theorem scCheckPlace : FnScope ["track", "thing"] ["track", "thing"] (defScope sCheckPlace) := ⟨rfl, rfl, rfl, by decide +kernel, rfl, by decide +kernel, by decide +kernel⟩
def spCheckPlace (K : PySem.W.Frag) : Sp := fun vs H Q _ => ∃ (x : Addr) (p : Nat) (N : Addr → Prop) (T : Tk), vs = [.ref x, .int p] ∧ TrackAt (TC K) N H x T ∧ p < T.n ∧ Q .non H
theorem ok_check_place (F : DefAt K mg "check_place" sCheckPlace) (D1 : Def P w K mg base CX0 3 "is_place" ["track", "thing"] (spIsPlace K)) : Def P w K mg base CX0 4 "check_place" ["track", "thing"] (spCheckPlace K) := by
  refine Def.of F scCheckPlace (fun _ _ _ _ _ _ us hl => match us, hl with | [_, _], _ => rfl) (fun vs H Q E h => ?_) (fun f cdv A outer s H vs Q E hr h => ?_)
  · obtain ⟨x, p, N, T, rfl, _⟩ := h
    rfl
  · obtain ⟨x, p, N, T, rfl, ht, hp, hQ⟩ := h
    refine ⟨_, pss_one (ps_if (pt_not (pt_val (pe_d D1 hr (by rfl) (pa_cons (pv 0) (pa_cons (pv 1) pa_nil))))) pss_never pss_nil), ?_⟩
    exact ⟨_, rfl, _, rfl, x, p, N, T, rfl, ht, hp, true, rfl, iteF hQ⟩
abbrev sStepsOf : Stmt := top 29
theorem scStepsOf : FnScope ["track", "place"] ["track", "place"] (defScope sStepsOf) := ⟨rfl, rfl, rfl, by decide +kernel, rfl, by decide +kernel, by decide +kernel⟩
def spStepsOf (K : PySem.W.Frag) : Sp := fun vs H Q _ => ∃ (x : Addr) (p : Nat) (N : Addr → Prop) (T : Tk), vs = [.ref x, .int p] ∧ TrackAt (TC K) N H x T ∧ p < T.n ∧ ∀ l vs, H l = some (.lst vs) → N l → TupsP H sV vs (steps T p) → Q (.ref l) H
theorem ok_steps_of (F : DefAt K mg "steps_of" sStepsOf) : Def P w K mg base CX0 1 "steps_of" ["track", "place"] (spStepsOf K) := by
  refine Def.of F scStepsOf (fun _ _ _ _ _ _ us hl => match us, hl with | [_, _], _ => rfl) (fun vs H Q E h => ?_) (fun f cdv A outer s H vs Q E hr h => ?_)
  · obtain ⟨x, p, N, T, rfl, _⟩ := h
    rfl
  · obtain ⟨x, p, N, T, rfl, ht, hp, hQ⟩ := h
    obtain ⟨C, dx, ta, ka, as, ls, c1, c2, c3, c4, c5, c6, c7⟩ := ht.ex
    obtain ⟨v, e1, l, vs, rfl, e2, e3, e4⟩ := pd_get c7 (i := p) (b := p) (by simp [hp])
    refine ⟨_, pss_one (ps_ret (pe_ix ix_list (pe_fld (pv 0) rfl) (pv 1) (fun _ _ => rfl))), ?_⟩
    exact ⟨_, rfl, x, C, dx, _, _, rfl, c2, c1.cl, c1.nK, trF_kept _ _ _, _, rfl, ka, ls, p, .ref l, rfl, rfl, SqL.of c5, at_of (j := p) rfl e1, hQ l vs e2 e3 e4⟩
end
end K81
set_option maxRecDepth 100000
set_option maxHeartbeats 8000000
/-! tracks.py, making.py: raw tracks, side; the law's own maker. -/
namespace K81
open PySem PySem.Spec PyProof.Rows L2
/-- the places of the one and, behind them, of the other -/
def moved (n : Nat) (l : List Arr) : List Arr := l.map fun a => (a.1 + n, a.2.1, a.2.2.1, a.2.2.2 + n)
def sideM (T U : Tk) : Tk := ⟨T.n + U.n, T.arr ++ moved T.n U.arr⟩
theorem moved_asc {n : Nat} {l : List Arr} (h : l.Pairwise aLt) : (moved n l).Pairwise aLt := by
  unfold moved
  rw [List.pairwise_map]
  refine h.imp fun {a b} hab => ?_
  unfold aLt at *
  show a.1 + n < b.1 + n ∨ (a.1 + n = b.1 + n ∧ a.2.1 < b.2.1)
  omega
theorem mem_moved {n : Nat} {l : List Arr} {a : Arr} (h : a ∈ moved n l) : ∃ b ∈ l, a = (b.1 + n, b.2.1, b.2.2.1, b.2.2.2 + n) := by
  obtain ⟨b, h1, h2⟩ := List.mem_map.mp h
  exact ⟨b, h1, h2.symm⟩
theorem side_asc {T U : Tk} (W : Wf T) (V : Wf U) : (sideM T U).arr.Pairwise aLt := by
  refine List.pairwise_append.mpr ⟨W.asc, moved_asc V.asc, fun a ha b hb => ?_⟩
  obtain ⟨c, hc, rfl⟩ := mem_moved hb
  have := W.pl a ha
  exact .inl (show a.1 < c.1 + T.n by omega)
theorem side_wf {T U : Tk} (W : Wf T) (V : Wf U) (h1 : T.n + U.n ≤ 14) (h2 : T.arr.length + U.arr.length ≤ 60) : Wf (sideM T U) := by
  have hm : ∀ a ∈ (sideM T U).arr, (a ∈ T.arr) ∨ ∃ b ∈ U.arr, a = (b.1 + T.n, b.2.1, b.2.2.1, b.2.2.2 + T.n) := fun a ha => by
    rcases List.mem_append.mp ha with h | h
    · exact .inl h
    · exact .inr (mem_moved h)
  have e : (sideM T U).n = T.n + U.n := rfl
  refine ⟨by rw [e]; have := W.pos; omega, by rw [e]; exact h1, ?_, ?_, fun a ha => ?_, fun a ha => ?_, fun a ha => ?_, fun a ha => ?_, side_asc W V, fun p hp => ?_⟩
  · show 1 ≤ (T.arr ++ moved T.n U.arr).length
    rw [List.length_append]
    have := W.ne
    omega
  · show (T.arr ++ moved T.n U.arr).length ≤ 60
    unfold moved
    rw [List.length_append, List.length_map]
    omega
  · rw [e]
    rcases hm a ha with h | ⟨b, h, rfl⟩
    · have := W.pl a h
      omega
    · have := V.pl b h
      show b.1 + T.n < _
      omega
  · rcases hm a ha with h | ⟨b, h, rfl⟩
    · exact W.lt a h
    · exact V.lt b h
  · rcases hm a ha with h | ⟨b, h, rfl⟩
    · exact W.py a h
    · exact V.py b h
  · rw [e]
    rcases hm a ha with h | ⟨b, h, rfl⟩
    · have := W.gl a h
      omega
    · have := V.gl b h
      show b.2.2.2 + T.n < _
      omega
  · rw [e] at hp
    by_cases h : p < T.n
    · obtain ⟨a, ha, h3⟩ := W.tot p h
      exact ⟨a, List.mem_append_left _ ha, h3⟩
    · obtain ⟨a, ha, h3⟩ := V.tot (p - T.n) (by omega)
      exact ⟨_, List.mem_append_right _ (List.mem_map_of_mem ha), show a.1 + T.n = p by omega⟩
section
variable {P : Program} {w : World} {K : PySem.W.Frag} {mg : Str → Option Value} {base : Heap}
abbrev sRaw : Stmt := inClass (top 25) 0
theorem scRaw : FnScope ["self", "places", "arrows"] ["self", "places", "arrows"] (defScope sRaw) := ⟨rfl, rfl, rfl, by decide +kernel, rfl, by decide +kernel, by decide +kernel⟩
def spRaw (K : PySem.W.Frag) (CR : Addr) : Sp := fun vs H Q _ => ∃ (x dx ta : Addr) (n : Nat) (as : List V) (arr : List Arr), vs = [.ref x, .int n, .ref ta] ∧ H x = some (.ins CR dx []) ∧ H ta = some (.tup as) ∧ TupsP H aV as arr ∧ n ≤ 14 ∧ arr.length ≤ 60 ∧ (∀ a ∈ arr, a.1 < n) ∧
  ∀ H', Kp (· = x) H H' → TrackAt (TC K) (fun b => H b = none) H' x ⟨n, arr⟩ → Q .non H'
theorem ok_raw {f CR : Addr} {fd : FuncData} (F : Fun K "__init__" "RawTrack.__init__" sRaw f fd) (T : TC K CR) (M : MDef P w K mg base 1 CR "keep" ["self", "places", "arrows"] (spKeep K)) : FnOk P w K mg base CX0 2 f fd ["self", "places", "arrows"] (spRaw K CR) := by
  obtain ⟨fk, fdk, mK, FK, bK⟩ := M.ex
  refine F.ok scRaw (fun vs H Q E h => ?_) (fun cdv A outer s H vs Q E hr h => ?_)
  · obtain ⟨x, dx, ta, n, as, arr, rfl, _⟩ := h
    rfl
  · obtain ⟨x, dx, ta, n, as, arr, rfl, hx, hta, hT, hn, h60, hpl, hQ⟩ := h
    refine ⟨_, pss_one (ps_expr (pe_meth (pv 0) T.cl mK FK hr bK .nil pass0 (pa_cons (pv 1) (pa_cons (pv 2) pa_nil)))), ?_⟩
    exact ⟨_, rfl, x, dx, [], rfl, hx, rfl, _, rfl, _, rfl, x, CR, dx, ta, n, as, arr, rfl, T, hx, hta, hT, hn, h60, hpl, hQ⟩
/-- a class that is made by its __init__ -/
structure MkD (P : Program) (w : World) (K : PySem.W.Frag) (mg : Str → Option Value) (base : Heap) (k : Nat) (x : Str) (C : Addr) (ps : List Str) (sp : Sp) : Prop where
  ex : ∃ f fd, mg x = some (.ref C) ∧ Mk K C f ∧ FnOk P w K mg base CX0 k f fd ps sp ∧ Binds K fd ps []
theorem pe_mk {X : Cx} {k : Nat} {x : Str} {C : Addr} {ps : List Str} {sp : Sp} {p pos : Pos} {e : Expr} {es : List Expr} {t : TA} (D : MkD X.prog X.w X.K X.mg X.base k x C ps sp) (hr : Room (k + 1) X.A) (hg : Gl X x) (ha : PA X (e :: es) t)
    (hdb : (x == ("__debug__" : Str)) = false := by decide) (he : starEach (e :: es) X.env = (false, eval e X.env) :: starEach es X.env := by rfl) (hpl : (backTo pos (starEach es X.env)).any (·.1) = false := by rfl) :
    PE X (.Call (.Name x p) (e :: es) [] pos) (tMake C sp [] E0 t) := by
  obtain ⟨f, fd, h1, h2, h3, h4⟩ := D.ex
  exact pe_make h2 h3 hr hg h1 h4 .nil pass0 ha hdb he hpl
theorem Same.made2 {H : Hp} {x dx C : Addr} (n1 : H x = none) (n2 : H dx = none) : Same H (upd (upd H dx (.own x)) x (.ins C dx [])) := fun b o e => by
  rw [upd_ne (ne_of_none e n1), upd_ne (ne_of_none e n2)]
  exact e
theorem Same.made3 {H H' : Hp} {x dx C : Addr} (n1 : H x = none) (n2 : H dx = none) (k : Kp (· = x) (upd (upd H dx (.own x)) x (.ins C dx [])) H') : Same H H' := fun b o e => by
  refine k b o ?_ (ne_of_none e n1)
  rw [upd_ne (ne_of_none e n1), upd_ne (ne_of_none e n2)]
  exact e
abbrev sRawTrack : Stmt := top 26
theorem scRawTrack : FnScope ["places", "arrows"] ["places", "arrows"] (defScope sRawTrack) := ⟨rfl, rfl, rfl, by decide +kernel, rfl, by decide +kernel, by decide +kernel⟩
def spRawTrack (K : PySem.W.Frag) : Sp := fun vs H Q _ => ∃ (l : Addr) (n : Nat) (as : List V) (arr : List Arr), vs = [.int n, .ref l] ∧ H l = some (.lst as) ∧ TupsP H aV as arr ∧ n ≤ 14 ∧ arr.length ≤ 60 ∧ (∀ a ∈ arr, a.1 < n) ∧ arr.Pairwise aLt ∧
  ∀ H' x, Same H H' → TrackAt (TC K) (fun b => H b = none) H' x ⟨n, arr⟩ → Q (.ref x) H'
theorem aAll (l : List Arr) : PySem.W.AllAlike (l.map aD) := PySem.W.AllAlike.of aD_alike
theorem aSor (l : List Arr) : PySem.W.Sortable (l.map aD) := PySem.W.Sortable.tuples fun b => ⟨_, _, rfl⟩
theorem ok_raw_track {CR : Addr} (F : DefAt K mg "raw_track" sRawTrack) (B : Bt mg) (M : MkD P w K mg base 2 "RawTrack" CR ["self", "places", "arrows"] (spRaw K CR)) : Def P w K mg base CX0 4 "raw_track" ["places", "arrows"] (spRawTrack K) := by
  refine Def.of F scRawTrack (fun _ _ _ _ _ _ us hl => match us, hl with | [_, _], _ => rfl) (fun vs H Q E h => ?_) (fun f cdv A outer s H vs Q E hr h => ?_)
  · obtain ⟨l, n, as, arr, rfl, _⟩ := h
    rfl
  · obtain ⟨l, n, as, arr, rfl, hl, hT, hn, h60, hpl, hasc, hQ⟩ := h
    refine ⟨_, pss_one (ps_ret (pe_mk M hr (by rfl) (pa_cons (pv 0) (pa_cons (pe_callTy call_tuple_of (by rfl) B.tuple (by decide +kernel) (pa_cons (pe_callB (cr_sortD hr.units) (by rfl) B.sorted (by decide +kernel) (pa_cons (pv 1) pa_nil)) pa_nil)) pa_nil)))), ?_⟩
    refine ⟨_, rfl, _, rfl, Arr, (fun v a => ∃ p, v = V.ref p ∧ H p = some (.tup (aV a))), aD, l, as, arr, rfl, SqL.of hl, hT, fun x b h => aD_dp h, aAll arr, aSor arr, fun b _ => aD_depth b, fun p ys hp hT2 => ?_⟩
    rw [aSorted hasc] at hT2
    refine ⟨p, ys, rfl, .inl ⟨SqL.of upd_same, fun ta hta => ?_⟩⟩
    intro x dx nx ndx nex
    have k1 : Same H (upd (upd H p (.lst ys)) ta (.tup ys)) := Same.new2 (Same.new hp) hta
    have k2 := k1.trans (Same.made2 (C := CR) nx ndx)
    refine ⟨x, dx, ta, n, ys, arr, rfl, upd_same, Same.made2 nx ndx _ _ upd_same, TupsP.same hT2 k2, hn, h60, hpl, fun H' k3 tr => ⟨rfl, ?_⟩⟩
    have k4 := k1.trans (Same.made3 nx ndx k3)
    exact hQ H' x k4 (tr.weak fun b o _ e => k2.free e)
end
end K81
set_option maxRecDepth 100000
set_option maxHeartbeats 8000000
/-! making.py: side; _law_track. -/
namespace K81
open PySem PySem.Spec PyProof.Rows L2
section
variable {P : Program} {w : World} {K : PySem.W.Frag} {mg : Str → Option Value} {base : Heap}
/-- the comprehension over a tuple of arrows that makes moved arrows -/
abbrev mvA (n : Nat) (a : Arr) : Arr := (a.1 + n, a.2.1, a.2.2.1, a.2.2.2 + n)
abbrev sSide : Stmt := top 42
abbrev nSide : List Str := ["one", "other", "many", "moved", "place", "letter", "pay", "goal"]
theorem scSide : FnScope nSide ["one", "other"] (defScope sSide) := ⟨rfl, rfl, rfl, by decide +kernel, rfl, by decide +kernel, by decide +kernel⟩
def spSide (K : PySem.W.Frag) : Sp := fun vs H Q _ => ∃ (x y : Addr) (N M : Addr → Prop) (T U : Tk), vs = [.ref x, .ref y] ∧ TrackAt (TC K) N H x T ∧ TrackAt (TC K) M H y U ∧ Wf T ∧ Wf U ∧ T.n + U.n ≤ 14 ∧ T.arr.length + U.arr.length ≤ 60 ∧
  ∀ H' z, Same H H' → TrackAt (TC K) (fun b => H b = none) H' z (sideM T U) → Q (.ref z) H'
theorem ok_side (F : DefAt K mg "side" sSide) (B : Bt mg) (D1 : Def P w K mg base CX0 4 "raw_track" ["places", "arrows"] (spRawTrack K)) : Def P w K mg base CX0 5 "side" ["one", "other"] (spSide K) := by
  refine Def.of F scSide (fun _ _ _ _ _ _ us hl => match us, hl with | [_, _], _ => rfl) (fun vs H Q E h => ?_) (fun f cdv A outer s H vs Q E hr h => ?_)
  · obtain ⟨x, y, N, M, T, U, rfl, _⟩ := h
    rfl
  · obtain ⟨x, y, N, M, T, U, rfl, hT, hU, W, WU, h14, h60, hQ⟩ := h
    obtain ⟨C, dx, ta, ka, as, ls, c1, c2, c3, c4, _⟩ := hT.ex
    obtain ⟨C', dx', ta', ka', as', ls', d1, d2, d3, d4, _⟩ := hU.ex
    refine ⟨_, pss_cons (ps_set (i := 2) scSide.nd rfl (Or.inr rfl) (pe_fld (pv 0) rfl))
      (pss_cons (ps_setLc (i := 3) (own := [("place", 4), ("letter", 5), ("pay", 6), ("goal", 7)]) (g := gTup K 4 (gCons (gName 4) (gCons (gName 5) (gCons (gName 6) (gCons (gName 7) gNil))))) (tt := tYes) rfl scSide.nd rfl rfl (sw_true rfl rfl rfl (by decide +kernel)) (pi_tup (pe_fld (pv 1) rfl)) (blkOk_by (N := nSide) (sc := defScope sSide) (by decide +kernel))
          (fun _ _ _ _ _ => pg_tup rfl (pgs_cons (pg_name (i := 4) scSide.nd rfl (Or.inl rfl)) (pgs_cons (pg_name (i := 5) scSide.nd rfl (Or.inl rfl)) (pgs_cons (pg_name (i := 6) scSide.nd rfl (Or.inl rfl)) (pgs_cons (pg_name (i := 7) scSide.nd rfl (Or.inl rfl)) pgs_nil)))))
          (fun _ _ _ _ _ => pts_nil)
          (fun _ _ _ _ _ => pe_tup (pa_cons (pe_op op_add (pv 4) (pv 2)) (pa_cons (pv 5) (pa_cons (pv 6) (pa_cons (pe_op op_add (pv 7) (pv 2)) pa_nil))))))
      (pss_one (ps_ret (pe_d D1 hr (by rfl) (pa_cons (pe_op op_add (pv 2) (pe_fld (pv 1) rfl)) (pa_cons (pe_op op_cat (pe_callTy call_list_of (by rfl) B.list (by decide +kernel) (pa_cons (pe_fld (pv 0) rfl) pa_nil)) (pv 3)) pa_nil)))))), ?_⟩
    refine ⟨_, rfl, x, C, dx, _, _, rfl, c2, c1.cl, c1.nP, trF_places _ _ _, ?_⟩
    refine ⟨_, rfl, y, C', dx', _, _, rfl, d2, d1.cl, d1.nA, trF_arrows _ _ _, ta', rfl, ⟨_, SqT.of d3⟩, fun D hD => ?_⟩
    refine lc_tup (K := K) (a := ta') (xs := as') (fun i H' => Same H H' ∧ ∃ ms, H' D = some (.lst ms) ∧ TupsP H' aV ms (moved T.n (U.arr.take i))) ⟨Same.new hD, [], upd_same, .nil⟩ (fun i H' _ ⟨e, _⟩ => SqT.of (e _ _ d3)) (fun i v H' hy ⟨k2, ms, hd, hm⟩ => ?_) (fun H2 ⟨k2, ms, hd, hm⟩ => ?_)
    · obtain ⟨a, q, ha, rfl, hq⟩ := d4.get' hy
      have hq2 : H' q = some (.tup (aV a)) := k2 _ _ hq
      have et : U.arr.take (i + 1) = U.arr.take i ++ [a] := by rw [List.take_add_one, ha]; rfl
      have hl : ms.length < sizeLine := by
        rw [hm.len]
        unfold moved
        rw [List.length_map, sizeLine_eq]
        have := List.length_take_le' i U.arr
        have := WU.len
        omega
      refine ⟨q, aV a, rfl, SqT.of hq2, rfl, _, _, rfl, _, _, rfl, _, _, rfl, _, _, rfl, rfl, rfl, ?_⟩
      refine ⟨_, rfl, _, rfl, _, _, rfl, rfl, _, rfl, _, rfl, _, rfl, _, rfl, _, _, rfl, rfl, (by show 4 ≤ sizeLine; decide), fun t ht => ?_⟩
      have ntD : D ≠ t := ne_of_none hd ht
      refine ⟨ms, by rw [upd_ne ntD]; exact hd, hl, Same.put (k2.trans (Same.new ht)) hD, _, upd_same, ?_⟩
      rw [et]
      unfold moved at hm ⊢
      rw [List.map_append]
      refine pd_app (TupsP.mono hm fun b xs e => ?_) (.cons ⟨t, rfl, ?_⟩ .nil)
      · rw [upd_ne (ne_of e hd (fun z => by cases z)), upd_ne (ne_of_none e ht)]
        exact e
      · rw [upd_ne ntD.symm, upd_same]
        show some (HO.tup [V.int ((a.1 : Int) + (T.n : Int)), _, _, V.int ((a.2.2.2 : Int) + (T.n : Int))]) = some (HO.tup [V.int ((a.1 + T.n : Nat) : Int), _, _, V.int ((a.2.2.2 + T.n : Nat) : Int)])
        rw [Int.natCast_add, Int.natCast_add]
    · rw [d4.len, List.take_length] at hm
      refine ⟨_, rfl, _, rfl, y, C', dx', _, _, rfl, k2 _ _ d2, d1.cl, d1.nP, trF_places _ _ _, _, _, rfl, rfl, ?_⟩
      refine ⟨_, rfl, x, C, dx, _, _, rfl, k2 _ _ c2, c1.cl, c1.nA, trF_arrows _ _ _, ta, as, rfl, .inr (SqT.of (k2 _ _ c3)), fun l hl => ?_⟩
      have nlD : D ≠ l := ne_of_none hd hl
      refine ⟨_, rfl, l, D, as, ms, rfl, rfl, upd_same, by rw [upd_ne nlD]; exact hd, ?_, fun p hp => ?_⟩
      · rw [c4.len, hm.len, sizeLine_eq]
        unfold moved
        rw [List.length_map]
        omega
      have k3 : Same H2 (upd (upd H2 l (.lst as)) p (.lst (as ++ ms))) := Same.new2 (Same.new hl) hp
      have Wd := side_wf W WU h14 h60
      refine ⟨p, T.n + U.n, as ++ ms, (sideM T U).arr, (by rw [show ((T.n + U.n : Nat) : Int) = (T.n : Int) + (U.n : Int) from Int.natCast_add _ _]; rfl), upd_same, pd_app (c4.same (k2.trans k3)) (TupsP.same hm k3), h14, Wd.len, Wd.pl, Wd.asc, fun H3 z k4 tr => ?_⟩
      exact hQ H3 z ((k2.trans k3).trans k4) (tr.weak fun b o _ e => (k2.trans k3).free e)
abbrev sLTrack : Stmt := top 48
theorem scLTrack : FnScope ["_law_told_here"] ["_law_told_here"] (defScope sLTrack) := ⟨rfl, rfl, rfl, by decide +kernel, rfl, by decide +kernel, by decide +kernel⟩
def spLTrack (K : PySem.W.Frag) : Sp := fun vs H Q _ => ∃ (t : Addr) (T : Tk), vs = [.ref t] ∧ ToldAt H t T ∧ Wf T ∧ T.n ≤ 12 ∧ ∀ H' x, Same H H' → TrackAt (TC K) (fun b => H b = none) H' x T → Q (.ref x) H'
theorem ok_ltrack {CT : Addr} (F : DefAt K mg "_law_track" sLTrack) (M : MkD P w K mg base 5 "Track" CT ["self", "places", "arrows"] (spTrack K CT)) : Def P w K mg base CX0 7 "_law_track" ["_law_told_here"] (spLTrack K) := by
  refine Def.of F scLTrack (fun _ _ _ _ _ _ us hl => match us, hl with | [_], _ => rfl) (fun vs H Q E h => ?_) (fun f cdv A outer s H vs Q E hr h => ?_)
  · obtain ⟨t, T, rfl, _⟩ := h
    rfl
  · obtain ⟨t, T, rfl, hT, W, h12, hQ⟩ := h
    obtain ⟨ta, as, h1, h2, h3⟩ := hT.ex
    refine ⟨_, pss_one (ps_ret (pe_mk M hr (by rfl) (pa_cons (pe_ix ix_tup (pv 0) pe_int (fun _ _ => rfl)) (pa_cons (pe_ix ix_tup (pv 0) pe_int (fun _ _ => rfl)) pa_nil)))), ?_⟩
    refine ⟨_, rfl, t, _, 0, .int T.n, rfl, rfl, SqT.of h1, at_of (j := 0) rfl rfl, _, rfl, t, _, 1, .ref ta, rfl, rfl, SqT.of h1, at_of (j := 1) rfl rfl, ?_⟩
    intro x dx nx ndx nex
    have k1 : Same H _ := Same.made2 (C := CT) nx ndx
    refine ⟨x, dx, ta, T.n, as, T.arr, rfl, upd_same, k1 _ _ h2, h3.same k1, W.pos, h12, W.arrOk, W.tot, fun H' k3 tr => ⟨rfl, ?_⟩⟩
    exact hQ H' x (Same.made3 nx ndx k3) (tr.weak fun b o _ e => k1.free e)
end
end K81
set_option maxRecDepth 100000
set_option maxHeartbeats 8000000
/-! stakes.py -/
namespace K81
open PySem PySem.Spec PyProof.Rows L2
section
variable {P : Program} {w : World} {K : PySem.W.Frag} {mg : Str → Option Value} {base : Heap}
abbrev sStakeThere : Stmt := top 31
abbrev nStakeThere : List Str := ["track", "place", "thing", "coins"]
theorem scStakeThere : FnScope nStakeThere ["track", "place", "thing"] (defScope sStakeThere) := ⟨rfl, rfl, rfl, by decide +kernel, rfl, by decide +kernel, by decide +kernel⟩
/-- a right stake at p for at most c coins -/
structure StakeOk (T : Tk) (p : Nat) (c : Int) (xs : List Int) : Prop where
  len : xs.length = (steps T p).length
  nn : ∀ z ∈ xs, 0 ≤ z
  le : xs.sum ≤ c
def spStakeThere (K : PySem.W.Frag) : Sp := fun vs H Q _ => ∃ (x : Addr) (p : Nat) (N : Addr → Prop) (T : Tk) (v : V), vs = [.ref x, .int p, v] ∧ TrackAt (TC K) N H x T ∧ p < T.n ∧
  ((v = .non ∧ Q (.bl false) H) ∨ ∃ (q : Addr) (xs : List Int), v = .ref q ∧ H q = some (.tup (xs.map V.int)) ∧ xs.length = (steps T p).length ∧ xs.length ≤ 60 ∧ (∀ z ∈ xs, 0 ≤ z) ∧ ∀ H', Same H H' → Q (.bl true) H')
theorem ok_stake_there (F : DefAt K mg "is_stake_there" sStakeThere) (B : Bt mg) (D1 : Def P w K mg base CX0 2 "is_from" ["thing", "least"] spFrom) (D2 : Def P w K mg base CX0 1 "steps_of" ["track", "place"] (spStepsOf K)) :
    Def P w K mg base CX0 3 "is_stake_there" ["track", "place", "thing"] (spStakeThere K) := by
  refine Def.of F scStakeThere (fun _ _ _ _ _ _ us hl => match us, hl with | [_, _, _], _ => rfl) (fun vs H Q E h => ?_) (fun f cdv A outer s H vs Q E hr h => ?_)
  · obtain ⟨x, p, N, T, v, rfl, _⟩ := h
    rfl
  · obtain ⟨x, p, N, T, v, rfl, hT, hp, h⟩ := h
    have hr1 : Room 1 _ := hr.mono (by decide)
    refine ⟨_, pss_cons (ps_if (PW.pt (pw_or (pt_not (pt_val (pe_callB call_isi (by rfl) B.isinstance (by decide +kernel) (pa_cons (pv 2) (pa_cons (pe_bltn (v := .ty "tuple") (by rfl) B.tuple (by decide +kernel) rfl) pa_nil)))))
        (pw_or1 (pt_cmpR op_ne (pe_callB call_len_seq (by rfl) B.len PySem.boot_len (pa_cons (pv 2) pa_nil)) (pe_callB call_len_seq (by rfl) B.len PySem.boot_len (pa_cons (pe_d D2 hr1 (by rfl) (pa_cons (pv 0) (pa_cons (pv 1) pa_nil))) pa_nil)) (nomark _))))) (pss_one (ps_ret pe_bl)) pss_nil)
      (pss_one (ps_ret (pe_callB (cr_all rfl) (by rfl) B.all (by decide +kernel) (pa_cons (pe_lc (own := [("coins", 3)]) (g := gName 3) (tt := tYes) rfl scStakeThere.nd (pi_tup (pv 2)) (blkOk_by (N := nStakeThere) (sc := defScope sStakeThere) (by decide +kernel))
        (fun _ _ _ _ _ => pg_name (i := 3) scStakeThere.nd rfl (Or.inl rfl)) (fun _ _ _ _ _ => pts_nil) (fun _ _ _ _ _ => pe_d D1 hr (by rfl) (pa_cons (pv 3) (pa_cons pe_int pa_nil)))) pa_nil)))), ?_⟩
    rcases h with ⟨rfl, hQ⟩ | ⟨q, xs, rfl, hq, hlen, h60, hnn, hQ⟩
    · exact ⟨_, rfl, _, _, _, _, _, rfl, .ty _, .base .non, kit_ty (by decide +kernel), false, rfl, iteT (iteT hQ)⟩
    · refine ⟨_, rfl, _, _, _, _, _, rfl, .ty _, .base (.tup hq), kit_ty (by decide +kernel), true, rfl, iteF ?_⟩
      refine ⟨_, rfl, q, _, rfl, .inr (SqT.of hq), ?_⟩
      refine ⟨_, rfl, _, rfl, x, p, N, T, rfl, hT, hp, fun l vs hl hN hv => ?_⟩
      refine ⟨l, vs, rfl, .inl (SqL.of hl), rfl, ?_⟩
      refine ⟨false, ?_, iteF ?_⟩
      · show V.bl (!decide (V.int ((xs.map V.int).length : Int) = V.int (vs.length : Int))) = V.bl false
        rw [List.length_map, hlen, hv.len]
        simp
      refine ⟨_, rfl, q, rfl, ⟨_, SqT.of hq⟩, fun D hD => ?_⟩
      have keep : ∀ i, Same H (upd H D (.lst (List.replicate i (V.bl true)))) := fun i => Same.new hD
      refine lc_tup (K := K) (a := q) (xs := xs.map V.int) (fun i H' => H' = upd H D (.lst (List.replicate i (V.bl true)))) rfl (fun i H' _ e => by rw [e]; exact SqT.of (keep i _ _ hq)) (fun i y H' hx e => ?_) (fun H' e => ?_)
      · subst e
        rw [List.getElem?_map] at hx
        cases hz : xs[i]? with
        | none => rw [hz] at hx; cases hx
        | some z =>
          rw [hz] at hx
          cases hx
          have hi : i < xs.length := (List.getElem?_eq_some_iff.mp hz).1
          refine ⟨rfl, _, rfl, z, 0, rfl, ?_⟩
          rw [show decide ((0 : Int) ≤ z) = true from decide_eq_true (hnn z (List.mem_of_getElem? hz))]
          refine ⟨_, upd_same, by rw [List.length_replicate, sizeLine_eq]; omega, ?_⟩
          rw [upd_upd, rep_snoc]
      · subst e
        refine ⟨D, List.replicate (xs.map V.int).length true, rfl, SqL.of (by rw [upd_same, List.map_replicate]), ?_⟩
        rw [show (List.replicate (xs.map V.int).length true).all id = true by rw [List.all_replicate]; simp]
        exact hQ _ (keep _)
abbrev sBehind : Stmt := top 32
abbrev nBehind : List Str := ["track", "place", "coins", "stake", "kept", "letter", "pay", "goal", "laid"]
theorem scBehind : FnScope nBehind ["track", "place", "coins", "stake"] (defScope sBehind) := ⟨rfl, rfl, rfl, by decide +kernel, rfl, by decide +kernel, by decide +kernel⟩
def spBehind (K : PySem.W.Frag) : Sp := fun vs H Q _ => ∃ (x q : Addr) (p : Nat) (c : Int) (N : Addr → Prop) (T : Tk) (xs : List Int), vs = [.ref x, .int p, .int c, .ref q] ∧ TrackAt (TC K) N H x T ∧ Wf T ∧ p < T.n ∧ H q = some (.tup (xs.map V.int)) ∧ xs.length = (steps T p).length ∧
  ∀ H' l vs', Same H H' → H l = none → H' l = some (.lst vs') → TupsP H' bV vs' (behindM T p c xs) → Q (.ref l) H'
theorem ok_behind (F : DefAt K mg "behind" sBehind) (B : Bt mg) (D2 : Def P w K mg base CX0 1 "steps_of" ["track", "place"] (spStepsOf K)) : Def P w K mg base CX0 2 "behind" ["track", "place", "coins", "stake"] (spBehind K) := by
  refine Def.of F scBehind (fun _ _ _ _ _ _ us hl => match us, hl with | [_, _, _, _], _ => rfl) (fun vs H Q E h => ?_) (fun f cdv A outer s H vs Q E hr h => ?_)
  · obtain ⟨x, q, p, c, N, T, xs, rfl, _⟩ := h
    rfl
  · obtain ⟨x, q, p, c, N, T, xs, rfl, hT, W, hp, hq, hlen, hQ⟩ := h
    refine ⟨_, pss_cons (ps_set (i := 4) scBehind.nd rfl (Or.inr rfl) (pe_op op_sub (pv 2) (pe_callB (cr_sumT rfl) (by rfl) B.sum (by decide +kernel) (pa_cons (pv 3) pa_nil))))
      (pss_one (ps_ret (pe_lc (own := [("letter", 5), ("pay", 6), ("goal", 7), ("laid", 8)]) (g := gTup K 2 (gCons (gTup K 3 (gCons (gName 5) (gCons (gName 6) (gCons (gName 7) gNil)))) (gCons (gName 8) gNil))) (tt := tYes) rfl scBehind.nd
        (pi_zipM (by rfl) B.zip (pa_cons (pe_d D2 hr (by rfl) (pa_cons (pv 0) (pa_cons (pv 1) pa_nil))) (pa_cons (pv 3) pa_nil))) (blkOk_by (N := nBehind) (sc := defScope sBehind) (by decide +kernel))
        (fun _ _ _ _ _ => pg_tup rfl (pgs_cons (pg_tup rfl (pgs_cons (pg_name (i := 5) scBehind.nd rfl (Or.inl rfl)) (pgs_cons (pg_name (i := 6) scBehind.nd rfl (Or.inl rfl)) (pgs_cons (pg_name (i := 7) scBehind.nd rfl (Or.inl rfl)) pgs_nil)))) (pgs_cons (pg_name (i := 8) scBehind.nd rfl (Or.inl rfl)) pgs_nil)))
        (fun _ _ _ _ _ => pts_nil) (fun _ _ _ _ _ => pe_tup (pa_cons (pv 5) (pa_cons (pe_op op_add (pv 4) (pe_op op_mul (pv 6) (pv 8))) (pa_cons (pv 7) pa_nil))))))), ?_⟩
    refine ⟨_, rfl, _, rfl, q, xs, rfl, SqT.of hq, _, _, rfl, rfl, ?_⟩
    refine ⟨_, rfl, _, rfl, x, p, N, T, rfl, hT, hp, fun l vs hl hN hv => ?_⟩
    refine ⟨_, rfl, l, q, vs, xs.map V.int, rfl, SqL.of hl, SqT.of hq, fun D hD => ?_⟩
    have hvl : vs.length = (steps T p).length := hv.len
    refine lc_it (walk_mix (K := K) (a := l) (b := q) (xs := vs) (ys := xs.map V.int) (n := (steps T p).length) hvl (by rw [List.length_map, hlen])) (fun i H' => Same H H' ∧ ∃ ms, H' D = some (.lst ms) ∧ TupsP H' bV ms ((behindM T p c xs).take i))
      ⟨Same.new hD, [], upd_same, .nil⟩ (fun i H' _ ⟨e, _⟩ => ⟨SqL.of (e _ _ hl), SqT.of (e _ _ hq)⟩) (fun i y H1 H2 hi ⟨k, ms, hd, hm⟩ hy => ?_) (fun H' ⟨k, ms, hd, hm⟩ => ?_)
    · obtain ⟨t, v1, v2, rfl, ht, rfl, e1, e2⟩ := hy
      obtain ⟨st, a, hst, rfl, ha⟩ := hv.get' e1
      obtain ⟨z, hz, rfl⟩ : ∃ z, xs[i]? = some z ∧ v2 = V.int z := by
        have e2 : (xs.map V.int)[i]? = some v2 := e2
        rw [List.getElem?_map] at e2
        cases hz : xs[i]? with
        | none => rw [hz] at e2; cases e2
        | some z =>
          rw [hz] at e2
          exact ⟨z, rfl, (Option.some.inj e2).symm⟩
      have ha1 : upd H1 t (.tup [.ref a, .int z]) a = some (.tup (sV st)) := by rw [upd_ne (ne_of_none (k _ _ ha) ht)]; exact k _ _ ha
      refine ⟨t, _, rfl, SqT.of upd_same, rfl, _, _, rfl, ⟨a, sV st, rfl, SqT.of ha1, rfl, _, _, rfl, _, _, rfl, _, _, rfl, rfl, _, _, rfl, rfl, rfl, ?_⟩⟩
      have hpay : st.2.1 ≤ 9 := steps_pay W (List.mem_of_getElem? hst)
      refine ⟨_, rfl, _, rfl, _, rfl, _, rfl, _, _, rfl, rfl, .inl ⟨by omega, by omega⟩, _, _, rfl, rfl, _, rfl, (by show 3 ≤ sizeLine; decide), fun u hu => ?_⟩
      have ntD : D ≠ t := ne_of_none hd ht
      have nuD : D ≠ u := fun z => by
        rw [← z, upd_ne ntD, hd] at hu
        cases hu
      have hml : ms.length < sizeLine := by
        rw [hm.len, sizeLine_eq]
        have h1 := List.length_take_le i (behindM T p c xs)
        have h2 := steps_len W p
        omega
      refine ⟨ms, by rw [upd_ne nuD, upd_ne ntD]; exact hd, hml, Same.put ((k.trans (Same.new ht)).trans (Same.new hu)) hD, _, upd_same, ?_⟩
      have hb : (behindM T p c xs)[i]? = some (st.1, c - xs.sum + st.2.1 * z, st.2.2) := by
        unfold behindM
        rw [List.getElem?_map, (List.getElem?_zip_eq_some (z := (st, z))).mpr ⟨hst, hz⟩]
        rfl
      rw [show (behindM T p c xs).take (i + 1) = (behindM T p c xs).take i ++ [(st.1, c - xs.sum + st.2.1 * z, st.2.2)] by rw [List.take_add_one, hb]; rfl]
      refine pd_app (hm.mono fun b ys e => ?_) (.cons ⟨u, rfl, by rw [upd_ne nuD.symm, upd_same]; rfl⟩ .nil)
      have n1 : b ≠ D := ne_of e hd (fun z => by cases z)
      have n2 : b ≠ t := ne_of_none e ht
      have e2' : upd H1 t (.tup [.ref a, .int z]) b = some (.tup ys) := by rw [upd_ne n2]; exact e
      rw [upd_ne n1, upd_ne (ne_of_none e2' hu)]
      exact e2'
    · have hl2 : (behindM T p c xs).length = (steps T p).length := by
        unfold behindM
        rw [List.length_map, List.length_zip, hlen, Nat.min_self]
      rw [← hl2, List.take_length] at hm
      exact hQ H' D ms k hD hd hm
end
end K81
set_option maxRecDepth 100000
set_option maxHeartbeats 8000000
/-! rows.py: counts. -/
namespace K81
open PySem PySem.Spec PyProof.Rows L2
/-- the numbers of rows of a length, place by place -/
def cV (T : Tk) (k : Nat) : List V := (List.range T.n).map fun p => V.int (cnt T k p)
/-- the lists of numbers at l, for the lengths below m -/
structure CntsAt (H : Hp) (l : Addr) (T : Tk) (m : Nat) : Prop where
  ex : ∃ as : List Addr, as.length = m ∧ H l = some (.lst (as.map V.ref)) ∧ ∀ k a, as[k]? = some a → a ≠ l ∧ H a = some (.lst (cV T k))
theorem range_get {n i : Nat} (h : i < n) : (List.range n)[i]? = some i := by simp [h]
theorem cV_get (T : Tk) (k : Nat) {p : Nat} (h : p < T.n) : (cV T k)[p]? = some (.int (cnt T k p)) := by
  unfold cV
  rw [List.getElem?_map, range_get h]
  rfl
theorem cV_len (T : Tk) (k : Nat) : (cV T k).length = T.n := by simp [cV]
theorem take_snoc {α : Type} {l : List α} {i : Nat} {x : α} (h : l[i]? = some x) : l.take (i + 1) = l.take i ++ [x] := by rw [List.take_add_one, h]; rfl
theorem sum_cast {α : Type} (g : α → Nat) : ∀ l : List α, (l.map fun s => (g s : Int)).sum = (((l.map g).sum : Nat) : Int)
  | [] => rfl
  | a :: l => by rw [List.map_cons, List.map_cons, List.sum_cons, List.sum_cons, sum_cast g l, Int.natCast_add]
theorem cV_zero (T : Tk) : List.replicate T.n (V.int 1) = cV T 0 := by
  unfold cV
  refine (List.eq_replicate_iff.mpr ⟨by simp, fun b hb => ?_⟩).symm
  obtain ⟨p, _, e⟩ := List.mem_map.mp hb
  rw [← e]
  rfl
section
variable {P : Program} {w : World} {K : PySem.W.Frag} {mg : Str → Option Value} {base : Heap}
abbrev sCounts : Stmt := top 35
abbrev nCounts : List Str := ["track", "length", "found", "turn", "ahead", "place", "steps", "letter", "pay", "goal"]
theorem scCounts : FnScope nCounts ["track", "length"] (defScope sCounts) := ⟨rfl, rfl, rfl, by decide +kernel, rfl, by decide +kernel, by decide +kernel⟩
abbrev scopeSteps : Scope := { kind := .function, names := [(".0", .local), ("steps", .local), ("sum", .globalImplicit), ("ahead", .free)], isGenerator := false, isCoroutine := false }
def spCounts (K : PySem.W.Frag) : Sp := fun vs H Q _ => ∃ (x : Addr) (len : Nat) (N : Addr → Prop) (T : Tk), vs = [.ref x, .int len] ∧ TrackAt (TC K) N H x T ∧ Wf T ∧ len ≤ 12 ∧ ∀ H' l, Same H H' → CntsAt H' l T (len + 1) → Q (.ref l) H'
theorem ok_counts (F : DefAt K mg "counts_to" sCounts) (B : Bt mg) : Def P w K mg base CX0 1 "counts_to" ["track", "length"] (spCounts K) := by
  refine Def.of F scCounts (fun _ _ _ _ _ _ us hl => match us, hl with | [_, _], _ => rfl) (fun vs H Q E h => ?_) (fun f cdv A outer s H vs Q E hr h => ?_)
  · obtain ⟨x, len, N, T, rfl, _⟩ := h
    rfl
  · obtain ⟨x, len, N, T, rfl, hT, W, h12, hQ⟩ := h
    refine ⟨_, pss_cons (ps_set (i := 2) scCounts.nd rfl (Or.inl rfl) (pe_lst (pa_cons (pe_lc (own := [("place", 5)]) (g := gName 5) (tt := tYes) rfl scCounts.nd (pi_range1 rfl B.range (pa_cons (pe_fld (pv 0) rfl) pa_nil)) (blkOk_by (N := nCounts) (sc := defScope sCounts) (by decide +kernel))
          (fun _ _ _ _ _ => pg_name (i := 5) scCounts.nd rfl (Or.inl rfl)) (fun _ _ _ _ _ => pts_nil) (fun _ _ _ _ _ => pe_int)) pa_nil)))
      (pss_cons (ps_for PassesOwn.never rfl (pi_range1 rfl B.range (pa_cons (pv 1) pa_nil)) (pg_name (i := 3) scCounts.nd rfl (Or.inl rfl))
        (pss_cons (ps_set (i := 4) scCounts.nd rfl (Or.inr rfl) (pe_ix ix_list (pv 2) (pe_un un_neg pe_int) (fun _ _ => rfl)))
        (pss_one (ps_expr (pe_bm PySem.F.plainAttrs_list PySem.F.slot_list_append PySem.F.type_list_append mt_append (pv 2) (pa_cons
          (pe_lc (own := [("steps", 6)]) (g := gName 6) (tt := tYes) rfl scCounts.nd (pi_list (pe_fld (pv 0) rfl)) (blkOk_by (N := nCounts) (sc := defScope sCounts) (by decide +kernel))
            (fun _ _ _ _ _ => pg_name (i := 6) scCounts.nd rfl (Or.inl rfl)) (fun _ _ _ _ _ => pts_nil)
            (fun _ _ _ _ _ => pe_callB (r := rSum K) (cr_sum rfl) (by rfl) B.sum (by decide +kernel) (pa_cons (pe_lc (wi := iList K (tVar 6)) (own := [("letter", 7), ("pay", 8), ("goal", 9)]) (g := gTup K 3 (gCons (gName 7) (gCons (gName 8) (gCons (gName 9) gNil)))) (tt := tYes) rfl scCounts.nd (pi_list (pv 6))
              (blkOk_by (N := nCounts) (sc := relS scopeSteps (defScope sCounts)) (by decide +kernel))
              (fun _ _ _ _ _ => pg_tup rfl (pgs_cons (pg_name (i := 7) scCounts.nd rfl (Or.inl rfl)) (pgs_cons (pg_name (i := 8) scCounts.nd rfl (Or.inl rfl)) (pgs_cons (pg_name (i := 9) scCounts.nd rfl (Or.inl rfl)) pgs_nil))))
              (fun _ _ _ _ _ => pts_nil) (fun _ _ _ _ _ => pe_ix (r := rIxL K) ix_list (pv 4) (pv 9) (fun _ _ => rfl))) pa_nil))) pa_nil))))))
      (pss_one (ps_ret (pv 2)))), ?_⟩
    obtain ⟨C, dx, ta, ka, tas, ls, c1, c2, c3, c4, c5, c6, c7⟩ := hT.ex
    have hn := W.le
    refine ⟨_, rfl, x, C, dx, _, _, rfl, c2, c1.cl, c1.nP, trF_places _ _ _, (T.n : Int), rfl, by omega, by omega, fun D0 hD0 => ?_⟩
    refine lc_range (lo := 0) (n := (T.n : Int).toNat) (fun i H' => H' = upd H D0 (.lst (List.replicate i (V.int 1)))) rfl (fun i H' hi e => ?_) (fun H' e => ?_)
    · subst e
      refine ⟨rfl, _, upd_same, by rw [List.length_replicate, sizeLine_eq]; omega, ?_⟩
      rw [upd_upd, rep_snoc]
    · subst e
      rw [Int.toNat_natCast, cV_zero]
      refine ⟨by show 1 ≤ sizeLine; decide, fun G hG => ?_⟩
      have nDG : D0 ≠ G := ne_of_none upd_same hG
      generalize hH1 : upd (upd H D0 (.lst (cV T 0))) G (.lst [.ref D0]) = H1
      have k1 : Same H H1 := by rw [← hH1]; exact (Same.new hD0).trans (Same.new hG)
      have q1 : CntsAt H1 G T 1 := by
        refine ⟨[D0], rfl, by rw [← hH1, upd_same]; rfl, fun k a e => ?_⟩
        cases k with
        | zero =>
          cases e
          exact ⟨nDG, by rw [← hH1, upd_ne nDG, upd_same]⟩
        | succ k => simp at e
      refine ⟨_, rfl, (len : Int), rfl, by omega, by omega, for_range (lo := 0) (n := (len : Int).toNat) (fun i σ H' => ∃ v3 v4 : Option V, σ = [some (.ref x), some (.int len), some (.ref G), v3, v4, none, none, none, none, none] ∧ Same H H' ∧ CntsAt H' G T (i + 1))
        ⟨none, none, rfl, k1, q1⟩ ?_ ?_⟩
      · rintro i σ H2 hi ⟨v3, v4, rfl, k2, q2⟩
        obtain ⟨as, a1, a2, a3⟩ := q2.ex
        obtain ⟨ai, hai⟩ : ∃ ai, as[i]? = some ai := ⟨as[i]'(by omega), List.getElem?_eq_getElem _⟩
        obtain ⟨nai, hai2⟩ := a3 i ai hai
        have hlast : atI (as.map V.ref) (-1) = some (V.ref ai) := by
          have e : as = as.take i ++ [ai] := by rw [← take_snoc hai, List.take_of_length_le (by omega)]
          rw [e, List.map_append]
          exact atI_last _ _
        refine ⟨_, rfl, 1, rfl, G, _, -1, .ref ai, rfl, rfl, SqL.of a2, hlast, ?_⟩
        refine ⟨_, rfl, .inl ⟨rfl, _, SqL.of a2⟩, _, rfl, x, C, dx, _, _, rfl, k2 _ _ c2, c1.cl, c1.nK, trF_kept _ _ _, ka, rfl, ⟨_, SqL.of (k2 _ _ c5)⟩, fun D hD => ?_⟩
        refine lc_list (K := K) (a := ka) (xs := ls) (fun p H' => Same H2 H' ∧ H' D = some (.lst ((cV T (i + 1)).take p))) ⟨Same.new hD, by rw [upd_same]; rfl⟩ (fun p H' _ ⟨e, _⟩ => SqL.of (e _ _ (k2 _ _ c5))) (fun p y H3 hy ⟨k3, hd⟩ => ?_) (fun H3 ⟨k3, hd⟩ => ?_)
        · obtain ⟨p', hp', l, vs, rfl, hl, _, hv⟩ := pd_get' c7 hy
          have hpn : p < T.n := by
            have := (List.getElem?_eq_some_iff.mp hp').1
            simpa using this
          have ep : p' = p := by
            rw [range_get hpn] at hp'
            exact (Option.some.inj hp').symm
          subst ep
          have hl3 : H3 l = some (.lst vs) := k3 _ _ (k2 _ _ hl)
          refine ⟨rfl, _, rfl, l, rfl, ⟨_, SqL.of hl3⟩, fun D2 hD2 => ?_⟩
          refine lc_list (K := K) (a := l) (xs := vs) (fun j H' => H' = upd H3 D2 (.lst (((steps T p').map fun s => V.int (cnt T i s.2.2)).take j))) rfl (fun j H' _ e => by rw [e, SqL]; exact .inl (.inl (by rw [upd_ne (ne_of_none hl3 hD2)]; exact hl3))) (fun j y H4 hy e => ?_) (fun H4 e => ?_)
          · subst e
            obtain ⟨st, q, hst, rfl, hq⟩ := hv.get' hy
            have kk : ∀ b o, H b = some o → upd H3 D2 (.lst (((steps T p').map fun s => V.int (cnt T i s.2.2)).take j)) b = some o := fun b o e => by
              have := k3 _ _ (k2 _ _ e)
              rw [upd_ne (ne_of_none this hD2)]
              exact this
            have hai3 : upd H3 D2 (.lst (((steps T p').map fun s => V.int (cnt T i s.2.2)).take j)) ai = some (.lst (cV T i)) := by
              have := k3 _ _ hai2
              rw [upd_ne (ne_of_none this hD2)]
              exact this
            have hg : st.2.2 < T.n := steps_goal W (List.mem_of_getElem? hst)
            refine ⟨q, sV st, rfl, SqT.of (kk _ _ hq), rfl, _, _, rfl, _, _, rfl, _, _, rfl, rfl, rfl, ?_⟩
            refine ⟨_, rfl, _, rfl, ai, cV T i, st.2.2, .int (cnt T i st.2.2), rfl, rfl, SqL.of hai3, at_of (j := st.2.2) rfl (cV_get T i hg), ?_⟩
            refine ⟨_, upd_same, ?_, ?_⟩
            · have h1 := List.length_take_le j ((steps T p').map fun s => V.int (cnt T i s.2.2))
              have h2 := (List.getElem?_eq_some_iff.mp hst).1
              have h3 := steps_len W p'
              rw [sizeLine_eq]
              omega
            · rw [upd_upd, take_snoc (x := V.int (cnt T i st.2.2)) (by rw [List.getElem?_map, hst]; rfl)]
          · subst e
            have el : vs.length = ((steps T p').map fun s => V.int (cnt T i s.2.2)).length := by rw [List.length_map, hv.len]
            rw [el, List.take_length]
            refine ⟨D2, (steps T p').map fun s => (cnt T i s.2.2 : Int), rfl, SqL.of (by rw [upd_same, List.map_map]; rfl), ?_⟩
            have nDD2 : D ≠ D2 := ne_of_none hd hD2
            refine ⟨_, by rw [upd_ne nDD2]; exact hd, ?_, Same.put (k3.trans (Same.new hD2)) hD, ?_⟩
            · have h1 := List.length_take_le p' (cV T (i + 1))
              rw [sizeLine_eq]
              omega
            · have e : (((steps T p').map fun s => (cnt T i s.2.2 : Int)).sum) = ((cnt T (i + 1) p' : Nat) : Int) := by
                exact sum_cast _ _
              rw [upd_same, e, take_snoc (cV_get T (i + 1) hpn)]
        · have el : ls.length = (cV T (i + 1)).length := by rw [cV_len, pd_len c7, List.length_range]
          rw [el, List.take_length] at hd
          have nGD : G ≠ D := ne_of_none a2 hD
          refine ⟨G, as.map V.ref, .ref D, rfl, rfl, k3 _ _ a2, by rw [List.length_map, a1, sizeLine_eq]; omega, _, _, rfl, ?_, as ++ [D], by simp [a1], by rw [upd_same, List.map_append]; rfl, fun k a e => ?_⟩
          · exact Same.put (k2.trans k3) ((Same.new hD0).free hG)
          · by_cases hk : k < as.length
            · rw [List.getElem?_append_left hk] at e
              obtain ⟨z1, z2⟩ := a3 k a e
              exact ⟨z1, by rw [upd_ne z1]; exact k3 _ _ z2⟩
            · rw [List.getElem?_append_right (by omega)] at e
              have ek : k - as.length = 0 := by
                have := (List.getElem?_eq_some_iff.mp e).1
                simp at this
                omega
              rw [ek] at e
              cases e
              have ek2 : k = i + 1 := by omega
              subst ek2
              exact ⟨nGD.symm, by rw [upd_ne nGD.symm]; exact hd⟩
      · rintro σ H2 ⟨v3, v4, rfl, k2, q2⟩
        rw [Int.toNat_natCast] at q2
        exact ⟨_, rfl, hQ H2 G k2 q2⟩
abbrev sManyOf : Stmt := top 36
theorem scManyOf : FnScope ["track", "place", "length"] ["track", "place", "length"] (defScope sManyOf) := ⟨rfl, rfl, rfl, by decide +kernel, rfl, by decide +kernel, by decide +kernel⟩
def spManyOf (K : PySem.W.Frag) : Sp := fun vs H Q _ => ∃ (x : Addr) (p len : Nat) (N : Addr → Prop) (T : Tk), vs = [.ref x, .int p, .int len] ∧ TrackAt (TC K) N H x T ∧ Wf T ∧ p < T.n ∧ len ≤ 12 ∧ ∀ H', Same H H' → Q (.int (cnt T len p)) H'
theorem ok_many_of (F : DefAt K mg "many_of" sManyOf) (D1 : Def P w K mg base CX0 1 "counts_to" ["track", "length"] (spCounts K)) : Def P w K mg base CX0 2 "many_of" ["track", "place", "length"] (spManyOf K) := by
  refine Def.of F scManyOf (fun _ _ _ _ _ _ us hl => match us, hl with | [_, _, _], _ => rfl) (fun vs H Q E h => ?_) (fun f cdv A outer s H vs Q E hr h => ?_)
  · obtain ⟨x, p, len, N, T, rfl, _⟩ := h
    rfl
  · obtain ⟨x, p, len, N, T, rfl, hT, W, hp, h12, hQ⟩ := h
    refine ⟨_, pss_one (ps_ret (pe_ix ix_list (pe_ix ix_list (pe_d D1 hr (by rfl) (pa_cons (pv 0) (pa_cons (pv 2) pa_nil))) (pv 2) (fun _ _ => rfl)) (pv 1) (fun _ _ => rfl))), ?_⟩
    refine ⟨_, rfl, _, rfl, x, len, N, T, rfl, hT, W, h12, fun H' l k q => ?_⟩
    obtain ⟨as, a1, a2, a3⟩ := q.ex
    obtain ⟨a, ha⟩ : ∃ a, as[len]? = some a := ⟨as[len]'(by omega), List.getElem?_eq_getElem _⟩
    exact ⟨_, rfl, l, _, len, .ref a, rfl, rfl, SqL.of a2, at_of (j := len) rfl (by rw [List.getElem?_map, ha]; rfl), _, rfl, a, _, p, .int (cnt T len p), rfl, rfl, SqL.of (a3 len a ha).2, at_of (j := p) rfl (cV_get T len hp), hQ H' k⟩
end
end K81
set_option maxRecDepth 100000
set_option maxHeartbeats 4000000
/-! Plain: levels of rows. -/
namespace K81
open PySem PySem.Spec PyProof.Rows L2
def BfOk (T : Tk) (p : Nat) (bf : Bf) : Prop := ∀ r c g xs, ledM T p r = some g → 0 ≤ c → bf r c = some xs → StakeOk T g c xs
theorem steps_asc {T : Tk} (W : Wf T) (p : Nat) : (steps T p).Pairwise fun a b => a.1 < b.1 := by
  unfold steps
  rw [List.pairwise_map, List.pairwise_filter]
  refine W.asc.imp fun {a b} h ha hb => ?_
  have h1 : a.1 = p := by simpa using ha
  have h2 : b.1 = p := by simpa using hb
  rcases h with h | ⟨_, h⟩
  · omega
  · exact h
theorem find_of {T : Tk} (W : Wf T) {p : Nat} {s : Nat × Nat × Nat} (h : s ∈ steps T p) : (steps T p).find? (fun q => q.1 == s.1) = some s := by
  have asc := steps_asc W p
  revert h asc
  generalize steps T p = l
  intro h asc
  induction l with
  | nil => cases h
  | cons a l ih =>
    rw [List.find?_cons]
    rw [List.pairwise_cons] at asc
    rcases List.mem_cons.mp h with e | h
    · subst e
      simp
    · have hlt := asc.1 s h
      have hne : (a.1 == s.1) = false := by simp; omega
      rw [hne]
      exact ih h asc.2
theorem led_snoc {T : Tk} (W : Wf T) {r : List Nat} {p g : Nat} {s : Nat × Nat × Nat} (h : ledM T p r = some g) (hs : s ∈ steps T g) : ledM T p (r ++ [s.1]) = some s.2.2 := by
  induction r generalizing p with
  | nil =>
    cases h
    show ledM T g [s.1] = _
    unfold ledM
    rw [find_of W hs]
    rfl
  | cons c r ih =>
    rw [List.cons_append]
    unfold ledM at h ⊢
    split at h
    · cases h
    · rename_i s' e
      exact ih h
theorem led_goal {T : Tk} (W : Wf T) {r : List Nat} {p g : Nat} (hp : p < T.n) (h : ledM T p r = some g) : g < T.n := by
  induction r generalizing p with
  | nil => cases h; exact hp
  | cons c r ih =>
    unfold ledM at h
    split at h
    · cases h
    · rename_i s e
      exact ih (steps_goal W (List.mem_of_find?_eq_some e)) h
theorem led_letters {T : Tk} (W : Wf T) {r : List Nat} {p g : Nat} (h : ledM T p r = some g) : ∀ c ∈ r, c < 26 := by
  induction r generalizing p with
  | nil => intro c hc; cases hc
  | cons c r ih =>
    unfold ledM at h
    split at h
    · cases h
    · rename_i s e
      have h1 := List.mem_of_find?_eq_some e
      have h2 := List.find?_some e
      intro d hd
      rcases List.mem_cons.mp hd with rfl | hd
      · have : s.1 = d := by simpa using h2
        rw [← this]
        exact steps_letter W h1
      · exact ih h d hd
/-- what an item of a level is -/
structure ItOk (T : Tk) (p k : Nat) (x : It3) : Prop where
  led : ledM T p x.1 = some x.2.2
  nn : 0 ≤ x.2.1
  len : x.1.length = k
theorem behind_mem {T : Tk} {p : Nat} {c : Int} {xs : List Int} {q : Nat × Int × Nat} (h : q ∈ behindM T p c xs) : ∃ s z, s ∈ steps T p ∧ z ∈ xs ∧ q = (s.1, c - xs.sum + s.2.1 * z, s.2.2) := by
  obtain ⟨⟨s, z⟩, h1, h2⟩ := List.mem_map.mp h
  exact ⟨s, z, (List.of_mem_zip h1).1, (List.of_mem_zip h1).2, h2.symm⟩
theorem expand_ok {T : Tk} (W : Wf T) {p k : Nat} {bf : Bf} (hb : BfOk T p bf) {x y : It3} (hx : ItOk T p k x) (h : y ∈ expand T bf x) : ItOk T p (k + 1) y := by
  unfold expand at h
  split at h
  · cases h
  · rename_i xs e
    obtain ⟨q, hq, rfl⟩ := List.mem_map.mp h
    obtain ⟨s, z, hs, hz, rfl⟩ := behind_mem hq
    have so := hb _ _ _ _ hx.led hx.nn e
    refine ⟨led_snoc W hx.led hs, ?_, by simp [hx.len]⟩
    have h1 := so.nn z hz
    have h2 := so.le
    have h3 : (0 : Int) ≤ (s.2.1 : Int) * z := Int.mul_nonneg (by omega) h1
    show (0 : Int) ≤ x.2.1 - xs.sum + s.2.1 * z
    omega
theorem lv_ok {T : Tk} (W : Wf T) {p : Nat} {bf : Bf} {c : Int} (hb : BfOk T p bf) (hc : 0 ≤ c) : ∀ (k : Nat) (x : It3), x ∈ lv T bf p c k → ItOk T p k x
  | 0, x, h => by
    rw [List.mem_singleton.mp h]
    exact ⟨rfl, hc, rfl⟩
  | k + 1, x, h => by
    obtain ⟨y, h1, h2⟩ := List.mem_flatMap.mp h
    exact expand_ok W hb (lv_ok W hb hc k y h1) h2
theorem cnt_pos {T : Tk} (W : Wf T) : ∀ (k p : Nat), p < T.n → 1 ≤ cnt T k p
  | 0, _, _ => Nat.le_refl _
  | k + 1, p, hp => by
    have h := steps_pos W hp
    have hg : ∀ s ∈ steps T p, 1 ≤ cnt T k s.2.2 := fun s hs => cnt_pos W k _ (steps_goal W hs)
    show 1 ≤ ((steps T p).map fun s => cnt T k s.2.2).sum
    revert h hg
    generalize steps T p = l
    intro h hg
    cases l with
    | nil => simp at h
    | cons a l =>
      rw [List.map_cons, List.sum_cons]
      have := hg a List.mem_cons_self
      omega
theorem sum_le {α : Type} {f g : α → Nat} : ∀ {l : List α}, (∀ a ∈ l, f a ≤ g a) → (l.map f).sum ≤ (l.map g).sum
  | [], _ => Nat.le_refl _
  | a :: l, h => by
    rw [List.map_cons, List.map_cons, List.sum_cons, List.sum_cons]
    have h1 := h a List.mem_cons_self
    have h2 := sum_le (l := l) fun b hb => h b (List.mem_cons_of_mem _ hb)
    omega
theorem cnt_up {T : Tk} (W : Wf T) : ∀ (k p : Nat), p < T.n → cnt T k p ≤ cnt T (k + 1) p
  | 0, p, hp => cnt_pos W 1 p hp
  | k + 1, p, hp => sum_le fun s hs => cnt_up W k _ (steps_goal W hs)
theorem cnt_mono {T : Tk} (W : Wf T) {p : Nat} (hp : p < T.n) {j k : Nat} (h : j ≤ k) : cnt T j p ≤ cnt T k p := by
  induction k with
  | zero => rw [Nat.le_zero.mp h]; exact Nat.le_refl _
  | succ k ih =>
    by_cases e : j = k + 1
    · rw [e]; exact Nat.le_refl _
    · exact Nat.le_trans (ih (by omega)) (cnt_up W k p hp)
theorem sum_flatMap {α β : Type} (f : α → List β) (g : β → Nat) : ∀ l : List α, ((l.flatMap f).map g).sum = (l.map fun a => ((f a).map g).sum).sum
  | [] => rfl
  | a :: l => by rw [List.flatMap_cons, List.map_append, List.sum_append, List.map_cons, List.sum_cons, sum_flatMap f g l]
theorem zip_goals_le {β : Type} (g : Nat → Nat) (m : Nat × Nat × Nat → β → Nat × Int × Nat) (hm : ∀ s z, (m s z).2.2 = s.2.2) : ∀ (l : List (Nat × Nat × Nat)) (xs : List β), (((l.zip xs).map fun q => m q.1 q.2).map fun q => g q.2.2).sum ≤ (l.map fun s => g s.2.2).sum
  | [], _ => by simp
  | _ :: _, [] => by simp
  | s :: l, z :: xs => by
    rw [List.zip_cons_cons, List.map_cons, List.map_cons, List.map_cons, List.sum_cons, List.sum_cons]
    have := zip_goals_le g m hm l xs
    show g (m s z).2.2 + _ ≤ _
    rw [hm]
    omega
theorem expand_weight (T : Tk) (bf : Bf) (j : Nat) (x : It3) : ((expand T bf x).map fun y => cnt T j y.2.2).sum ≤ cnt T (j + 1) x.2.2 := by
  unfold expand
  split
  · simp
  · rename_i xs e
    rw [List.map_map]
    exact zip_goals_le (fun g => cnt T j g) (fun s z => (s.1, x.2.1 - xs.sum + s.2.1 * z, s.2.2)) (fun _ _ => rfl) (steps T x.2.2) xs
theorem lv_weight (T : Tk) (bf : Bf) (p : Nat) (c : Int) : ∀ (k j : Nat), ((lv T bf p c k).map fun y => cnt T j y.2.2).sum ≤ cnt T (k + j) p
  | 0, j => by simp [lv]
  | k + 1, j => by
    show (((lv T bf p c k).flatMap (expand T bf)).map fun y => cnt T j y.2.2).sum ≤ _
    rw [sum_flatMap]
    refine Nat.le_trans (sum_le fun x _ => expand_weight T bf j x) ?_
    have := lv_weight T bf p c k (j + 1)
    rw [show k + 1 + j = k + (j + 1) by omega]
    exact this
theorem lv_len (T : Tk) (bf : Bf) (p : Nat) (c : Int) (k : Nat) : (lv T bf p c k).length ≤ cnt T k p := by
  have h := lv_weight T bf p c k 0
  have e : ((lv T bf p c k).map fun y => cnt T 0 y.2.2).sum = (lv T bf p c k).length := by
    have go : ∀ l : List It3, (l.map fun y => cnt T 0 y.2.2).sum = l.length := by
      intro l
      induction l with
      | nil => rfl
      | cons a l ih => rw [List.map_cons, List.sum_cons, ih, List.length_cons]; show 1 + _ = _; omega
    exact go _
  rw [e] at h
  exact h
theorem flat_take_le {α β : Type} (f : α → List β) (l : List α) (j : Nat) : ((l.take j).flatMap f).length ≤ (l.flatMap f).length := by
  have e : l.flatMap f = (l.take j).flatMap f ++ (l.drop j).flatMap f := by rw [← List.flatMap_append, List.take_append_drop]
  rw [e, List.length_append]
  exact Nat.le_add_right _ _
theorem flat_take_succ {α β : Type} (f : α → List β) {l : List α} {j : Nat} {x : α} (h : l[j]? = some x) : (l.take (j + 1)).flatMap f = (l.take j).flatMap f ++ f x := by
  rw [take_snoc h, List.flatMap_append]
  simp
/-- all items of the levels below k have stakes -/
def AllOk (T : Tk) (bf : Bf) (p : Nat) (c : Int) (k : Nat) : Prop := ∀ i, i < k → ∀ y ∈ lv T bf p c i, bf y.1 y.2.1 ≠ none
theorem lv_ne {T : Tk} (W : Wf T) {p : Nat} {bf : Bf} {c : Int} (hb : BfOk T p bf) (hc : 0 ≤ c) (hp : p < T.n) : ∀ k, AllOk T bf p c k → lv T bf p c k ≠ []
  | 0, _ => by simp [lv]
  | k + 1, h => by
    have ih := lv_ne W hb hc hp k fun i hi => h i (by omega)
    obtain ⟨x, hx⟩ := List.exists_mem_of_ne_nil _ ih
    have ok := lv_ok W hb hc k x hx
    have hs := h k (Nat.lt_succ_self k) x hx
    cases e : bf x.1 x.2.1 with
    | none => exact absurd e hs
    | some xs =>
      have so := hb _ _ _ _ ok.led ok.nn e
      have hg := led_goal W hp ok.led
      have h1 := steps_pos W hg
      obtain ⟨s, hs1⟩ : ∃ s, (steps T x.2.2)[0]? = some s := ⟨_, List.getElem?_eq_getElem h1⟩
      obtain ⟨z, hz⟩ : ∃ z, xs[0]? = some z := ⟨_, List.getElem?_eq_getElem (by rw [so.len]; exact h1)⟩
      intro z0
      have hm : ((s.1, x.2.1 - xs.sum + s.2.1 * z, s.2.2) : Nat × Int × Nat) ∈ behindM T x.2.2 x.2.1 xs := List.mem_map.mpr ⟨(s, z), List.mem_of_getElem? ((List.getElem?_zip_eq_some (z := (s, z))).mpr ⟨hs1, hz⟩), rfl⟩
      have hm2 : ((x.1 ++ [s.1], x.2.1 - xs.sum + s.2.1 * z, s.2.2) : It3) ∈ lv T bf p c (k + 1) := by
        refine List.mem_flatMap.mpr ⟨x, hx, ?_⟩
        unfold expand
        rw [e]
        exact List.mem_map.mpr ⟨_, hm, rfl⟩
      rw [z0] at hm2
      cases hm2
/-- the least pair (coins, row) -/
def minM : List (Int × List Nat) → Option (Int × List Nat)
  | [] => none
  | b :: bs => some (bestOf (fun x y => decide (mLt x y)) b bs)
def pairs (l : List It3) : List (Int × List Nat) := l.map fun x => (x.2.1, x.1)
/-- the first row, shorter ones first, behind which there is no stake -/
def BadFirst (T : Tk) (bf : Bf) (p : Nat) (c : Int) (len : Nat) (r : List Nat) : Prop :=
  ∃ (i j : Nat) (x : It3), i < len ∧ (lv T bf p c i)[j]? = some x ∧ x.1 = r ∧ bf x.1 x.2.1 = none ∧ (∀ (j' : Nat) (y : It3), j' < j → (lv T bf p c i)[j']? = some y → bf y.1 y.2.1 ≠ none) ∧ AllOk T bf p c i
end K81
set_option maxRecDepth 100000
set_option maxHeartbeats 8000000
/-! strangers.py: stake_of, over a bettor that keeps its promise. -/
namespace K81
open PySem PySem.Spec PyProof.Rows L2
abbrev psBet : List Str := ["_law_row", "_law_have"]
def spBet (T : Tk) (p : Nat) (bf : Bf) (Dat : Hp → Prop) : Sp := fun vs H Q _ => ∃ (r : List Nat) (c : Int) (g : Nat), vs = [.str (tx r), .int c] ∧ Dat H ∧ ledM T p r = some g ∧ 0 ≤ c ∧ r.length ≤ 200 ∧
  (bf r c = none → ∀ H', Same H H' → Q .non H') ∧ ∀ xs, bf r c = some xs → ∀ H' q, Same H H' → H' q = some (.tup (xs.map V.int)) → Q (.ref q) H'
/-- a bettor: a function that stands in the base -/
structure Bet (P : Program) (w : World) (K : PySem.W.Frag) (mg : Str → Option Value) (base : Heap) (f : Addr) (T : Tk) (p : Nat) (bf : Bf) (Dat : Hp → Prop) : Prop where
  at_ : PySem.W.FnAt f base
  fn : ∃ fd, (∀ (s : Shared) (us : List Value), us.length = 2 → BindsTo s fd ⟨us, []⟩ (psBet.zip us)) ∧ FnOk P w K mg base CX0 6 f fd psBet (spBet T p bf Dat)
  ok : BfOk T p bf
  keep : ∀ H H', Dat H → Same H H' → Dat H'
/-- the i-th slot holds the bettor -/
def tBet (i : Nat) (f : Addr) (sp : Sp) (t : TA) : TE := fun σ H Q => σ[i]? = some (some (.ref f)) ∧ t σ H fun vs H1 => sp vs H1 Q E0
theorem pe_bet {X : Cx} {i : Nat} {f : Addr} {T : Tk} {p0 : Nat} {bf : Bf} {Dat : Hp → Prop} {x : Str} {p pos : Pos} {e : Expr} {es : List Expr} {t : TA} (B : Bet X.prog X.w X.K X.mg X.base f T p0 bf Dat) (hr : Room 6 X.A) (hN : X.N[i]? = some x) (hv : Vis X.env.scope x) (ha : PA X (e :: es) t)
    (hdb : (x == ("__debug__" : Str)) = false := by decide) (hcd : (x == ("__classdict__" : Str)) = false := by decide)
    (he : starEach (e :: es) X.env = (false, eval e X.env) :: starEach es X.env := by rfl) (hpl : (backTo pos (starEach es X.env)).any (·.1) = false := by rfl) : PE X (.Call (.Name x p) (e :: es) [] pos) (tBet i f (spBet T p0 bf Dat) t) := by
  refine ⟨fun pins s σ H Q I h => ?_⟩
  obtain ⟨hs, ht⟩ := h
  obtain ⟨fd, hb, F⟩ := B.fn
  have fnAt : ∀ {s1 : Shared} {H1 : Hp}, L2.Inv X pins σ H1 s1 → PySem.W.FnAt f s1.heap := fun I1 => by
    obtain ⟨oc, od, fd, sl, e⟩ := B.at_
    exact ⟨oc, od, fd, sl, I1.bk _ _ e⟩
  refine wpAny_Call_Name_kw (thn ((pe_var (pos := p) hN hv hdb hcd).run pins s σ H (fun v H1 => v = .ref f ∧ H1 = H) I ⟨.ref f, hs, rfl, rfl⟩) fun u s1 ⟨v, H1, I1, r1, q1⟩ => ?_)
  obtain ⟨rfl, rfl⟩ := q1
  cases r1
  refine PySem.W.callWith_F (fnAt I1) (thn (ha.run pos pins s1 σ _ _ I1 ht) fun us s2 ⟨vs, H2, I2, r, q⟩ => ⟨fnAt I2, ?_⟩) he hpl
  have hl : us.length = 2 := by rw [← r.length]; exact F.len _ _ _ _ q
  refine wpAny_call (codeAny_mono (F.run X.A X.stack s2 H2 ⟨us, []⟩ us vs Q E0 hr I2.env0 (hb s2 us hl) r q) fun r s' hq => ?_)
  cases r with
  | error e => exact False.elim hq
  | ok fl =>
    cases fl with
    | ret u => exact I2.after hq
    | next => exact False.elim hq
    | brk => exact False.elim hq
    | cont => exact False.elim hq
section
variable {P : Program} {w : World} {K : PySem.W.Frag} {mg : Str → Option Value} {base : Heap}
abbrev sStakeOf : Stmt := top 39
abbrev nStakeOf : List Str := ["track", "place", "coins", "bettor", "text", "stake"]
theorem scStakeOf : FnScope nStakeOf ["track", "place", "coins", "bettor", "text"] (defScope sStakeOf) := ⟨rfl, rfl, rfl, by decide +kernel, rfl, by decide +kernel, by decide +kernel⟩
def spStakeOf (K : PySem.W.Frag) (CB f : Addr) (T : Tk) (p0 : Nat) (bf : Bf) (Dat : Hp → Prop) : Sp := fun vs H Q E => ∃ (x : Addr) (g : Nat) (c : Int) (r : List Nat) (N : Addr → Prop), vs = [.ref x, .int g, .int c, .ref f, .str (tx r)] ∧ TrackAt (TC K) N H x T ∧ Wf T ∧ g < T.n ∧ Dat H ∧ ledM T p0 r = some g ∧ 0 ≤ c ∧ r.length ≤ 200 ∧
  (∀ xs, bf r c = some xs → ∀ H' q, Same H H' → H' q = some (.tup (xs.map V.int)) → Q (.ref q) H') ∧ (bf r c = none → ∀ H' d, Same H H' → H' d = some (.xd [("row", .str (tx r))]) → E (.ref CB) (some d) H')
theorem ok_stake_of {CB f : Addr} {T : Tk} {p0 : Nat} {bf : Bf} {Dat : Hp → Prop} (F : DefAt K mg "stake_of" sStakeOf) (B : Bt mg) (BB : Bet P w K mg base f T p0 bf Dat) (XB : ExcD P w K mg base "BadStake" "row" CB)
    (D1 : Def P w K mg base CX0 3 "is_stake_there" ["track", "place", "thing"] (spStakeThere K)) : Def P w K mg base (L2.CX P w) 7 "stake_of" ["track", "place", "coins", "bettor", "text"] (spStakeOf K CB f T p0 bf Dat) := by
  refine Def.ofX F scStakeOf (fun _ _ _ _ _ _ us hl => match us, hl with | [_, _, _, _, _], _ => rfl) (fun vs H Q E h => ?_) (fun f' cdv A outer s H vs Q E hr h => ?_)
  · obtain ⟨x, g, c, r, N, rfl, _⟩ := h
    rfl
  · obtain ⟨x, g, c, r, N, rfl, hT, W, hg, hD, hled, hc, h200, hQ, hE⟩ := h
    have hr3 : Room 3 _ := hr.mono (by decide)
    have hr2 : Room 2 _ := hr.mono (by decide)
    refine ⟨_, pss_cons (ps_set (i := 5) scStakeOf.nd rfl (Or.inl rfl) (pe_bet (i := 3) BB hr rfl (.inl rfl) (pa_cons (pv 4) (pa_cons (pv 2) pa_nil))))
      (pss_cons (ps_if (PW.pt (pw_or (pt_not (pt_val (pe_d D1 hr3 (by rfl) (pa_cons (pv 0) (pa_cons (pv 1) (pa_cons (pv 5) pa_nil)))))) (pw_or1 (pt_cmpR op_gt (pe_callB (cr_sumT rfl) (by rfl) B.sum (by decide +kernel) (pa_cons (pv 5) pa_nil)) (pv 2) (nomark _)))))
        (pss_one (ps_raise rfl (takes_of rfl rfl rfl rfl) (pmk_exc XB hr2 (by rfl) (pa_cons (pv 4) pa_nil)))) pss_nil)
      (pss_one (ps_ret (pv 5)))), ?_⟩
    refine ⟨rfl, _, rfl, _, rfl, r, c, g, rfl, hD, hled, hc, h200, fun e H1 k1 => ?_, fun xs e H1 q k1 hq => ?_⟩
    · refine ⟨_, rfl, _, rfl, _, rfl, x, g, N, T, .non, rfl, hT.same k1, hg, .inl ⟨rfl, ?_⟩⟩
      refine ⟨false, rfl, iteT (iteT ⟨_, rfl, _, rfl, fun d hd => ?_⟩)⟩
      exact hE e _ d (Same.new2 k1 hd) upd_same
    · have so := BB.ok _ _ _ _ hled hc e
      refine ⟨_, rfl, _, rfl, _, rfl, x, g, N, T, .ref q, rfl, hT.same k1, hg, .inr ⟨q, xs, rfl, hq, so.len, by rw [so.len]; exact steps_len W g, so.nn, fun H2 k2 => ?_⟩⟩
      refine ⟨true, rfl, iteF ⟨_, rfl, q, xs, rfl, SqT.of (k2 _ _ hq), _, rfl, _, _, rfl, rfl, _, rfl, ?_⟩⟩
      rw [show decide (c < xs.sum) = false from decide_eq_false (by have := so.le; omega)]
      exact iteF ⟨_, rfl, hQ xs e H2 q (k1.trans k2) (k2 _ _ hq)⟩
end
end K81
set_option maxRecDepth 100000
set_option maxHeartbeats 16000000
/-! strangers.py: worst. -/
namespace K81
open PySem PySem.Spec PyProof.Rows L2
theorem str_nil : ("" : Str) = tx [] := by decide
theorem hu66 {k : Nat} {A : Around} (hr : Room k A) : A.units + 66 < cLine := by have := hr.un; omega
section
variable {P : Program} {w : World} {K : PySem.W.Frag} {mg : Str → Option Value} {base : Heap}
abbrev sWorst : Stmt := top 40
abbrev nWorst : List Str := ["track", "place", "coins", "bettor", "length", "found", "turn", "later", "text", "here", "at", "stake", "letter", "more", "goal"]
theorem scWorst : FnScope nWorst ["track", "place", "coins", "bettor", "length"] (defScope sWorst) := ⟨rfl, rfl, rfl, by decide +kernel, rfl, by decide +kernel, by decide +kernel⟩
def spWorst (K : PySem.W.Frag) (CB CM f : Addr) (T : Tk) (p0 : Nat) (bf : Bf) (Dat : Hp → Prop) : Sp := fun vs H Q E => ∃ (x : Addr) (c : Int) (len : Nat) (N : Addr → Prop), vs = [.ref x, .int p0, .int c, .ref f, .int len] ∧ TrackAt (TC K) N H x T ∧ Wf T ∧ p0 < T.n ∧ Dat H ∧ 0 ≤ c ∧ len ≤ 12 ∧
  (2000 < cnt T len p0 → ∀ H' d, Same H H' → H' d = some (.xd [("most", .int 2000)]) → E (.ref CM) (some d) H') ∧
  (cnt T len p0 ≤ 2000 → AllOk T bf p0 c len → ∀ H' q m, Same H H' → H' q = some (.tup (mV m)) → minM (pairs (lv T bf p0 c len)) = some m → Q (.ref q) H') ∧
  (cnt T len p0 ≤ 2000 → ∀ r, BadFirst T bf p0 c len r → ∀ H' d, Same H H' → H' d = some (.xd [("row", .str (tx r))]) → E (.ref CB) (some d) H')
theorem ok_worst {CB CM f : Addr} {T : Tk} {p0 : Nat} {bf : Bf} {Dat : Hp → Prop} (F : DefAt K mg "worst" sWorst) (B : Bt mg) (C : Kn mg) (BB : Bet P w K mg base f T p0 bf Dat)
    (D1 : Def P w K mg base CX0 4 "check_place" ["track", "thing"] (spCheckPlace K)) (D2 : Def P w K mg base CX0 3 "check_coins" ["thing"] spCheckCoins) (D3 : Def P w K mg base CX0 3 "check_number" ["thing", "least", "most"] spCheckNumber)
    (D4 : Def P w K mg base (L2.CX P w) 3 "check_many" ["number", "most"] (spCheckMany CM)) (D5 : Def P w K mg base CX0 2 "many_of" ["track", "place", "length"] (spManyOf K))
    (D6 : Def P w K mg base (L2.CX P w) 7 "stake_of" ["track", "place", "coins", "bettor", "text"] (spStakeOf K CB f T p0 bf Dat)) (D7 : Def P w K mg base CX0 2 "behind" ["track", "place", "coins", "stake"] (spBehind K)) :
    Def P w K mg base (L2.CX P w) 8 "worst" ["track", "place", "coins", "bettor", "length"] (spWorst K CB CM f T p0 bf Dat) := by
  obtain ⟨t1, hMW⟩ := C.worst
  obtain ⟨t2, hMR⟩ := C.rows
  refine Def.ofX F scWorst (fun _ _ _ _ _ _ us hl => match us, hl with | [_, _, _, _, _], _ => rfl) (fun vs H Q E h => ?_) (fun f' cdv A outer s H vs Q E hr h => ?_)
  · obtain ⟨x, c, len, N, rfl, _⟩ := h
    rfl
  · obtain ⟨x, c, len, N, rfl, hT, W, hp, hD, hc, h12, hM, hQ, hE⟩ := h
    have hr4 : Room 4 _ := hr.mono (by decide)
    have hr3 : Room 3 _ := hr.mono (by decide)
    have hr2 : Room 2 _ := hr.mono (by decide)
    refine ⟨_, pss_cons (ps_expr (pe_d D1 hr4 (by rfl) (pa_cons (pv 0) (pa_cons (pv 1) pa_nil))))
      (pss_cons (ps_expr (pe_d D2 hr3 (by rfl) (pa_cons (pv 2) pa_nil)))
      (pss_cons (ps_expr (pe_d D3 hr3 (by rfl) (pa_cons (pv 4) (pa_cons pe_int (pa_cons (pe_glob (v := .int 12) (by rfl) hMW ⟨_, rfl⟩) pa_nil)))))
      (pss_cons (ps_expr (pe_dX (E := E) D4 (takes_of rfl rfl rfl rfl) (fun _ _ _ _ h => h) hr3 (by rfl) (pa_cons (pe_d D5 hr2 (by rfl) (pa_cons (pv 0) (pa_cons (pv 1) (pa_cons (pv 4) pa_nil)))) (pa_cons (pe_glob (v := .int 2000) (by rfl) hMR ⟨_, rfl⟩) pa_nil))))
      (pss_cons (ps_set (i := 5) scWorst.nd rfl (Or.inl rfl) (pe_lst (pa_cons (pe_tup (pa_cons pe_str (pa_cons (pv 2) (pa_cons (pv 1) pa_nil)))) pa_nil)))
      (pss_cons (ps_for (passes_of rfl) rfl (pi_range1 rfl B.range (pa_cons (pv 4) pa_nil)) (pg_name (i := 6) scWorst.nd rfl (Or.inl rfl))
        (pss_cons (ps_set (i := 7) scWorst.nd rfl (Or.inl rfl) (pe_lst pa_nil))
        (pss_cons (ps_for (passes_of rfl) rfl (pi_list (pv 5)) (pg_tup rfl (pgs_cons (pg_name (i := 8) scWorst.nd rfl (Or.inr rfl)) (pgs_cons (pg_name (i := 9) scWorst.nd rfl (Or.inl rfl)) (pgs_cons (pg_name (i := 10) scWorst.nd rfl (Or.inl rfl)) pgs_nil))))
          (pss_cons (ps_set (i := 11) scWorst.nd rfl (Or.inl rfl) (pe_dX (E := E) D6 (takes_of rfl rfl rfl rfl) (fun _ _ _ _ h => h) hr (by rfl) (pa_cons (pv 0) (pa_cons (pv 10) (pa_cons (pv 9) (pa_cons (pv 3) (pa_cons (pv 8) pa_nil)))))))
          (pss_one (ps_expr (pe_bm PySem.F.plainAttrs_list PySem.F.slot_list_extend PySem.F.type_list_extend mt_extend (pv 7) (pa_cons
            (pe_lc (own := [("letter", 12), ("more", 13), ("goal", 14)]) (g := gTup K 3 (gCons (gName 12) (gCons (gName 13) (gCons (gName 14) gNil)))) (tt := tYes) rfl scWorst.nd (pi_list (pe_d D7 hr2 (by rfl) (pa_cons (pv 0) (pa_cons (pv 10) (pa_cons (pv 9) (pa_cons (pv 11) pa_nil))))))
              (blkOk_by (N := nWorst) (sc := defScope sWorst) (by decide +kernel))
              (fun _ _ _ _ _ => pg_tup rfl (pgs_cons (pg_name (i := 12) scWorst.nd rfl (Or.inl rfl)) (pgs_cons (pg_name (i := 13) scWorst.nd rfl (Or.inl rfl)) (pgs_cons (pg_name (i := 14) scWorst.nd rfl (Or.inl rfl)) pgs_nil))))
              (fun _ _ _ _ _ => pts_nil) (fun _ _ _ _ _ => pe_tup (pa_cons (pe_op op_add_str (pv 8) (pv 12)) (pa_cons (pv 13) (pa_cons (pv 14) pa_nil))))) pa_nil))))))
        (pss_one (ps_set (i := 5) scWorst.nd rfl (Or.inl rfl) (pv 7))))))
      (pss_one (ps_ret (pe_callB (cr_minD rfl (hu66 hr)) (by rfl) B.min (by decide +kernel) (pa_cons
        (pe_lc (own := [("text", 8), ("here", 9), ("at", 10)]) (g := gTup K 3 (gCons (gName 8) (gCons (gName 9) (gCons (gName 10) gNil)))) (tt := tYes) rfl scWorst.nd (pi_list (pv 5)) (blkOk_by (N := nWorst) (sc := defScope sWorst) (by decide +kernel))
          (fun _ _ _ _ _ => pg_tup rfl (pgs_cons (pg_name (i := 8) scWorst.nd rfl (Or.inl rfl)) (pgs_cons (pg_name (i := 9) scWorst.nd rfl (Or.inl rfl)) (pgs_cons (pg_name (i := 10) scWorst.nd rfl (Or.inl rfl)) pgs_nil))))
          (fun _ _ _ _ _ => pts_nil) (fun _ _ _ _ _ => pe_tup (pa_cons (pv 9) (pa_cons (pv 8) pa_nil)))) pa_nil))))))))), ?_⟩
    refine ⟨_, rfl, _, rfl, x, p0, N, T, rfl, hT, hp, ?_⟩
    refine ⟨_, rfl, c, rfl, hc, ?_⟩
    refine ⟨_, rfl, (len : Int), 0, 12, rfl, by omega, by omega, ?_⟩
    refine ⟨_, rfl, _, rfl, _, rfl, x, p0, len, N, T, rfl, hT, W, hp, h12, fun H1 k1 => ?_⟩
    refine ⟨(cnt T len p0 : Int), 2000, rfl, fun hle => ?_, fun hgt d hd => hM (by omega) _ d (Same.new2 k1 hd) upd_same⟩
    have hle : cnt T len p0 ≤ 2000 := by omega
    refine ⟨_, rfl, _, rfl, (by show 3 ≤ sizeLine; decide), fun t ht => ⟨by show 1 ≤ sizeLine; decide, fun G hG => ?_⟩⟩
    have ntG : t ≠ G := ne_of_none upd_same hG
    have k2 : Same H (upd (upd H1 t (.tup [.str "", .int c, .int p0])) G (.lst [.ref t])) := (k1.trans (Same.new ht)).trans (Same.new hG)
    refine ⟨_, rfl, (len : Int), rfl, by omega, by omega, for_range (lo := 0) (n := (len : Int).toNat) (fun i σ H' => ∃ (G : Addr) (vs : List V) (v6 v7 v8 v9 v10 v11 : Option V), σ = [some (.ref x), some (.int p0), some (.int c), some (.ref f), some (.int len), some (.ref G), v6, v7, v8, v9, v10, v11, none, none, none] ∧
        Same H H' ∧ H' G = some (.lst vs) ∧ TupsP H' wV vs (lv T bf p0 c i) ∧ AllOk T bf p0 c i)
      ⟨G, [.ref t], none, none, none, none, none, none, rfl, k2, upd_same, .cons ⟨t, rfl, by rw [upd_ne ntG, upd_same, str_nil]; rfl⟩ .nil, fun i hi => absurd hi (Nat.not_lt_zero _)⟩ ?_ ?_⟩
    · rintro i σ H2 hi ⟨G, vs, v6, v7, v8, v9, v10, v11, rfl, k2, hG, hv, hall⟩
      have hi : i < len := by omega
      refine ⟨Nat.zero_le _, fun L hL => ?_⟩
      refine ⟨_, rfl, G, rfl, ⟨_, SqL.of (Same.new hL _ _ hG)⟩, for_list (K := K) (a := G) (xs := vs) (fun j σ H' => ∃ (ms : List V) (v8 v9 v10 v11 : Option V), σ = [some (.ref x), some (.int p0), some (.int c), some (.ref f), some (.int len), some (.ref G), some (.int (0 + (i : Int))), some (.ref L), v8, v9, v10, v11, none, none, none] ∧
          Same H2 H' ∧ H' L = some (.lst ms) ∧ TupsP H' wV ms (((lv T bf p0 c i).take j).flatMap (expand T bf)) ∧ ∀ (j' : Nat) (y : It3), j' < j → (lv T bf p0 c i)[j']? = some y → bf y.1 y.2.1 ≠ none)
        ⟨[], _, _, _, _, rfl, Same.new hL, upd_same, .nil, fun j' y h => absurd h (Nat.not_lt_zero _)⟩ ?_ ?_ ?_⟩
      · rintro j σ H3 hj ⟨ms, _, _, _, _, _, k3, _⟩
        exact SqL.of (k3 _ _ hG)
      · rintro j y σ H3 hy ⟨ms, w8, w9, w10, w11, rfl, k3, hL3, hms, hno⟩
        obtain ⟨it, q, hit, rfl, hq⟩ := hv.get' hy
        have ok := lv_ok W BB.ok hc i it (List.mem_of_getElem? hit)
        have hg : it.2.2 < T.n := led_goal W hp ok.led
        have hq3 := k3 _ _ hq
        refine ⟨q, wV it, rfl, SqT.of hq3, rfl, _, _, rfl, _, _, rfl, _, _, rfl, rfl, ?_⟩
        refine ⟨_, rfl, _, rfl, _, rfl, _, rfl, _, rfl, x, it.2.2, it.2.1, it.1, N, rfl, (hT.same k2).same k3, W, hg, BB.keep _ _ hD (k2.trans k3), ok.led, ok.nn, by have := ok.len; omega, fun xs e H4 s k4 hs => ?_, fun e H4 d k4 hd => ?_⟩
        · have so := BB.ok _ _ _ _ ok.led ok.nn e
          refine ⟨_, rfl, .inl ⟨rfl, _, SqL.of (k4 _ _ hL3)⟩, ?_⟩
          refine ⟨_, rfl, _, rfl, _, rfl, _, rfl, x, s, it.2.2, it.2.1, N, T, xs, rfl, ((hT.same k2).same k3).same k4, W, hg, hs, so.len, fun H5 b bs k5 hb0 hb hbs => ?_⟩
          refine ⟨b, rfl, ⟨_, SqL.of hb⟩, fun D hDn => ?_⟩
          have hL5 : H5 L = some (.lst ms) := k5 _ _ (k4 _ _ hL3)
          refine lc_list (K := K) (a := b) (xs := bs) (fun m H' => Same H5 H' ∧ ∃ zs, H' D = some (.lst zs) ∧ TupsP H' wV zs (((behindM T it.2.2 it.2.1 xs).take m).map fun q => (it.1 ++ [q.1], q.2.1, q.2.2)))
            ⟨Same.new hDn, [], upd_same, .nil⟩ (fun m H' _ ⟨e, _⟩ => SqL.of (e _ _ hb)) (fun m y H6 hy ⟨k6, zs, hd, hzs⟩ => ?_) (fun H6 ⟨k6, zs, hd, hzs⟩ => ?_)
          · obtain ⟨bq, u, hbq, rfl, hu⟩ := hbs.get' hy
            refine ⟨u, bV bq, rfl, SqT.of (k6 _ _ hu), rfl, _, _, rfl, _, _, rfl, _, _, rfl, rfl, rfl, ?_⟩
            refine ⟨_, rfl, _, rfl, tx it.1, tx [bq.1], rfl, rfl, by rw [tx_len, tx_len, ok.len, sizeLine_eq]; simp; omega, _, rfl, _, rfl, (by show 3 ≤ sizeLine; decide), fun w hw => ?_⟩
            have nwD : D ≠ w := ne_of_none hd hw
            refine ⟨zs, by rw [upd_ne nwD]; exact hd, ?_, Same.put (k6.trans (Same.new hw)) hDn, _, upd_same, ?_⟩
            · rw [hzs.len, List.length_map, sizeLine_eq]
              have h1 := List.length_take_le m (behindM T it.2.2 it.2.1 xs)
              have h2 := (List.getElem?_eq_some_iff.mp hbq).1
              have h3 : (behindM T it.2.2 it.2.1 xs).length ≤ 60 := by
                unfold behindM
                rw [List.length_map, List.length_zip]
                have := steps_len W it.2.2
                omega
              omega
            · rw [take_snoc hbq, List.map_append]
              refine pd_app (hzs.mono fun b ys e => ?_) (.cons ⟨w, rfl, by rw [upd_ne nwD.symm, upd_same, tx_app]; rfl⟩ .nil)
              rw [upd_ne (ne_of e hd (fun z => by cases z)), upd_ne (ne_of_none e hw)]
              exact e
          · rw [hbs.len, List.take_length] at hzs
            have ex : expand T bf it = (behindM T it.2.2 it.2.1 xs).map fun q => (it.1 ++ [q.1], q.2.1, q.2.2) := by
              unfold expand
              rw [e]
            rw [← ex] at hzs
            have fl := flat_take_succ (expand T bf) hit
            have hL6 : H6 L = some (.lst ms) := k6 _ _ hL5
            have k36 : Same H3 H6 := (k4.trans k5).trans k6
            refine ⟨L, D, ms, zs, rfl, rfl, hL6, hd, ?_, ms ++ zs, _, _, _, _, rfl, Same.put (k3.trans k36) hL, upd_same, ?_, fun j' y h1 h2 => ?_⟩
            · have h1 : ms.length + zs.length = (((lv T bf p0 c i).take (j + 1)).flatMap (expand T bf)).length := by rw [fl, List.length_append, hms.len, hzs.len]
              have h2 := flat_take_le (expand T bf) (lv T bf p0 c i) (j + 1)
              have h3 : ((lv T bf p0 c i).flatMap (expand T bf)).length ≤ cnt T (i + 1) p0 := lv_len T bf p0 c (i + 1)
              have h4 := cnt_mono W hp (j := i + 1) (k := len) hi
              rw [h1, sizeLine_eq]
              omega
            · rw [fl]
              have kk : ∀ b ys, H6 b = some (.tup ys) → upd H6 L (.lst (ms ++ zs)) b = some (.tup ys) := fun b ys e => by
                rw [upd_ne (ne_of e hL6 (fun z => by cases z))]
                exact e
              exact pd_app ((hms.same k36).mono kk) (hzs.mono kk)
            · by_cases hj : j' < j
              · exact hno j' y hj h2
              · have : j' = j := by omega
                subst this
                rw [hit] at h2
                cases h2
                rw [e]
                exact fun z => nomatch z
        · exact hE hle it.1 ⟨i, j, it, hi, hit, rfl, e, hno, hall⟩ H4 d ((k2.trans k3).trans k4) hd
      · rintro σ H3 ⟨ms, w8, w9, w10, w11, rfl, k3, hL3, hms, hno⟩
        rw [hv.len, List.take_length] at hms
        refine ⟨_, rfl, L, ms, _, _, _, _, _, _, rfl, k2.trans k3, hL3, hms, fun i' hi' y hy => ?_⟩
        by_cases h : i' < i
        · exact hall i' h y hy
        · have : i' = i := by omega
          subst this
          obtain ⟨j', hj', e⟩ := List.getElem_of_mem hy
          exact hno j' y (by rw [hv.len]; exact hj') (by rw [← e]; exact List.getElem?_eq_getElem hj')
    · rintro σ H2 ⟨G, vs, v6, v7, v8, v9, v10, v11, rfl, k2, hG, hv, hall⟩
      rw [Int.toNat_natCast] at hv hall
      refine ⟨_, rfl, G, rfl, ⟨_, SqL.of hG⟩, fun D hDn => ?_⟩
      refine lc_list (K := K) (a := G) (xs := vs) (fun j H' => Same H2 H' ∧ ∃ zs, H' D = some (.lst zs) ∧ TupsP H' mV zs (pairs ((lv T bf p0 c len).take j)))
        ⟨Same.new hDn, [], upd_same, .nil⟩ (fun m H' _ ⟨e, _⟩ => SqL.of (e _ _ hG)) (fun m y H6 hy ⟨k6, zs, hd, hzs⟩ => ?_) (fun H6 ⟨k6, zs, hd, hzs⟩ => ?_)
      · obtain ⟨it, u, hit, rfl, hu⟩ := hv.get' hy
        refine ⟨u, wV it, rfl, SqT.of (k6 _ _ hu), rfl, _, _, rfl, _, _, rfl, _, _, rfl, rfl, rfl, ?_⟩
        refine ⟨_, rfl, _, rfl, (by show 2 ≤ sizeLine; decide), fun w hw => ?_⟩
        have nwD : D ≠ w := ne_of_none hd hw
        refine ⟨zs, by rw [upd_ne nwD]; exact hd, ?_, Same.put (k6.trans (Same.new hw)) hDn, _, upd_same, ?_⟩
        · have h0 : zs.length = _ := hzs.len
          unfold pairs at h0
          rw [List.length_map] at h0
          rw [h0, sizeLine_eq]
          have h1 := List.length_take_le' m (lv T bf p0 c len)
          have h2 := lv_len T bf p0 c len
          omega
        · unfold pairs at hzs ⊢
          rw [take_snoc hit, List.map_append]
          refine pd_app (TupsP.mono hzs fun b ys e => ?_) (.cons ⟨w, rfl, by rw [upd_ne nwD.symm, upd_same]; rfl⟩ .nil)
          rw [upd_ne (ne_of e hd (fun z => by cases z)), upd_ne (ne_of_none e hw)]
          exact e
      · rw [hv.len, List.take_length] at hzs
        have hne := lv_ne W BB.ok hc hp len hall
        cases hl : pairs (lv T bf p0 c len) with
        | nil => exact absurd (List.map_eq_nil_iff.mp hl) hne
        | cons b0 bs =>
          rw [hl] at hzs
          refine ⟨Int × List Nat, fun v b => ∃ p, v = V.ref p ∧ H6 p = some (.tup (mV b)), mD, D, zs, b0, bs, rfl, SqL.of hd, hzs, fun x b h => mD_dp h, fun b c _ _ => mD_alike b c, fun b _ => ⟨(fun z => nomatch z), mD_depth b⟩, fun y hy => ?_⟩
          obtain ⟨q, rfl, hq⟩ := hy
          refine hQ hle hall H6 q _ (k2.trans k6) hq ?_
          rw [hl]
          show some _ = some _
          rw [show (fun x y => decide (mLt x y)) = fun b c => PySem.W.dataLt (mD b) (mD c) from funext fun x => funext fun y => (mD_lt x y).symm]
end
end K81
set_option maxRecDepth 100000
set_option maxHeartbeats 8000000
/-! The pool of the law. -/
namespace K81
open PySem PySem.Spec PyProof.Rows L2
/-- the pool at p, its cells at l -/
structure PoolAt (H : Hp) (p l : Addr) : Prop where
  ex : ∃ (a b : Int) (ns : List Int), H p = some (.lst [.int a, .int b, .ref l]) ∧ H l = some (.lst (ns.map V.int))
theorem PoolAt.ne {H : Hp} {p l : Addr} (h : PoolAt H p l) : p ≠ l := fun z => by
  obtain ⟨a, b, ns, h1, h2⟩ := h.ex
  rw [z, h2] at h1
  cases ns with
  | nil => cases h1
  | cons x ns =>
    cases ns with
    | nil => simp at h1
    | cons y ns =>
      cases ns with
      | nil => simp at h1
      | cons z ns => simp at h1
theorem PoolAt.same {H H' : Hp} {p l : Addr} (h : PoolAt H p l) (k : Same H H') : PoolAt H' p l := by
  obtain ⟨a, b, ns, h1, h2⟩ := h.ex
  exact ⟨a, b, ns, k _ _ h1, k _ _ h2⟩
/-- where the pool stands -/
def PD (p l : Addr) : Addr → Prop := fun b => b = p ∨ b = l
theorem cut_map (ns : List Int) (lo hi : Option Int) : ∃ ms : List Int, cutV (ns.map V.int) lo hi = ms.map V.int ∧ ms.length ≤ ns.length := by
  refine ⟨(ns.drop (HT.sIx (ns.map V.int).length 0 lo)).take (HT.sIx (ns.map V.int).length (ns.map V.int).length hi - HT.sIx (ns.map V.int).length 0 lo), ?_, ?_⟩
  · unfold cutV
    rw [List.map_take, List.map_drop]
  · rw [List.length_take, List.length_drop]
    omega
theorem ixn {n j : Nat} (hj : j < n) : ixN n (j : Int) = some j := by
  unfold ixN
  rw [if_pos (by omega), if_pos (by omega)]
  simp
section
variable {P : Program} {w : World} {K : PySem.W.Frag} {mg : Str → Option Value} {base : Heap}
abbrev sDraw : Stmt := top 45
abbrev nDraw : List Str := ["_law_pool_here", "_law_many_here", "_law_cells", "_law_digit", "_law_mixed"]
theorem scDraw : FnScope nDraw ["_law_pool_here", "_law_many_here"] (defScope sDraw) := ⟨rfl, rfl, rfl, by decide +kernel, rfl, by decide +kernel, by decide +kernel⟩
def spDraw : Sp := fun vs H Q _ => ∃ (p l : Addr) (m : Int), vs = [.ref p, .int m] ∧ PoolAt H p l ∧ 1 ≤ m ∧ m ≤ 100000 ∧ ∀ (d : Int) H', 0 ≤ d → d < m → Kp (PD p l) H H' → PoolAt H' p l → Q (.int d) H'
theorem ok_draw (F : DefAt K mg "_law_draw" sDraw) (B : Bt mg) : Def P w K mg base CX0 1 "_law_draw" ["_law_pool_here", "_law_many_here"] spDraw := by
  refine Def.of F scDraw (fun _ _ _ _ _ _ us hl => match us, hl with | [_, _], _ => rfl) (fun vs H Q E h => ?_) (fun f cdv A outer s H vs Q E hr h => ?_)
  · obtain ⟨p, l, m, rfl, _⟩ := h
    rfl
  · obtain ⟨p, l, m, rfl, hP, h1, h2, hQ⟩ := h
    refine ⟨_, pss_cons (ps_asg (pe_op op_add (pe_ix ix_list (pv 0) pe_int (fun _ _ => rfl)) pe_int) (pg_sub (pv 0) pe_int set_list))
      (pss_cons (ps_set (i := 2) scDraw.nd rfl (Or.inl rfl) (pe_ix ix_list (pv 0) pe_int (fun _ _ => rfl)))
      (pss_cons (ps_if (pt_cmpR op_gt (pe_callB call_len_seq (by rfl) B.len PySem.boot_len (pa_cons (pv 2) pa_nil)) pe_int (nomark _))
        (pss_cons (ps_set (i := 3) scDraw.nd rfl (Or.inl rfl) (pe_op op_mod (pe_callTy call_int1 (by rfl) B.int (by decide +kernel) (pa_cons (pe_ix ix_list (pv 2) pe_int (fun _ _ => rfl)) pa_nil)) (pv 1)))
        (pss_cons (ps_asg (pe_op op_fdiv (pe_callTy call_int1 (by rfl) B.int (by decide +kernel) (pa_cons (pe_ix ix_list (pv 2) pe_int (fun _ _ => rfl)) pa_nil)) (pv 1)) (pg_sub (pv 2) pe_int set_list))
        (pss_cons (ps_if (pt_cmpR op_eq (pe_ix ix_list (pv 2) pe_int (fun _ _ => rfl)) pe_int (nomark _)) (pss_one (ps_expr (pe_bm PySem.F.plainAttrs_list PySem.F.slot_list_pop PySem.F.type_list_pop mt_popAt (pv 2) (pa_cons pe_int pa_nil)))) pss_nil)
        (pss_one (ps_ret (pv 3)))))) pss_nil)
      (pss_cons (ps_set (i := 4) scDraw.nd rfl (Or.inl rfl) (pe_op op_mod (pe_callTy call_int1 (by rfl) B.int (by decide +kernel) (pa_cons (pe_op op_mul (pe_op op_add (pe_ix ix_list (pv 0) pe_int (fun _ _ => rfl)) (pe_op op_mul pe_int (pe_ix ix_list (pv 0) pe_int (fun _ _ => rfl)))) pe_int) pa_nil)) pe_int))
      (pss_cons (ps_set (i := 4) scDraw.nd rfl (Or.inl rfl) (pe_op op_mod (pe_callTy call_int1 (by rfl) B.int (by decide +kernel) (pa_cons (pe_op op_mul (pv 4) (pe_op op_add (pe_op op_fdiv (pv 4) pe_int) pe_int)) pa_nil)) pe_int))
      (pss_cons (ps_set (i := 4) scDraw.nd rfl (Or.inl rfl) (pe_op op_mod (pe_callTy call_int1 (by rfl) B.int (by decide +kernel) (pa_cons (pe_op op_mul (pv 4) (pe_op op_add (pe_op op_fdiv (pv 4) pe_int) pe_int)) pa_nil)) pe_int))
      (pss_one (ps_ret (pe_op op_mod (pe_callTy call_int1 (by rfl) B.int (by decide +kernel) (pa_cons (pe_op op_fdiv (pv 4) pe_int) pa_nil)) (pv 1))))))))), ?_⟩
    obtain ⟨a, b, ns, hp, hl⟩ := hP.ex
    have npl := hP.ne
    refine ⟨_, rfl, p, _, 1, .int b, rfl, rfl, SqL.of hp, at_of (j := 1) rfl rfl, _, _, rfl, rfl, _, rfl, p, _, 1, 1, rfl, rfl, hp, ixn (j := 1) (by show 1 < 3; decide), ?_⟩
    have hp1 : upd H p (.lst [.int a, .int (b + 1), .ref l]) p = some (.lst [.int a, .int (b + 1), .ref l]) := upd_same
    have hl1 : upd H p (.lst [.int a, .int (b + 1), .ref l]) l = some (.lst (ns.map V.int)) := by rw [upd_ne npl.symm]; exact hl
    have k1 : Kp (PD p l) H (upd H p (.lst [.int a, .int (b + 1), .ref l])) := fun c o e n => by rw [upd_ne (fun z => n (.inl z))]; exact e
    have pool : ∀ ms : List Int, PoolAt (upd (upd H p (.lst [.int a, .int (b + 1), .ref l])) l (.lst (ms.map V.int))) p l := fun ms => ⟨a, b + 1, ms, by rw [upd_ne npl]; exact hp1, upd_same⟩
    have kp2 : ∀ ms : List Int, Kp (PD p l) H (upd (upd H p (.lst [.int a, .int (b + 1), .ref l])) l (.lst (ms.map V.int))) := fun ms c o e n => by rw [upd_ne (fun z => n (.inr z))]; exact k1 c o e n
    refine ⟨_, rfl, p, _, 2, .ref l, rfl, rfl, SqL.of hp1, at_of (j := 2) rfl rfl, ?_⟩
    refine ⟨_, rfl, l, _, rfl, .inl (SqL.of hl1), _, _, rfl, rfl, _, rfl, ?_⟩
    cases ns with
    | nil =>
      refine iteF ?_
      refine ⟨_, rfl, p, _, 0, .int a, rfl, rfl, SqL.of hp1, at_of (j := 0) rfl rfl, _, rfl, p, _, 1, .int (b + 1), rfl, rfl, SqL.of hp1, at_of (j := 1) rfl rfl, _, _, rfl, rfl, .inl ⟨by omega, by omega⟩, _, _, rfl, rfl, _, _, rfl, rfl, .inr ⟨by omega, by omega⟩, .inl ⟨_, rfl, _, _, rfl, rfl, by omega, ?_⟩⟩
      generalize (a + 7919 * (b + 1)) * 48271 = u
      have hu1 := Int.emod_nonneg u (b := 2147483647) (by omega)
      have hu2 := Int.emod_lt_of_pos u (b := 2147483647) (by omega)
      refine ⟨_, rfl, _, rfl, _, _, rfl, rfl, ⟨by omega, by omega⟩, _, _, rfl, rfl, _, _, rfl, rfl, .inl ⟨by omega, by omega⟩, .inl ⟨_, rfl, _, _, rfl, rfl, by omega, ?_⟩⟩
      generalize (u % 2147483647) * (u % 2147483647 / 1009 + 69621) = v
      have hv1 := Int.emod_nonneg v (b := 2147483647) (by omega)
      have hv2 := Int.emod_lt_of_pos v (b := 2147483647) (by omega)
      refine ⟨_, rfl, _, rfl, _, _, rfl, rfl, ⟨by omega, by omega⟩, _, _, rfl, rfl, _, _, rfl, rfl, .inl ⟨by omega, by omega⟩, .inl ⟨_, rfl, _, _, rfl, rfl, by omega, ?_⟩⟩
      refine ⟨_, rfl, _, _, rfl, rfl, ⟨by omega, by omega⟩, .inl ⟨_, rfl, _, rfl, _, _, rfl, rfl, by omega, ?_⟩⟩
      exact hQ _ _ (Int.emod_nonneg _ (by omega)) (Int.emod_lt_of_pos _ (by omega)) k1 ⟨a, b + 1, [], hp1, hl1⟩
    | cons n ns =>
      rw [show decide ((0 : Int) < ((((n :: ns).map V.int).length : Nat) : Int)) = true from decide_eq_true (by simp)]
      refine iteT ?_
      refine ⟨_, rfl, l, _, 0, .int n, rfl, rfl, SqL.of hl1, at_of (j := 0) rfl rfl, .inl ⟨_, rfl, _, rfl, _, _, rfl, rfl, by omega, ?_⟩⟩
      refine ⟨_, rfl, l, _, 0, .int n, rfl, rfl, SqL.of hl1, at_of (j := 0) rfl rfl, .inl ⟨_, rfl, _, rfl, _, _, rfl, rfl, ⟨by omega, by omega⟩, _, rfl, l, _, 0, 0, rfl, rfl, hl1, ixn (j := 0) (by simp), ?_⟩⟩
      have hl2 : upd (upd H p (.lst [.int a, .int (b + 1), .ref l])) l (.lst ((V.int (n / m)) :: ns.map V.int)) l = some (.lst ((V.int (n / m)) :: ns.map V.int)) := upd_same
      have fin := hQ (n % m) _ (Int.emod_nonneg _ (by omega)) (Int.emod_lt_of_pos _ (by omega)) (kp2 (n / m :: ns)) (pool _)
      refine ⟨_, rfl, l, _, 0, .int (n / m), rfl, rfl, SqL.of hl2, at_of (j := 0) rfl rfl, rfl, _, rfl, ?_⟩
      by_cases hz : n / m = 0
      · rw [show decide (V.int (n / m) = V.int 0) = true from decide_eq_true (by rw [hz])]
        refine iteT ⟨_, rfl, .inl ⟨rfl, _, SqL.of hl2⟩, l, _, 0, 0, .int (n / m), rfl, rfl, hl2, by omega, by omega, (ixN_seq (ixn (j := 0) (by simp))).1, rfl, ?_⟩
        refine ⟨_, rfl, hQ _ _ (Int.emod_nonneg _ (by omega)) (Int.emod_lt_of_pos _ (by omega)) ?_ ?_⟩
        · rw [upd_upd]
          exact kp2 ns
        · rw [upd_upd]
          exact pool ns
      · rw [show decide (V.int (n / m) = V.int 0) = false from decide_eq_false (fun z => hz (V.int.inj z))]
        exact iteF ⟨_, rfl, fin⟩
end
end K81
set_option maxRecDepth 100000
set_option maxHeartbeats 8000000
/-! The pool is made. -/
namespace K81
open PySem PySem.Spec PyProof.Rows L2
theorem SqL_same {K : PySem.W.Frag} {H H' : Hp} {a : Addr} {xs : List V} (h : SqL K H a xs) (k : Same H H') : SqL K H' a xs :=
  h.elim (fun h => .inl (h.elim (fun h => .inl (k _ _ h)) fun ⟨o, h⟩ => .inr ⟨o, k _ _ h⟩)) fun h => .inr h
theorem ifB {b : Bool} {A B : Prop} (h1 : b = true → A) (h2 : b = false → B) : if b = true then A else B := by
  cases b with
  | true => exact h1 rfl
  | false => exact h2 rfl
theorem fresh_of {H H' : Hp} {a : Addr} (k : Same H H') (h : H' a = none) : H a = none := by
  cases e : H a with
  | none => rfl
  | some o => rw [k _ _ e] at h; cases h
section
variable {P : Program} {w : World} {K : PySem.W.Frag} {mg : Str → Option Value} {base : Heap}
abbrev sPool : Stmt := top 44
abbrev nPool : List Str := ["_law_script", "_law_seed", "_law_cell"]
theorem scPool : FnScope nPool ["_law_script"] (defScope sPool) := ⟨rfl, rfl, rfl, by decide +kernel, rfl, by decide +kernel, by decide +kernel⟩
def spPool (K : PySem.W.Frag) : Sp := fun vs H Q _ => ∃ (t : Addr) (ns : List Int), vs = [.ref t] ∧ SqL K H t (ns.map V.int) ∧ ns.length ≤ 100000 ∧ ∀ (p l : Addr) H', Same H H' → H p = none → H l = none → PoolAt H' p l → Q (.ref p) H'
theorem ok_pool (F : DefAt K mg "_law_pool" sPool) (B : Bt mg) : Def P w K mg base CX0 1 "_law_pool" ["_law_script"] (spPool K) := by
  refine Def.of F scPool (fun _ _ _ _ _ _ us hl => match us, hl with | [_], _ => rfl) (fun vs H Q E h => ?_) (fun f cdv A outer s H vs Q E hr h => ?_)
  · obtain ⟨t, ns, rfl, _⟩ := h
    rfl
  · obtain ⟨t, ns, rfl, ht, hz, hQ⟩ := h
    refine ⟨_, pss_cons (ps_set (i := 1) scPool.nd rfl (Or.inl rfl) (pe_op op_add (pe_op op_add (pe_op op_mod (pe_callTy call_int1 (by rfl) B.int (by decide +kernel) (pa_cons (pe_callB (cr_sum rfl) (by rfl) B.sum (by decide +kernel) (pa_cons (pe_slice sl_list (pv 0) po_none (po_some pe_int)) pa_nil)) pa_nil)) pe_int)
          (pe_callB call_len_seq (by rfl) B.len PySem.boot_len (pa_cons (pv 0) pa_nil))) pe_int))
      (pss_cons (ps_for PassesOwn.never rfl (pi_list (pe_slice sl_list (pv 0) po_none (po_some pe_int))) (pg_name (i := 2) scPool.nd rfl (Or.inl rfl))
        (pss_one (ps_set (i := 1) scPool.nd rfl (Or.inl rfl) (pe_op op_mod (pe_callTy call_int1 (by rfl) B.int (by decide +kernel) (pa_cons (pe_op op_add (pe_op op_add (pe_op op_mul (pv 1) pe_int)
          (pe_op op_mod (pe_callTy call_int1 (by rfl) B.int (by decide +kernel) (pa_cons (pv 2) pa_nil)) pe_int)) pe_int) pa_nil)) pe_int))))
      (pss_one (ps_ret (pe_lst (pa_cons (pv 1) (pa_cons pe_int (pa_cons (pe_lc (own := [("_law_cell", 2)]) (g := gName 2) (tt := _) rfl scPool.nd (pi_list (pe_slice sl_list (pv 0) po_none (po_some pe_int))) (blkOk_by (N := nPool) (sc := defScope sPool) (by decide +kernel))
        (fun _ _ _ _ _ => pg_name (i := 2) scPool.nd rfl (Or.inl rfl)) (fun _ _ _ _ _ => pts_one (pt_cmpR op_ge (pe_callB call_abs (by rfl) B.abs (by decide +kernel) (pa_cons (pv 2) pa_nil)) (pe_op op_pow pe_int pe_int) (nomark _))) (fun _ _ _ _ _ => pe_callB call_abs (by rfl) B.abs (by decide +kernel) (pa_cons (pv 2) pa_nil))) pa_nil))))))), ?_⟩
    obtain ⟨m1, e1, z1⟩ := cut_map ns none (some 1)
    obtain ⟨m2, e2, z2⟩ := cut_map ns none (some 63)
    refine ⟨_, rfl, 1, rfl, t, _, rfl, ht, fun a ha => ?_⟩
    rw [e1]
    have k1 : Same H (upd H a (.lst (m1.map V.int))) := Same.new ha
    refine ⟨a, m1, rfl, SqL.of upd_same, .inl ⟨_, rfl, _, _, rfl, rfl, by omega, _, rfl, t, _, rfl, .inl (SqL_same ht k1), _, _, rfl, rfl, _, _, rfl, rfl, ?_⟩⟩
    refine ⟨_, rfl, 63, rfl, t, _, rfl, SqL_same ht k1, fun b hb => ?_⟩
    rw [e2]
    have k2 := k1.trans (Same.new (o := .lst (m2.map V.int)) hb)
    refine ⟨b, rfl, ⟨_, SqL.of upd_same⟩, for_list (K := K) (a := b) (xs := m2.map V.int) (fun j σ H' => ∃ (c : Int) (v : Option V), σ = [some (.ref t), some (.int c), v] ∧ Same H H' ∧ H' b = some (.lst (m2.map V.int)))
      ⟨_, none, rfl, k2, upd_same⟩ (fun j σ H' _ ⟨_, _, _, _, h⟩ => SqL.of h) ?_ ?_⟩
    · rintro j y σ H2 hy ⟨c, v, rfl, k, hb2⟩
      rw [List.getElem?_map] at hy
      cases hz : m2[j]? with
      | none => rw [hz] at hy; cases hy
      | some z =>
        rw [hz] at hy
        cases hy
        refine ⟨_, rfl, _, _, rfl, rfl, .inr ⟨by omega, by omega⟩, _, rfl, .inl ⟨_, rfl, _, _, rfl, rfl, by omega, _, _, rfl, rfl, _, _, rfl, rfl, .inl ⟨_, rfl, _, _, rfl, rfl, by omega, _, _, rfl, k, hb2⟩⟩⟩
    · rintro σ H2 ⟨c, v, rfl, k, hb2⟩
      refine ⟨_, rfl, _, rfl, 63, rfl, t, _, rfl, SqL_same ht k, fun d hd => ?_⟩
      rw [e2]
      have k3 := k.trans (Same.new (o := .lst (m2.map V.int)) hd)
      refine ⟨d, rfl, ⟨_, SqL.of upd_same⟩, fun D hD => ?_⟩
      have hl : m2.length ≤ sizeLine := by rw [sizeLine_eq]; omega
      refine lc_list (K := K) (a := d) (xs := m2.map V.int) (fun j H' => Same H H' ∧ H' d = some (.lst (m2.map V.int)) ∧ ∃ ms : List Int, H' D = some (.lst (ms.map V.int)) ∧ ms.length ≤ j)
        ⟨k3.trans (Same.new hD), Same.new hD _ _ upd_same, [], upd_same, Nat.le_refl _⟩ (fun j H' _ ⟨_, h, _⟩ => SqL.of h) (fun j y H3 hy ⟨k4, h1, ms, h2, h3⟩ => ?_) (fun H3 ⟨k4, h1, ms, h2, h3⟩ => ?_)
      · have nD : d ≠ D := fun z => by
          rw [← z, upd_same] at hD
          cases hD
        rw [List.getElem?_map] at hy
        cases hz : m2[j]? with
        | none => rw [hz] at hy; cases hy
        | some z =>
          rw [hz] at hy
          cases hy
          have hj : j < m2.length := (List.getElem?_eq_some_iff.mp hz).1
          refine ⟨rfl, _, rfl, z, rfl, 10, 18, rfl, rfl, ⟨by omega, by omega, by decide⟩, _, _, rfl, rfl, _, rfl, ?_⟩
          refine ifB (fun _ => ?_) (fun _ => ?_)
          · refine ⟨_, rfl, z, rfl, ms.map V.int, h2, by rw [List.length_map]; omega, Same.put k4 (fresh_of k3 hD), by rw [upd_ne nD]; exact h1, ms ++ [_], by rw [upd_same, List.map_append]; rfl, by rw [List.length_append, List.length_singleton]; omega⟩
          · exact ⟨k4, h1, ms, h2, by omega⟩
      · refine ⟨by show 3 ≤ sizeLine; decide, fun q hq => ?_⟩
        have nq : D ≠ q := ne_of_none h2 hq
        refine hQ q D _ (k4.trans (Same.new hq)) (fresh_of k4 hq) (fresh_of k3 hD) ⟨c, 0, ms, upd_same, by rw [upd_ne nq]; exact h2⟩
end
end K81
set_option maxRecDepth 100000
set_option maxHeartbeats 8000000
/-! The signs of a track. -/
namespace K81
open PySem PySem.Spec PyProof.Rows L2
/-- the k-th letter -/
def sgn (a b k : Nat) : Nat := (a + b * k) % 26
theorem sgn_inj {a b i j : Nat} (hb : b = 1 ∨ b = 3 ∨ b = 5 ∨ b = 7 ∨ b = 9) (hi : i < 4) (hj : j < 4) (h : sgn a b i = sgn a b j) : i = j := by
  unfold sgn at h
  rcases hb with rfl | rfl | rfl | rfl | rfl <;> omega
theorem pairwise_lt {l : List Nat} (h : l.Pairwise (· ≤ ·)) (n : l.Nodup) : l.Pairwise (· < ·) := by
  have n' : l.Pairwise (· ≠ ·) := n
  exact (h.and n').imp fun {a b} ⟨h1, h2⟩ => by omega
theorem ltCps_one (a b : Nat) : ltCps [a] [b] = decide (a < b) := by
  have e : ltCps [a] [b] = (decide (a < b) || (a == b && false)) := rfl
  rw [e, Bool.and_false, Bool.or_false]
theorem sorted_le : ∀ {ls : List Nat}, sortedS (ls.map fun c => tx [c]) = true → ls.Pairwise (· ≤ ·)
  | [], _ => .nil
  | [a], _ => by simp
  | a :: b :: ls, h => by
    have h' : ((!ltCps (tx [b]).cps.toList (tx [a]).cps.toList) && risingS (tx [b]) (ls.map fun c => tx [c])) = true := h
    rw [Bool.and_eq_true, tx_cps, tx_cps] at h'
    obtain ⟨h1, h2⟩ := h'
    have hab : a ≤ b := by
      have h3 : ltCps [97 + b] [97 + a] = false := by simpa using h1
      rw [ltCps_one] at h3
      have := of_decide_eq_false h3
      omega
    have ih := sorted_le (ls := b :: ls) h2
    refine List.pairwise_cons.mpr ⟨fun c hc => ?_, ih⟩
    rcases List.mem_cons.mp hc with rfl | hc
    · exact hab
    · have := (List.pairwise_cons.mp ih).1 c hc
      omega
theorem sgn_at {n : Nat} (h : n < 26) : atI ("abcdefghijklmnopqrstuvwxyz" : Str).cps.toList (n : Int) = some (97 + n) := by
  refine atI_nat ?_
  have : ∀ c : Fin 26, ("abcdefghijklmnopqrstuvwxyz" : Str).cps.toList[c.val]? = some (97 + c.val) := by decide +kernel
  exact this ⟨n, h⟩
/-- back from the texts -/
def untx (s : Str) : Nat := (s.cps.toList.getD 0 97) - 97
theorem untx_tx (c : Nat) : untx (tx [c]) = c := by
  unfold untx
  rw [tx_cps]
  show 97 + c - 97 = c
  omega
section
variable {P : Program} {w : World} {K : PySem.W.Frag} {mg : Str → Option Value} {base : Heap}
abbrev sSigns : Stmt := top 46
abbrev nSigns : List Str := ["_law_pool_here", "_law_many_here", "_law_start", "_law_step_here", "_law_k"]
theorem scSigns : FnScope nSigns ["_law_pool_here", "_law_many_here"] (defScope sSigns) := ⟨rfl, rfl, rfl, by decide +kernel, rfl, by decide +kernel, by decide +kernel⟩
def spSigns : Sp := fun vs H Q _ => ∃ (p l : Addr) (m : Nat), vs = [.ref p, .int m] ∧ PoolAt H p l ∧ 1 ≤ m ∧ m ≤ 4 ∧ ∀ (q : Addr) (ls : List Nat) H', Kp (PD p l) H H' → PoolAt H' p l → H q = none → H' q = some (.lst (ls.map fun c => .str (tx [c]))) → ls.length = m → (∀ c ∈ ls, c < 26) → ls.Pairwise (· < ·) → Q (.ref q) H'
theorem ok_signs (F : DefAt K mg "_law_signs" sSigns) (B : Bt mg) (D1 : Def P w K mg base CX0 1 "_law_draw" ["_law_pool_here", "_law_many_here"] spDraw) : Def P w K mg base CX0 2 "_law_signs" ["_law_pool_here", "_law_many_here"] spSigns := by
  refine Def.of F scSigns (fun _ _ _ _ _ _ us hl => match us, hl with | [_, _], _ => rfl) (fun vs H Q E h => ?_) (fun f cdv A outer s H vs Q E hr h => ?_)
  · obtain ⟨p, l, m, rfl, _⟩ := h
    rfl
  · obtain ⟨p, l, m, rfl, hP, h1, h4, hQ⟩ := h
    refine ⟨_, pss_cons (ps_set (i := 2) scSigns.nd rfl (Or.inr rfl) (pe_d D1 hr (by rfl) (pa_cons (pv 0) (pa_cons pe_int pa_nil))))
      (pss_cons (ps_set (i := 3) scSigns.nd rfl (Or.inr rfl) (pe_ix ix_list (pe_lst (pa_cons pe_int (pa_cons pe_int (pa_cons pe_int (pa_cons pe_int (pa_cons pe_int pa_nil)))))) (pe_d D1 hr (by rfl) (pa_cons (pv 0) (pa_cons pe_int pa_nil))) (fun _ _ => rfl)))
      (pss_one (ps_ret (pe_callB cr_sortedS (by rfl) B.sorted (by decide +kernel) (pa_cons (pe_lc (own := [("_law_k", 4)]) (g := gName 4) (tt := tYes) rfl scSigns.nd (pi_range1 rfl B.range (pa_cons (pv 1) pa_nil)) (blkOk_by (N := nSigns) (sc := defScope sSigns) (by decide +kernel))
        (fun _ _ _ _ _ => pg_name (i := 4) scSigns.nd rfl (Or.inl rfl)) (fun _ _ _ _ _ => pts_nil)
        (fun _ _ _ _ _ => pe_ix (r := rIxS) ix_str pe_str (pe_op op_mod (pe_callTy call_int1 (by rfl) B.int (by decide +kernel) (pa_cons (pe_op op_add (pv 2) (pe_op op_mul (pv 3) (pv 4))) pa_nil)) pe_int) (fun _ _ => rfl))) pa_nil))))), ?_⟩
    refine ⟨_, rfl, p, l, 26, rfl, hP, by omega, by omega, fun d1 H1 g1 g2 k1 P1 => ?_⟩
    refine ⟨by show 5 ≤ sizeLine; decide, fun a ha => ?_⟩
    have P1' : PoolAt (upd H1 a (.lst [.int 1, .int 3, .int 5, .int 7, .int 9])) p l := P1.same (Same.new ha)
    refine ⟨_, rfl, p, l, 5, rfl, P1', by omega, by omega, fun d2 H2 g3 g4 k2 P2 => ?_⟩
    have na : ∀ H' : Hp, PoolAt H' p l → H' a = none → ¬ PD p l a := fun H' h z e => by
      obtain ⟨x, y, ns, q1, q2⟩ := h.ex
      rcases e with e | e
      · rw [← e, z] at q1; cases q1
      · rw [← e, z] at q2; cases q2
    have ha2 := k2 a _ upd_same (na H1 P1 ha)
    obtain ⟨st, e1⟩ := Int.eq_ofNat_of_zero_le g1
    obtain ⟨j, e2⟩ := Int.eq_ofNat_of_zero_le g3
    subst e1
    subst e2
    have hj : j < 5 := by omega
    obtain ⟨b, hb, hb2⟩ : ∃ b : Nat, ([.int 1, .int 3, .int 5, .int 7, .int 9] : List V)[j]? = some (.int b) ∧ (b = 1 ∨ b = 3 ∨ b = 5 ∨ b = 7 ∨ b = 9) := by
      match j, hj with
      | 0, _ => exact ⟨1, rfl, by omega⟩
      | 1, _ => exact ⟨3, rfl, by omega⟩
      | 2, _ => exact ⟨5, rfl, by omega⟩
      | 3, _ => exact ⟨7, rfl, by omega⟩
      | 4, _ => exact ⟨9, rfl, by omega⟩
    refine ⟨a, _, _, _, rfl, rfl, SqL.of ha2, at_of (j := j) rfl hb, ?_⟩
    have k12 : Kp (PD p l) H H2 := (k1.trans (Kp.of (Same.new ha))).trans k2
    refine ⟨_, rfl, (m : Int), rfl, by omega, by omega, fun D hD => ?_⟩
    refine lc_range (lo := 0) (n := (m : Int).toNat) (fun i H' => H' = upd H2 D (.lst ((List.range i).map fun k => .str (tx [sgn st b k])))) rfl (fun i H' hi e => ?_) (fun H' e => ?_)
    · subst e
      refine ⟨rfl, _, rfl, _, rfl, _, rfl, _, _, rfl, rfl, .inl ⟨by omega, by omega⟩, _, _, rfl, rfl, .inl ⟨_, rfl, _, _, rfl, rfl, by omega, ?_⟩⟩
      have hi : i < m := by omega
      have h26 : sgn st b i < 26 := Nat.mod_lt _ (by omega)
      have es : ((st : Int) + (b : Int) * (0 + (i : Int))) % 26 = ((sgn st b i : Nat) : Int) := by
        unfold sgn
        push_cast
        rw [Int.zero_add]
      refine ⟨_, _, 97 + sgn st b i, rfl, rfl, by decide, by show atI _ (((st : Int) + (b : Int) * (0 + (i : Int))) % 26) = _; rw [es]; exact sgn_at h26, ?_⟩
      refine ⟨_, upd_same, by rw [List.length_map, List.length_range, sizeLine_eq]; omega, ?_⟩
      rw [upd_upd, List.range_succ, List.map_append]
      rfl
    · subst e
      rw [Int.toNat_natCast]
      have nD : ¬ PD p l D := fun e => by
        obtain ⟨x, y, ns, q1, q2⟩ := P2.ex
        rcases e with e | e
        · rw [← e, hD] at q1; cases q1
        · rw [← e, hD] at q2; cases q2
      refine ⟨D, (List.range m).map fun k => tx [sgn st b k], rfl, SqL.of (by rw [upd_same, List.map_map]; rfl), by rw [List.length_map, List.length_range]; omega, fun ys q hp hs hq => ?_⟩
      have hys : ∀ y ∈ ys, tx [untx y] = y := fun y hy => by
        obtain ⟨k, _, e⟩ := List.mem_map.mp (hp.mem_iff.mp hy)
        rw [← e, untx_tx]
      have e3 : (ys.map untx).map (fun c => tx [c]) = ys := by
        rw [List.map_map]
        conv => rhs; rw [← List.map_id ys]
        exact List.map_congr_left fun y hy => hys y hy
      have e4 : (ys.map untx).map (fun c => V.str (tx [c])) = ys.map V.str := by
        show (ys.map untx).map (V.str ∘ fun c => tx [c]) = _
        rw [← List.map_map, e3]
      have pm : (ys.map untx).Perm ((List.range m).map (sgn st b)) := by
        have := hp.map untx
        rw [List.map_map] at this
        rw [show (List.range m).map (sgn st b) = (List.range m).map (untx ∘ fun k => tx [sgn st b k]) from List.map_congr_left fun k _ => (untx_tx _).symm]
        exact this
      have nd : ((List.range m).map (sgn st b)).Nodup := by
        refine List.pairwise_map.mpr ((List.nodup_range (n := m)).imp_of_mem fun {x y} hx hy hne z => hne ?_)
        have hx := List.mem_range.mp hx
        have hy := List.mem_range.mp hy
        exact sgn_inj hb2 (by omega) (by omega) z
      have k3 : Kp (PD p l) H (upd (upd H2 D (.lst ((List.range m).map fun k => .str (tx [sgn st b k])))) q (.lst (ys.map V.str))) := (k12.trans (Kp.of (Same.new hD))).trans (Kp.of (Same.new hq))
      have hqH : H q = none := by
        cases e : H q with
        | none => rfl
        | some o =>
          by_cases z : PD p l q
          · obtain ⟨x, y, ns, q1, q2⟩ := (P2.same (Same.new (o := .lst ((List.range m).map fun k => .str (tx [sgn st b k]))) hD)).ex
            rcases z with z | z
            · rw [← z, hq] at q1; cases q1
            · rw [← z, hq] at q2; cases q2
          · rw [(k12.trans (Kp.of (Same.new hD))) q o e z] at hq
            cases hq
      refine hQ q (ys.map untx) _ k3 ((P2.same (Same.new hD)).same (Same.new hq)) hqH (by rw [upd_same, e4]) (by rw [List.length_map, hp.length_eq, List.length_map, List.length_range]) (fun c hc => ?_) ?_
      · obtain ⟨k, _, e⟩ := List.mem_map.mp (pm.mem_iff.mp hc)
        rw [← e]
        exact Nat.mod_lt _ (by omega)
      · exact pairwise_lt (sorted_le (by rw [e3]; exact hs)) (pm.nodup_iff.mpr nd)
end
end K81
set_option maxRecDepth 100000
set_option maxHeartbeats 16000000
/-! The told tracks. -/
namespace K81
open PySem PySem.Spec PyProof.Rows L2
theorem notPD {H : Hp} {p l a : Addr} (h : PoolAt H p l) (z : H a = none) : ¬ PD p l a := fun e => by
  obtain ⟨x, y, ns, q1, q2⟩ := h.ex
  rcases e with e | e
  · rw [← e, z] at q1; cases q1
  · rw [← e, z] at q2; cases q2
theorem notPDo {H : Hp} {p l a : Addr} {o : HO} (h : PoolAt H p l) (z : H a = some o) (no : ∀ xs, o ≠ .lst xs) : ¬ PD p l a := fun e => by
  obtain ⟨x, y, ns, q1, q2⟩ := h.ex
  rcases e with e | e
  · rw [← e, z] at q1; cases q1; exact no _ rfl
  · rw [← e, z] at q2; cases q2; exact no _ rfl
theorem PoolAt.back {H H' : Hp} {p l q : Addr} (h : PoolAt H' p l) (k : Kp (PD p l) H H') (z : H' q = none) : H q = none := by
  cases e : H q with
  | none => rfl
  | some o => rw [k q o e (notPD h z)] at z; cases z
theorem ToldAt.kp {H H' : Hp} {p l t : Addr} {T : Tk} (h : ToldAt H t T) (P : PoolAt H p l) (k : Kp (PD p l) H H') : ToldAt H' t T := h.mono fun b xs e => k b _ e (notPDo P e fun xs z => nomatch z)
theorem TupsP.kp {β : Type} {H H' : Hp} {p l : Addr} {f : β → List V} {vs : List V} {bs : List β} (h : TupsP H f vs bs) (P : PoolAt H p l) (k : Kp (PD p l) H H') : TupsP H' f vs bs := h.mono fun b xs e => k b _ e (notPDo P e fun xs z => nomatch z)
abbrev lV (c : Nat) : V := .str (tx [c])
theorem Kp.put {D : Addr → Prop} {H H' : Hp} {a : Addr} {o : HO} (k : Kp D H H') (h : H a = none) : Kp D H (upd H' a o) := fun c u e n => by rw [upd_ne (ne_of_none e h)]; exact k c u e n
theorem PoolAt.put {H : Hp} {p l a : Addr} {o : HO} (h : PoolAt H p l) (n : ¬ PD p l a) : PoolAt (upd H a o) p l := by
  obtain ⟨x, y, ns, q1, q2⟩ := h.ex
  exact ⟨x, y, ns, by rw [upd_ne (fun z => n (.inl z.symm))]; exact q1, by rw [upd_ne (fun z => n (.inr z.symm))]; exact q2⟩
structure FoundOk (n i : Nat) (arr : List Arr) : Prop where
  pl : ∀ a ∈ arr, a.1 < i
  lt : ∀ a ∈ arr, a.2.1 < 26
  py : ∀ a ∈ arr, a.2.2.1 ≤ 9
  gl : ∀ a ∈ arr, a.2.2.2 < n
  asc : arr.Pairwise aLt
  tot : ∀ p, p < i → ∃ a ∈ arr, a.1 = p
  len : arr.length ≤ 4 * i
theorem FoundOk.zero (n : Nat) : FoundOk n 0 [] := ⟨by simp, by simp, by simp, by simp, .nil, fun p h => absurd h (Nat.not_lt_zero _), Nat.le_refl _⟩
theorem FoundOk.next {n i : Nat} {arr new : List Arr} {cs : List Nat} (h : FoundOk n i arr) (e : new.map (·.2.1) = cs) (h1 : ∀ a ∈ new, a.1 = i ∧ a.2.2.1 ≤ 9 ∧ a.2.2.2 < n) (hc : cs.Pairwise (· < ·)) (h26 : ∀ c ∈ cs, c < 26) (hp : 1 ≤ cs.length) (h4 : cs.length ≤ 4) : FoundOk n (i + 1) (arr ++ new) := by
  subst e
  refine ⟨fun a ha => ?_, fun a ha => ?_, fun a ha => ?_, fun a ha => ?_, ?_, fun p hp' => ?_, ?_⟩
  · rcases List.mem_append.mp ha with ha | ha
    · have := h.pl a ha; omega
    · have := (h1 a ha).1; omega
  · rcases List.mem_append.mp ha with ha | ha
    · exact h.lt a ha
    · exact h26 _ (List.mem_map.mpr ⟨a, ha, rfl⟩)
  · rcases List.mem_append.mp ha with ha | ha
    · exact h.py a ha
    · exact (h1 a ha).2.1
  · rcases List.mem_append.mp ha with ha | ha
    · exact h.gl a ha
    · exact (h1 a ha).2.2
  · refine List.pairwise_append.mpr ⟨h.asc, ?_, fun a ha b hb => .inl ?_⟩
    · exact (List.pairwise_map.mp hc).imp_of_mem fun {a b} ha hb z => .inr ⟨by rw [(h1 a ha).1, (h1 b hb).1], z⟩
    · rw [(h1 b hb).1]
      exact h.pl a ha
  · by_cases z : p < i
    · obtain ⟨a, ha, e⟩ := h.tot p z
      exact ⟨a, List.mem_append_left _ ha, e⟩
    · rw [List.length_map] at hp
      obtain ⟨a, ha⟩ := List.exists_mem_of_length_pos hp
      exact ⟨a, List.mem_append_right _ ha, by rw [(h1 a ha).1]; omega⟩
  · rw [List.length_map] at h4
    rw [List.length_append]
    have := h.len
    omega
theorem FoundOk.wf {n : Nat} {arr : List Arr} (h : FoundOk n n arr) (h1 : 1 ≤ n) (h14 : n ≤ 14) : Wf ⟨n, arr⟩ := by
  refine ⟨h1, h14, ?_, by have := h.len; show arr.length ≤ 60; omega, h.pl, h.lt, h.py, h.gl, h.asc, h.tot⟩
  obtain ⟨a, ha, _⟩ := h.tot 0 h1
  exact List.length_pos_of_mem ha
section
variable {P : Program} {w : World} {K : PySem.W.Frag} {mg : Str → Option Value} {base : Heap}
abbrev sTold : Stmt := top 47
abbrev nTold : List Str := ["_law_pool_here", "_law_few", "_law_kind", "_law_places", "_law_signs_here", "_law_pays", "_law_found", "_law_place", "_law_some", "_law_sign"]
theorem scTold : FnScope nTold ["_law_pool_here", "_law_few"] (defScope sTold) := ⟨rfl, rfl, rfl, by decide +kernel, rfl, by decide +kernel, by decide +kernel⟩
def spTold : Sp := fun vs H Q _ => ∃ (p l : Addr) (m : Nat), vs = [.ref p, .int m] ∧ PoolAt H p l ∧ 1 ≤ m ∧ m ≤ 14 ∧ ∀ (t : Addr) (T : Tk) H', Kp (PD p l) H H' → PoolAt H' p l → ToldAt H' t T → Wf T → T.n ≤ m → T.arr.length ≤ 4 * T.n → Q (.ref t) H'
theorem ok_told (F : DefAt K mg "_law_told" sTold) (B : Bt mg) (D1 : Def P w K mg base CX0 1 "_law_draw" ["_law_pool_here", "_law_many_here"] spDraw) (D2 : Def P w K mg base CX0 2 "_law_signs" ["_law_pool_here", "_law_many_here"] spSigns) : Def P w K mg base CX0 3 "_law_told" ["_law_pool_here", "_law_few"] spTold := by
  refine Def.of F scTold (fun _ _ _ _ _ _ us hl => match us, hl with | [_, _], _ => rfl) (fun vs H Q E h => ?_) (fun f cdv A outer s H vs Q E hr h => ?_)
  · obtain ⟨p, l, m, rfl, _⟩ := h
    rfl
  · obtain ⟨p, l, m, rfl, hP, h1, h14, hQ⟩ := h
    have hr1 : Room 1 _ := hr.mono (by decide)
    refine ⟨_, pss_cons (ps_set (i := 2) scTold.nd rfl (Or.inr rfl) (pe_d D1 hr1 (by rfl) (pa_cons (pv 0) (pa_cons pe_int pa_nil))))
      (pss_cons (ps_set (i := 3) scTold.nd rfl (Or.inl rfl) (pe_op op_add pe_int (pe_d D1 hr1 (by rfl) (pa_cons (pv 0) (pa_cons (pv 1) pa_nil)))))
      (pss_cons (ps_set (i := 4) scTold.nd rfl (Or.inl rfl) (pe_d D2 hr (by rfl) (pa_cons (pv 0) (pa_cons (pe_op op_add pe_int (pe_d D1 hr1 (by rfl) (pa_cons (pv 0) (pa_cons pe_int pa_nil)))) pa_nil))))
      (pss_cons (ps_set (i := 5) scTold.nd rfl (Or.inl rfl) (pe_ix ix_list (pe_lst (pa_cons (pe_lst (pa_cons pe_int (pa_cons pe_int (pa_cons pe_int pa_nil)))) (pa_cons (pe_lst (pa_cons pe_int (pa_cons pe_int (pa_cons pe_int (pa_cons pe_int pa_nil))))) (pa_cons (pe_lst (pa_cons pe_int (pa_cons pe_int (pa_cons pe_int pa_nil))))
          (pa_cons (pe_lst (pa_cons pe_int (pa_cons pe_int (pa_cons pe_int (pa_cons pe_int (pa_cons pe_int (pa_cons pe_int (pa_cons pe_int (pa_cons pe_int (pa_cons pe_int (pa_cons pe_int pa_nil))))))))))) (pa_cons (pe_lst (pa_cons pe_int (pa_cons pe_int (pa_cons pe_int pa_nil)))) pa_nil)))))) (pv 2) (fun _ _ => rfl)))
      (pss_cons (ps_set (i := 6) scTold.nd rfl (Or.inl rfl) (pe_lst pa_nil))
      (pss_cons (ps_for PassesOwn.never rfl (pi_range1 rfl B.range (pa_cons (pv 3) pa_nil)) (pg_name (i := 7) scTold.nd rfl (Or.inl rfl))
        (pss_cons (ps_setLc (i := 8) (own := [("_law_sign", 9)]) (g := gName 9) (tt := _) rfl scTold.nd rfl rfl (sw_true rfl rfl rfl (by decide +kernel)) (pi_list (pv 4)) (blkOk_by (N := nTold) (sc := defScope sTold) (by decide +kernel))
            (fun _ _ _ _ _ => pg_name (i := 9) scTold.nd rfl (Or.inl rfl)) (fun _ _ _ _ _ => pts_one (PW.pt (pw_or (pt_cmpR op_lt (pv 2) pe_int (nomark _)) (pw_or1 (pt_cmpR op_gt (pe_d D1 hr1 (by rfl) (pa_cons (pv 0) (pa_cons pe_int pa_nil))) pe_int (nomark _)))))) (fun _ _ _ _ _ => pv 9))
        (Evl.pss_cut (ps_if (pt_cmpR op_eq (pe_callB call_len_seq (by rfl) B.len PySem.boot_len (pa_cons (pv 8) pa_nil)) pe_int (nomark _))
            (pss_one (ps_set (i := 8) scTold.nd rfl (Or.inl rfl) (pe_lst (pa_cons (pe_ix ix_list (pv 4) (pe_d D1 hr1 (by rfl) (pa_cons (pv 0) (pa_cons (pe_callB call_len_seq (by rfl) B.len PySem.boot_len (pa_cons (pv 4) pa_nil)) pa_nil))) (fun _ _ => rfl)) pa_nil)))) pss_nil)
        (pss_one (ps_for PassesOwn.never rfl (pi_list (pv 8)) (pg_name (i := 9) scTold.nd rfl (Or.inl rfl))
          (pss_one (ps_expr (pe_bm PySem.F.plainAttrs_list PySem.F.slot_list_append PySem.F.type_list_append mt_append (pv 6) (pa_cons (pe_tup (pa_cons (pv 7) (pa_cons (pv 9)
            (pa_cons (pe_ix ix_list (pv 5) (pe_d D1 hr1 (by rfl) (pa_cons (pv 0) (pa_cons (pe_callB call_len_seq (by rfl) B.len PySem.boot_len (pa_cons (pv 5) pa_nil)) pa_nil))) (fun _ _ => rfl)) (pa_cons (pe_d D1 hr1 (by rfl) (pa_cons (pv 0) (pa_cons (pv 3) pa_nil))) pa_nil))))) pa_nil)))))))))
      (pss_one (ps_ret (pe_tup (pa_cons (pv 3) (pa_cons (pe_callTy call_tuple_of (by rfl) B.tuple (by decide +kernel) (pa_cons (pe_callB (cr_sortD hr.units) (by rfl) B.sorted (by decide +kernel) (pa_cons (pv 6) pa_nil)) pa_nil)) pa_nil)))))))))), ?_⟩
    refine ⟨_, rfl, p, l, 5, rfl, hP, by omega, by omega, fun kd H1 g1 g2 k1 P1 => ?_⟩
    obtain ⟨kd, rfl⟩ := Int.eq_ofNat_of_zero_le g1
    refine ⟨_, rfl, _, rfl, p, l, (m : Int), rfl, P1, by omega, by omega, fun pd H2 g3 g4 k2 P2 => ?_⟩
    obtain ⟨pd, rfl⟩ := Int.eq_ofNat_of_zero_le g3
    refine ⟨_, _, rfl, rfl, ?_⟩
    refine ⟨_, rfl, _, rfl, p, l, 4, rfl, P2, by omega, by omega, fun sd H3 g5 g6 k3 P3 => ?_⟩
    obtain ⟨sd, rfl⟩ := Int.eq_ofNat_of_zero_le g5
    refine ⟨_, _, rfl, rfl, p, l, sd + 1, ?_, P3, by omega, by omega, fun sq ls H4 k4 P4 hsq0 hsq hlen h26 hasc => ?_⟩
    · show [V.ref p, V.int ((1 : Int) + (sd : Int))] = _
      rw [show ((1 : Int) + (sd : Int)) = ((sd + 1 : Nat) : Int) by omega]
    refine ⟨by show 3 ≤ sizeLine; decide, fun a0 ha0 => ⟨by show 4 ≤ sizeLine; decide, fun a1 ha1 => ⟨by show 3 ≤ sizeLine; decide, fun a2 ha2 => ⟨by show 10 ≤ sizeLine; decide, fun a3 ha3 => ⟨by show 3 ≤ sizeLine; decide, fun a4 ha4 => ⟨by show 5 ≤ sizeLine; decide, fun a5 ha5 => ?_⟩⟩⟩⟩⟩⟩
    have s0 := Same.new (o := .lst [.int 2, .int 3, .int 4]) ha0
    have s1 := Same.new (o := .lst [.int 0, .int 1, .int 2, .int 3]) ha1
    have s2 := Same.new (o := .lst [.int 3, .int 4, .int 5]) ha2
    have s3 := Same.new (o := .lst [.int 0, .int 1, .int 2, .int 3, .int 4, .int 5, .int 6, .int 7, .int 8, .int 9]) ha3
    have s4 := Same.new (o := .lst [.int 2, .int 3, .int 5]) ha4
    have s5 := Same.new (o := .lst [.ref a0, .ref a1, .ref a2, .ref a3, .ref a4]) ha5
    have q1 := P4.same s0
    have q2 := q1.same s1
    have q3 := q2.same s2
    have q4 := q3.same s3
    have q5 := q4.same s4
    have q6 := q5.same s5
    have t4 := s4.trans s5
    have t3 := s3.trans t4
    have t2 := s2.trans t3
    have t1 := s1.trans t2
    have t0 := s0.trans t1
    obtain ⟨a, ps, hk, hps, hna, hp1, hp2, hp3⟩ : ∃ (a : Addr) (ps : List Int), ([.ref a0, .ref a1, .ref a2, .ref a3, .ref a4] : List V)[kd]? = some (.ref a) ∧
        upd (upd (upd (upd (upd (upd H4 a0 (.lst [.int 2, .int 3, .int 4])) a1 (.lst [.int 0, .int 1, .int 2, .int 3])) a2 (.lst [.int 3, .int 4, .int 5])) a3 (.lst [.int 0, .int 1, .int 2, .int 3, .int 4, .int 5, .int 6, .int 7, .int 8, .int 9])) a4 (.lst [.int 2, .int 3, .int 5])) a5 (.lst [.ref a0, .ref a1, .ref a2, .ref a3, .ref a4]) a = some (.lst (ps.map V.int)) ∧
        ¬ PD p l a ∧ 1 ≤ ps.length ∧ ps.length ≤ 10 ∧ ∀ z ∈ ps, 0 ≤ z ∧ z ≤ 9 := by
      have hk5 : kd < 5 := by omega
      match kd, hk5 with
      | 0, _ => exact ⟨a0, [2, 3, 4], rfl, t1 _ _ upd_same, notPD P4 ha0, by decide, by decide, by decide⟩
      | 1, _ => exact ⟨a1, [0, 1, 2, 3], rfl, t2 _ _ upd_same, notPD q1 ha1, by decide, by decide, by decide⟩
      | 2, _ => exact ⟨a2, [3, 4, 5], rfl, t3 _ _ upd_same, notPD q2 ha2, by decide, by decide, by decide⟩
      | 3, _ => exact ⟨a3, [0, 1, 2, 3, 4, 5, 6, 7, 8, 9], rfl, t4 _ _ upd_same, notPD q3 ha3, by decide, by decide, by decide⟩
      | 4, _ => exact ⟨a4, [2, 3, 5], rfl, s5 _ _ upd_same, notPD q4 ha4, by decide, by decide, by decide⟩
    refine ⟨_, rfl, a5, _, _, _, rfl, rfl, SqL.of upd_same, at_of (j := kd) rfl hk, ?_⟩
    have hsq6 := t0 _ _ hsq
    revert hps q6 hsq6 t0
    generalize upd (upd (upd (upd (upd (upd H4 a0 (.lst [.int 2, .int 3, .int 4])) a1 (.lst [.int 0, .int 1, .int 2, .int 3])) a2 (.lst [.int 3, .int 4, .int 5])) a3 (.lst [.int 0, .int 1, .int 2, .int 3, .int 4, .int 5, .int 6, .int 7, .int 8, .int 9])) a4 (.lst [.int 2, .int 3, .int 5])) a5 (.lst [.ref a0, .ref a1, .ref a2, .ref a3, .ref a4]) = H5
    intro q6 t0 hps hsq6
    have k5 : Kp (PD p l) H H5 := (((k1.trans k2).trans k3).trans k4).trans (Kp.of t0)
    refine ⟨Nat.zero_le _, fun F hF => ?_⟩
    have hFn := notPD q6 hF
    have hF0 := q6.back k5 hF
    have nsq := notPD P3 hsq0
    have nFs : sq ≠ F := ne_of_none hsq6 hF
    have nFa : a ≠ F := ne_of_none hps hF
    refine ⟨_, rfl, (1 + (pd : Int)), rfl, by omega, by omega, for_range (lo := 0) (n := (1 + (pd : Int)).toNat) (fun i σ H' => ∃ (v7 v8 v9 : Option V) (vs : List V) (arr : List Arr), σ = [some (.ref p), some (.int m), some (.int kd), some (.int (1 + (pd : Int))), some (.ref sq), some (.ref a), some (.ref F), v7, v8, v9] ∧
        Kp (PD p l) H H' ∧ PoolAt H' p l ∧ H' sq = some (.lst (ls.map lV)) ∧ H' a = some (.lst (ps.map V.int)) ∧ H' F = some (.lst vs) ∧ TupsP H' aV vs arr ∧ FoundOk (pd + 1) i arr)
      ⟨none, none, none, [], [], rfl, k5.trans (Kp.of (Same.new hF)), q6.same (Same.new hF), Same.new hF _ _ hsq6, Same.new hF _ _ hps, upd_same, .nil, FoundOk.zero _⟩ ?_ ?_⟩
    · rintro i σ H6 hi ⟨v7, v8, v9, vs, arr, rfl, k6, P6, hsq, hps, hF, hT, hO⟩
      have hi : i < pd + 1 := by omega
      refine ⟨_, rfl, sq, rfl, ⟨_, SqL.of hsq⟩, fun D hD => ?_⟩
      have nD := notPD P6 hD
      refine lc_list (K := K) (a := sq) (xs := ls.map lV) (fun j H' => Kp (PD p l) H6 H' ∧ PoolAt H' p l ∧ ∃ cs : List Nat, H' D = some (.lst (cs.map lV)) ∧ cs.Sublist (ls.take j))
        ⟨Kp.of (Same.new hD), P6.same (Same.new hD), [], upd_same, .slnil⟩ (fun j H' _ ⟨k, _⟩ => SqL.of (k _ _ hsq nsq)) (fun j y H7 hy ⟨k7, P7, cs, hd, hcs⟩ => ?_) (fun H7 ⟨k7, P7, cs, hd, hcs⟩ => ?_)
      · rw [List.getElem?_map] at hy
        cases hz : ls[j]? with
        | none => rw [hz] at hy; cases hy
        | some ch =>
          rw [hz] at hy
          cases hy
          have yes : ∀ H8, Kp (PD p l) H6 H8 → PoolAt H8 p l → H8 D = some (.lst (cs.map lV)) → ∃ acc, H8 D = some (.lst acc) ∧ acc.length < sizeLine ∧ Kp (PD p l) H6 (upd H8 D (.lst (acc ++ [lV ch]))) ∧ PoolAt (upd H8 D (.lst (acc ++ [lV ch]))) p l ∧
              ∃ cs : List Nat, upd H8 D (.lst (acc ++ [lV ch])) D = some (.lst (cs.map lV)) ∧ cs.Sublist (ls.take (j + 1)) := fun H8 k8 P8 h8 => by
            refine ⟨_, h8, ?_, k8.put hD, P8.put nD, cs ++ [ch], by rw [upd_same, List.map_append]; rfl, ?_⟩
            · have h1 := hcs.length_le
              have h2 := List.length_take_le' j ls
              rw [List.length_map, sizeLine_eq]
              omega
            · rw [take_snoc hz]
              exact hcs.append (List.Sublist.refl _)
          refine ⟨rfl, _, rfl, _, _, rfl, rfl, _, rfl, ?_⟩
          refine ifB (fun _ => iteT ⟨_, rfl, yes _ k7 P7 hd⟩) (fun _ => ?_)
          refine ⟨_, rfl, p, l, 3, rfl, P7, by omega, by omega, fun d H8 _ _ k8 P8 => ⟨_, _, rfl, rfl, _, rfl, ?_⟩⟩
          have hd8 := k8 _ _ hd nD
          refine ifB (fun _ => ⟨_, rfl, yes _ (k7.trans k8) P8 hd8⟩) (fun _ => ⟨k7.trans k8, P8, cs, hd8, ?_⟩)
          rw [take_snoc hz]
          exact hcs.trans (List.sublist_append_left _ _)
      · rw [List.length_map, List.take_length] at hcs
        have hsq7 := k7 _ _ hsq nsq
        have hps7 := k7 _ _ hps hna
        have hF7 := k7 _ _ hF hFn
        have hT7 := hT.kp P6 k7
        refine ⟨fun σ H' => ∃ (E : Addr) (cs : List Nat) (v : Option V), σ = [some (.ref p), some (.int m), some (.int kd), some (.int (1 + (pd : Int))), some (.ref sq), some (.ref a), some (.ref F), some (.int (0 + (i : Int))), some (.ref E), v] ∧
          Kp (PD p l) H H' ∧ PoolAt H' p l ∧ H' sq = some (.lst (ls.map lV)) ∧ H' a = some (.lst (ps.map V.int)) ∧ H' F = some (.lst vs) ∧ TupsP H' aV vs arr ∧ H' E = some (.lst (cs.map lV)) ∧ cs.Sublist ls ∧ 1 ≤ cs.length ∧ ¬ PD p l E ∧ E ≠ F, ?_, ?_⟩
        · refine ⟨_, rfl, D, _, rfl, .inl (SqL.of hd), rfl, _, rfl, ?_⟩
          have nDF : D ≠ F := (ne_of_none hF hD).symm
          by_cases hc : cs = []
          · subst hc
            refine iteT ?_
            refine ⟨_, rfl, _, rfl, _, rfl, sq, _, rfl, .inl (SqL.of hsq7), p, l, _, rfl, P7, ?_, ?_, fun d H8 e1 e2 k8 P8 => ?_⟩
            · rw [List.length_map, hlen]; omega
            · rw [List.length_map, hlen]; omega
            obtain ⟨d, rfl⟩ := Int.eq_ofNat_of_zero_le e1
            rw [List.length_map] at e2
            have hdl : d < ls.length := by omega
            refine ⟨sq, _, _, lV ls[d], rfl, rfl, SqL.of (k8 _ _ hsq7 nsq), at_of (j := d) rfl (by rw [List.getElem?_map, List.getElem?_eq_getElem hdl]; rfl), by show 1 ≤ sizeLine; decide, fun E hE => ?_⟩
            exact ⟨E, [ls[d]], _, rfl, ((k6.trans k7).trans k8).trans (Kp.of (Same.new hE)), P8.same (Same.new hE), Same.new hE _ _ (k8 _ _ hsq7 nsq), Same.new hE _ _ (k8 _ _ hps7 hna), Same.new hE _ _ (k8 _ _ hF7 hFn), (hT7.kp P7 k8).same (Same.new hE), upd_same, List.singleton_sublist.mpr (List.getElem_mem hdl), Nat.le_refl _, notPD P8 hE, (ne_of_none (k8 _ _ hF7 hFn) hE).symm⟩
          · have hc1 : 1 ≤ cs.length := List.length_pos_iff.mpr hc
            rw [show decide (V.int ((cs.map lV).length : Int) = V.int 0) = false from decide_eq_false (fun z => by have := V.int.inj z; rw [List.length_map] at this; omega)]
            exact iteF ⟨D, cs, _, rfl, k6.trans k7, P7, hsq7, hps7, hF7, hT7, hd, hcs, hc1, nD, nDF⟩
        · rintro σ H8 ⟨E, cs, v, rfl, k8, P8, hsq8, hps8, hF8, hT8, hE8, hcs, hc1, nE, nEF⟩
          have hc4 : cs.length ≤ 4 := by have := hcs.length_le; omega
          refine ⟨_, rfl, E, rfl, ⟨_, SqL.of hE8⟩, for_list (K := K) (a := E) (xs := cs.map lV) (fun j σ H' => ∃ (v : Option V) (us : List V) (new : List Arr), σ = [some (.ref p), some (.int m), some (.int kd), some (.int (1 + (pd : Int))), some (.ref sq), some (.ref a), some (.ref F), some (.int (0 + (i : Int))), some (.ref E), v] ∧
              Kp (PD p l) H H' ∧ PoolAt H' p l ∧ H' sq = some (.lst (ls.map lV)) ∧ H' a = some (.lst (ps.map V.int)) ∧ H' E = some (.lst (cs.map lV)) ∧ H' F = some (.lst us) ∧ TupsP H' aV us (arr ++ new) ∧ new.map (·.2.1) = cs.take j ∧ ∀ a ∈ new, a.1 = i ∧ a.2.2.1 ≤ 9 ∧ a.2.2.2 < pd + 1)
            ⟨v, vs, [], rfl, k8, P8, hsq8, hps8, hE8, hF8, by rw [List.append_nil]; exact hT8, rfl, fun a ha => nomatch ha⟩ ?_ ?_ ?_⟩
          · rintro j σ H9 _ ⟨_, _, _, _, _, _, _, _, h, _⟩
            exact SqL.of h
          · rintro j y σ H9 hy ⟨v, us, new, rfl, k9, P9, hsq9, hps9, hE9, hF9, hT9, hm9, hn9⟩
            rw [List.getElem?_map] at hy
            cases hz : cs[j]? with
            | none => rw [hz] at hy; cases hy
            | some ch =>
              rw [hz] at hy
              cases hy
              refine ⟨_, rfl, .inl ⟨rfl, _, SqL.of hF9⟩, _, rfl, _, rfl, _, rfl, _, rfl, _, rfl, a, _, rfl, .inl (SqL.of hps9), p, l, _, rfl, P9, ?_, ?_, fun d H10 e1 e2 k10 P10 => ?_⟩
              · rw [List.length_map]; omega
              · rw [List.length_map]; omega
              obtain ⟨d, rfl⟩ := Int.eq_ofNat_of_zero_le e1
              rw [List.length_map] at e2
              have hdl : d < ps.length := by omega
              have hpay := hp3 _ (List.getElem_mem hdl)
              obtain ⟨pay, hpay2⟩ := Int.eq_ofNat_of_zero_le hpay.1
              refine ⟨a, _, _, .int pay, rfl, rfl, SqL.of (k10 _ _ hps9 hna), at_of (j := d) rfl (by rw [List.getElem?_map, List.getElem?_eq_getElem hdl, hpay2]; rfl), ?_⟩
              refine ⟨_, rfl, _, rfl, p, l, _, rfl, P10, by omega, by omega, fun g H11 e3 e4 k11 P11 => ?_⟩
              obtain ⟨g, rfl⟩ := Int.eq_ofNat_of_zero_le e3
              have hF11 := k11 _ _ (k10 _ _ hF9 hFn) hFn
              refine ⟨by show 4 ≤ sizeLine; decide, fun u hu => ?_⟩
              have nuF : F ≠ u := ne_of_none hF11 hu
              have k12 : Kp (PD p l) H9 (upd H11 u (.tup [.int (0 + (i : Int)), lV ch, .int pay, .int g])) := (k10.trans k11).trans (Kp.of (Same.new hu))
              have P12 := P11.same (Same.new (o := .tup [.int (0 + (i : Int)), lV ch, .int pay, .int g]) hu)
              refine ⟨F, us, _, rfl, rfl, Same.new hu _ _ hF11, ?_, _, us ++ [.ref u], new ++ [(i, ch, pay, g)], rfl, (k9.trans k12).put hF0, P12.put hFn, ?_, ?_, ?_, upd_same, ?_, ?_, fun b hb => ?_⟩
              · have h1 := hT9.len
                have h2 := hO.len
                have h3 := congrArg List.length hm9
                rw [List.length_map] at h3
                have h4 := List.length_take_le' j cs
                rw [List.length_append] at h1
                rw [sizeLine_eq]
                omega
              · rw [upd_ne nFs]
                exact k12 _ _ hsq9 nsq
              · rw [upd_ne nFa]
                exact k12 _ _ hps9 hna
              · rw [upd_ne nEF]
                exact k12 _ _ hE9 nE
              · rw [← List.append_assoc]
                have kk : ∀ b ys, upd H11 u (.tup [.int (0 + (i : Int)), lV ch, .int pay, .int g]) b = some (.tup ys) → upd (upd H11 u (.tup [.int (0 + (i : Int)), lV ch, .int pay, .int g])) F (.lst (us ++ [.ref u])) b = some (.tup ys) := fun b ys e => by
                  rw [upd_ne (ne_of e (Same.new hu _ _ hF11) (fun z => by cases z))]
                  exact e
                refine pd_app ((hT9.kp P9 k12).mono kk) (.cons ⟨u, rfl, kk _ _ ?_⟩ .nil)
                rw [upd_same, Int.zero_add]
                rfl
              · rw [List.map_append, hm9, take_snoc hz]
                rfl
              · rcases List.mem_append.mp hb with hb | hb
                · exact hn9 b hb
                · rw [List.mem_singleton.mp hb]
                  refine ⟨rfl, ?_, ?_⟩
                  · show pay ≤ 9
                    omega
                  · show g < pd + 1
                    omega
          · rintro σ H9 ⟨v, us, new, rfl, k9, P9, hsq9, hps9, hE9, hF9, hT9, hm9, hn9⟩
            rw [List.length_map, List.take_length] at hm9
            exact ⟨_, _, _, us, arr ++ new, rfl, k9, P9, hsq9, hps9, hF9, hT9, hO.next hm9 hn9 (hasc.sublist hcs) (fun c hc => h26 c (hcs.subset hc)) hc1 hc4⟩
    · rintro σ H6 ⟨v7, v8, v9, vs, arr, rfl, k6, P6, hsq, hps, hF, hT, hO⟩
      rw [show (1 + (pd : Int)).toNat = pd + 1 by omega] at hO
      refine ⟨_, rfl, _, rfl, Arr, (fun v a => ∃ p, v = V.ref p ∧ H6 p = some (.tup (aV a))), aD, F, vs, arr, rfl, SqL.of hF, hT, fun x b h => aD_dp h, aAll arr, aSor arr, fun b _ => aD_depth b, fun z ys hz hT2 => ?_⟩
      rw [aSorted hO.asc] at hT2
      refine ⟨z, ys, rfl, .inl ⟨SqL.of upd_same, fun ta hta => ?_⟩⟩
      refine ⟨by show 2 ≤ sizeLine; decide, fun t ht => ?_⟩
      have kk := ((Same.new (o := .lst ys) hz).trans (Same.new (o := .tup ys) hta)).trans (Same.new (o := .tup [.int (1 + (pd : Int)), .ref ta]) ht)
      refine hQ t ⟨pd + 1, arr⟩ _ (k6.trans (Kp.of kk)) (P6.same kk) ⟨ta, ys, ?_, Same.new ht _ _ upd_same, TupsP.same hT2 kk⟩ (hO.wf (by omega) (by omega)) (by show pd + 1 ≤ m; omega) hO.len
      rw [upd_same, show (1 + (pd : Int)) = ((pd + 1 : Nat) : Int) by omega]
end
end K81
set_option maxRecDepth 100000
set_option maxHeartbeats 16000000
/-! Steps of a told track; where a text leads. -/
namespace K81
open PySem PySem.Spec PyProof.Rows L2
theorem tx_size (r : List Nat) : (tx r).cps.size = r.length := tx_len r
theorem tx_at {r : List Nat} {i c : Nat} (h : (tx r).cps[i]? = some c) : ∃ k, r[i]? = some k ∧ (.str ⟨#[c]⟩ : V) = .str (tx [k]) := by
  have h2 : (r.map (97 + ·)).toArray[i]? = some c := h
  rw [List.getElem?_toArray, List.getElem?_map] at h2
  cases e : r[i]? with
  | none => rw [e] at h2; cases h2
  | some k =>
    rw [e] at h2
    cases h2
    exact ⟨k, rfl, rfl⟩
/-- over the letters of a text -/
theorem for_tx {r : List Nat} {g : TG} {tb : TS} {D : Ends} {σ : L2.St} {H : Hp} (Pv : Nat → L2.St → Hp → Prop) (h0 : Pv 0 σ H)
    (hs : ∀ i c σ H, r[i]? = some c → Pv i σ H → g (.str (tx [c])) σ H fun σ2 H2 => tb { D with nx := Pv (i + 1), ct := Pv (i + 1), bk := D.nx } σ2 H2) (hd : ∀ σ H, Pv r.length σ H → D.nx σ H) :
    ∃ W : Nat → Nat → L2.St → Hp → Prop, (∃ m, W 0 m σ H) ∧ ∀ i m σ H, W i m σ H →
      ((Its (tx r)).stop i H ∧ D.nx σ H) ∨ ((Its (tx r)).go i H ∧ ∃ N : L2.St → Hp → Prop, (∀ σ' H', N σ' H' → ∃ m', m' < m ∧ W (i + 1) m' σ' H') ∧ ∀ x H', (Its (tx r)).yld i H x H' → g x σ H' fun σ2 H2 => tb { D with nx := N, ct := N, bk := D.nx } σ2 H2) := by
  refine for_it walk_str Pv h0 (fun _ _ _ _ _ => trivial) (fun i x σ H H' hi hp ⟨e, c, hc, ev⟩ => ?_) (fun σ H hp => hd σ H (by rw [tx_size] at hp; exact hp))
  obtain ⟨k, hk, e2⟩ := tx_at hc
  rw [e, ev, e2]
  exact hs i k σ H hk hp
section
variable {P : Program} {w : World} {K : PySem.W.Frag} {mg : Str → Option Value} {base : Heap}
abbrev sSteps : Stmt := top 49
abbrev nSteps : List Str := ["_law_told_here", "_law_place", "_law_arrow"]
theorem scSteps : FnScope nSteps ["_law_told_here", "_law_place"] (defScope sSteps) := ⟨rfl, rfl, rfl, by decide +kernel, rfl, by decide +kernel, by decide +kernel⟩
def spSteps : Sp := fun vs H Q _ => ∃ (t : Addr) (p : Nat) (T : Tk), vs = [.ref t, .int p] ∧ ToldAt H t T ∧ Wf T ∧ ∀ H' l us, Same H H' → H l = none → H' l = some (.lst us) → TupsP H' sV us (steps T p) → Q (.ref l) H'
theorem ok_steps (F : DefAt K mg "_law_steps" sSteps) : Def P w K mg base CX0 1 "_law_steps" ["_law_told_here", "_law_place"] spSteps := by
  refine Def.of F scSteps (fun _ _ _ _ _ _ us hl => match us, hl with | [_, _], _ => rfl) (fun vs H Q E h => ?_) (fun f cdv A outer s H vs Q E hr h => ?_)
  · obtain ⟨t, p, T, rfl, _⟩ := h
    rfl
  · obtain ⟨t, p, T, rfl, hT, W, hQ⟩ := h
    refine ⟨_, pss_one (ps_ret (pe_lc (own := [("_law_arrow", 2)]) (g := gName 2) (tt := _) rfl scSteps.nd (pi_tup (pe_ix ix_tup (pv 0) pe_int (fun _ _ => rfl))) (blkOk_by (N := nSteps) (sc := defScope sSteps) (by decide +kernel))
      (fun _ _ _ _ _ => pg_name (i := 2) scSteps.nd rfl (Or.inl rfl)) (fun _ _ _ _ _ => pts_one (pt_cmpR op_eq (pe_ix (r := rIxT K) ix_tup (pv 2) pe_int (fun _ _ => rfl)) (pv 1) (nomark _))) (fun _ _ _ _ _ => pe_slice (r := rSlT K) sl_tup (pv 2) (po_some pe_int) po_none))), ?_⟩
    obtain ⟨ta, as, t1, t2, t3⟩ := hT.ex
    refine ⟨_, rfl, t, _, 1, .ref ta, rfl, rfl, SqT.of t1, at_of (j := 1) rfl rfl, ta, rfl, ⟨_, SqT.of t2⟩, fun D hD => ?_⟩
    refine lc_tup (K := K) (a := ta) (xs := as) (fun j H' => Same H H' ∧ ∃ us, H' D = some (.lst us) ∧ TupsP H' sV us (((T.arr.take j).filter fun a => a.1 == p).map (·.2))) ⟨Same.new hD, [], upd_same, .nil⟩ (fun j H' _ ⟨e, _⟩ => SqT.of (e _ _ t2)) (fun j v H' hy ⟨k2, us, hd, hm⟩ => ?_) (fun H2 ⟨k2, us, hd, hm⟩ => ?_)
    · obtain ⟨a, q, ha, rfl, hq⟩ := t3.get' hy
      have hq2 : H' q = some (.tup (aV a)) := k2 _ _ hq
      have et := take_snoc ha
      refine ⟨rfl, _, rfl, q, aV a, 0, .int a.1, rfl, rfl, SqT.of hq2, at_of (j := 0) rfl rfl, _, rfl, rfl, _, rfl, ?_⟩
      by_cases hp : a.1 = p
      · rw [show decide (V.int (a.1 : Int) = V.int (p : Int)) = true from decide_eq_true (by rw [hp])]
        refine iteT ⟨_, rfl, 1, rfl, q, aV a, rfl, SqT.of hq2, (by show ¬ ((1 : Nat) = 0 ∧ (4 : Nat) = 4); omega), fun u hu => ?_⟩
        have nuD : D ≠ u := ne_of_none hd hu
        refine ⟨us, by rw [upd_ne nuD]; exact hd, ?_, Same.put (k2.trans (Same.new hu)) hD, _, upd_same, ?_⟩
        · rw [hm.len, List.length_map, sizeLine_eq]
          have h1 := List.length_filter_le (fun a : Arr => a.1 == p) (T.arr.take j)
          have h2 := List.length_take_le' j T.arr
          have := W.len
          omega
        · rw [et, List.filter_append, List.map_append]
          have ef : List.filter (fun a : Arr => a.1 == p) [a] = [a] := by simp [hp]
          rw [ef]
          refine pd_app (TupsP.mono hm fun b xs e => ?_) (.cons ⟨u, rfl, ?_⟩ .nil)
          · rw [upd_ne (ne_of e hd (fun z => by cases z)), upd_ne (ne_of_none e hu)]
            exact e
          · rw [upd_ne nuD.symm, upd_same]
            rfl
      · rw [show decide (V.int (a.1 : Int) = V.int (p : Int)) = false from decide_eq_false (fun z => hp (by have := V.int.inj z; omega))]
        refine iteF ⟨k2, us, hd, ?_⟩
        rw [et, List.filter_append]
        have ef : List.filter (fun a : Arr => a.1 == p) [a] = [] := by simp [hp]
        rw [ef, List.append_nil]
        exact hm
    · rw [t3.len, List.take_length] at hm
      exact hQ H2 D us k2 hD hd hm
abbrev sLed : Stmt := top 50
abbrev nLed : List Str := ["_law_told_here", "_law_place", "_law_text", "_law_letter", "_law_goals", "_law_step_here"]
theorem scLed : FnScope nLed ["_law_told_here", "_law_place", "_law_text"] (defScope sLed) := ⟨rfl, rfl, rfl, by decide +kernel, rfl, by decide +kernel, by decide +kernel⟩
def spLed : Sp := fun vs H Q _ => ∃ (t : Addr) (p g : Nat) (r : List Nat) (T : Tk), vs = [.ref t, .int p, .str (tx r)] ∧ ToldAt H t T ∧ Wf T ∧ ledM T p r = some g ∧ ∀ H', Same H H' → Q (.int g) H'
theorem led_drop {T : Tk} {p g : Nat} {r : List Nat} (h : ledM T p r = some g) (i : Nat) : ∃ q, ledM T q (r.drop i) = some g ∧ ledM T p (r.take i) = some q := by
  induction r generalizing p i with
  | nil => exact ⟨p, by rw [List.drop_nil]; exact h, by rw [List.take_nil]; rfl⟩
  | cons c r ih =>
    cases i with
    | zero => exact ⟨p, h, rfl⟩
    | succ i =>
      unfold ledM at h
      split at h
      · cases h
      · rename_i s e
        obtain ⟨q, h1, h2⟩ := ih h i
        refine ⟨q, h1, ?_⟩
        rw [List.take_succ_cons]
        unfold ledM
        rw [e]
        exact h2
theorem ok_led (F : DefAt K mg "_law_led" sLed) (B : Bt mg) (D1 : Def P w K mg base CX0 1 "_law_steps" ["_law_told_here", "_law_place"] spSteps) : Def P w K mg base CX0 2 "_law_led" ["_law_told_here", "_law_place", "_law_text"] spLed := by
  refine Def.of F scLed (fun _ _ _ _ _ _ us hl => match us, hl with | [_, _, _], _ => rfl) (fun vs H Q E h => ?_) (fun f cdv A outer s H vs Q E hr h => ?_)
  · obtain ⟨t, p, g, r, T, rfl, _⟩ := h
    rfl
  · obtain ⟨t, p, g, r, T, rfl, hT, W, hl, hQ⟩ := h
    refine ⟨_, pss_cons (ps_for PassesOwn.never rfl (pi_str (pv 2)) (pg_name (i := 3) scLed.nd rfl (Or.inr rfl))
        (pss_cons (ps_setLc (i := 4) (own := [("_law_step_here", 5)]) (g := gName 5) (tt := _) rfl scLed.nd rfl rfl (sw_true rfl rfl rfl (by decide +kernel)) (pi_list (pe_d D1 hr (by rfl) (pa_cons (pv 0) (pa_cons (pv 1) pa_nil)))) (blkOk_by (N := nLed) (sc := defScope sLed) (by decide +kernel))
            (fun _ _ _ _ _ => pg_name (i := 5) scLed.nd rfl (Or.inl rfl)) (fun _ _ _ _ _ => pts_one (pt_cmpR op_eq (pe_ix (r := rIxT K) ix_tup (pv 5) pe_int (fun _ _ => rfl)) (pv 3) (nomark _))) (fun _ _ _ _ _ => pe_ix (r := rIxT K) ix_tup (pv 5) pe_int (fun _ _ => rfl)))
        (pss_cons (ps_if (pt_cmpR op_eq (pe_callB call_len_seq (by rfl) B.len PySem.boot_len (pa_cons (pv 4) pa_nil)) pe_int (nomark _)) (pss_one (ps_ret pe_non)) pss_nil)
        (pss_one (ps_set (i := 1) scLed.nd rfl (Or.inl rfl) (pe_ix ix_list (pv 4) pe_int (fun _ _ => rfl)))))))
      (pss_one (ps_ret (pv 1))), ?_⟩
    refine ⟨_, rfl, tx r, rfl, for_tx (r := r) (fun i σ H' => ∃ (q : Nat) (v3 v4 v5 : Option V), σ = [some (.ref t), some (.int q), some (.str (tx r)), v3, v4, v5] ∧ Same H H' ∧ ledM T q (r.drop i) = some g) ⟨p, none, none, none, rfl, fun _ _ e => e, hl⟩ ?_ ?_⟩
    · rintro i c σ H1 hc ⟨q, v3, v4, v5, rfl, k1, hq⟩
      have ed : r.drop i = c :: r.drop (i + 1) := by
        obtain ⟨hi, e⟩ := List.getElem?_eq_some_iff.mp hc
        rw [← e]
        exact List.drop_eq_getElem_cons hi
      rw [ed] at hq
      unfold ledM at hq
      split at hq
      · cases hq
      rename_i st est
      refine ⟨_, rfl, _, rfl, t, q, T, rfl, hT.same k1, W, fun H2 l us k2 hl0 hl hus => ?_⟩
      refine ⟨l, rfl, ⟨_, SqL.of hl⟩, fun D hD => ?_⟩
      refine lc_list (K := K) (a := l) (xs := us) (fun j H' => H' = upd H2 D (.lst ((((steps T q).take j).filter fun s => s.1 == c).map fun s => V.int s.2.2))) rfl (fun j H' _ e => by rw [e]; exact SqL.of (Same.new hD _ _ hl)) (fun j y H3 hy e => ?_) (fun H3 e => ?_)
      · subst e
        obtain ⟨s2, u, hs2, rfl, hu⟩ := hus.get' hy
        have hu2 : upd H2 D (.lst ((((steps T q).take j).filter fun s => s.1 == c).map fun s => V.int s.2.2)) u = some (.tup (sV s2)) := by rw [upd_ne (ne_of_none hu hD)]; exact hu
        have et := take_snoc hs2
        refine ⟨rfl, _, rfl, u, sV s2, 0, .str (tx [s2.1]), rfl, rfl, SqT.of hu2, at_of (j := 0) rfl rfl, _, rfl, rfl, _, rfl, ?_⟩
        by_cases hp : s2.1 = c
        · rw [show decide (V.str (tx [s2.1]) = V.str (tx [c])) = true from decide_eq_true (by rw [hp])]
          refine iteT ⟨_, rfl, u, sV s2, 2, .int s2.2.2, rfl, rfl, SqT.of hu2, at_of (j := 2) rfl rfl, _, upd_same, ?_, ?_⟩
          · rw [List.length_map, sizeLine_eq]
            have h1 := List.length_filter_le (fun s : Nat × Nat × Nat => s.1 == c) ((steps T q).take j)
            have h2 := List.length_take_le' j (steps T q)
            have := steps_len W q
            omega
          · have ef : List.filter (fun s : Nat × Nat × Nat => s.1 == c) [s2] = [s2] := by simp [hp]
            rw [upd_upd, et, List.filter_append, List.map_append, ef]
            rfl
        · rw [show decide (V.str (tx [s2.1]) = V.str (tx [c])) = false from decide_eq_false (fun z => hp (by have := tx_inj (V.str.inj z); simpa using this))]
          refine iteF ?_
          have ef : List.filter (fun s : Nat × Nat × Nat => s.1 == c) [s2] = [] := by simp [hp]
          rw [et, List.filter_append, ef, List.append_nil]
      · subst e
        rw [hus.len, List.take_length]
        have hh : ((steps T q).filter fun s => s.1 == c).head? = some st := by rw [List.head?_filter]; exact est
        generalize (steps T q).filter (fun s => s.1 == c) = gs at hh
        cases gs with
        | nil => cases hh
        | cons g0 gs =>
          cases hh
          refine ⟨_, rfl, D, _, rfl, .inl (SqL.of upd_same), rfl, _, rfl, ?_⟩
          rw [show decide (V.int ((((st :: gs).map fun s => V.int s.2.2).length : Nat) : Int) = V.int 0) = false from decide_eq_false (fun z => by have := V.int.inj z; rw [List.length_map, List.length_cons] at this; omega)]
          refine iteF ⟨_, rfl, D, _, 0, .int st.2.2, rfl, rfl, SqL.of upd_same, at_of (j := 0) rfl rfl, st.2.2, _, _, _, rfl, (k1.trans k2).trans (Same.new hD), hq⟩
    · rintro σ H1 ⟨q, v3, v4, v5, rfl, k1, hq⟩
      rw [List.drop_length] at hq
      cases hq
      exact ⟨_, rfl, hQ H1 k1⟩
end
end K81
set_option maxRecDepth 100000
set_option maxHeartbeats 16000000
/-! A walk; one step. -/
namespace K81
open PySem PySem.Spec PyProof.Rows L2
section
variable {P : Program} {w : World} {K : PySem.W.Frag} {mg : Str → Option Value} {base : Heap}
abbrev sWalk : Stmt := top 51
abbrev nWalk : List Str := ["_law_pool_here", "_law_told_here", "_law_place", "_law_length", "_law_text", "_law_turn", "_law_steps_here", "_law_letter", "_law_pay"]
theorem scWalk : FnScope nWalk ["_law_pool_here", "_law_told_here", "_law_place", "_law_length"] (defScope sWalk) := ⟨rfl, rfl, rfl, by decide +kernel, rfl, by decide +kernel, by decide +kernel⟩
def spWalk : Sp := fun vs H Q _ => ∃ (p l t : Addr) (pl len : Nat) (T : Tk), vs = [.ref p, .ref t, .int pl, .int len] ∧ PoolAt H p l ∧ ToldAt H t T ∧ Wf T ∧ pl < T.n ∧ len ≤ 13 ∧ ∀ (r : List Nat) (g : Nat) H', Kp (PD p l) H H' → PoolAt H' p l → r.length = len → ledM T pl r = some g → Q (.str (tx r)) H'
theorem ok_walk (F : DefAt K mg "_law_walk" sWalk) (B : Bt mg) (D0 : Def P w K mg base CX0 1 "_law_draw" ["_law_pool_here", "_law_many_here"] spDraw) (D1 : Def P w K mg base CX0 1 "_law_steps" ["_law_told_here", "_law_place"] spSteps) : Def P w K mg base CX0 2 "_law_walk" ["_law_pool_here", "_law_told_here", "_law_place", "_law_length"] spWalk := by
  refine Def.of F scWalk (fun _ _ _ _ _ _ us hl => match us, hl with | [_, _, _, _], _ => rfl) (fun vs H Q E h => ?_) (fun f cdv A outer s H vs Q E hr h => ?_)
  · obtain ⟨p, l, t, pl, len, T, rfl, _⟩ := h
    rfl
  · obtain ⟨p, l, t, pl, len, T, rfl, hP, hT, W, hpl, h13, hQ⟩ := h
    refine ⟨_, pss_cons (ps_set (i := 4) scWalk.nd rfl (Or.inl rfl) pe_str)
      (pss_cons (ps_for PassesOwn.never rfl (pi_range1 rfl B.range (pa_cons (pv 3) pa_nil)) (pg_name (i := 5) scWalk.nd rfl (Or.inl rfl))
        (pss_cons (ps_set (i := 6) scWalk.nd rfl (Or.inl rfl) (pe_d D1 hr (by rfl) (pa_cons (pv 1) (pa_cons (pv 2) pa_nil))))
        (pss_cons (ps_asg (pe_ix ix_list (pv 6) (pe_d D0 hr (by rfl) (pa_cons (pv 0) (pa_cons (pe_callB call_len_seq (by rfl) B.len PySem.boot_len (pa_cons (pv 6) pa_nil)) pa_nil))) (fun _ _ => rfl)) (pg_tup rfl (pgs_cons (pg_name (i := 7) scWalk.nd rfl (Or.inl rfl)) (pgs_cons (pg_name (i := 8) scWalk.nd rfl (Or.inl rfl)) (pgs_cons (pg_name (i := 2) scWalk.nd rfl (Or.inl rfl)) pgs_nil)))))
        (pss_one (ps_set (i := 4) scWalk.nd rfl (Or.inl rfl) (pe_op op_add_str (pv 4) (pv 7)))))))
      (pss_one (ps_ret (pv 4)))), ?_⟩
    refine ⟨_, rfl, (len : Int), rfl, by omega, by omega, for_range (lo := 0) (n := (len : Int).toNat) (fun i σ H' => ∃ (g : Nat) (r : List Nat) (v5 v6 v7 v8 : Option V), σ = [some (.ref p), some (.ref t), some (.int g), some (.int len), some (.str (tx r)), v5, v6, v7, v8] ∧
        Kp (PD p l) H H' ∧ PoolAt H' p l ∧ r.length = i ∧ ledM T pl r = some g) ⟨pl, [], none, none, none, none, by rw [tx_nil]; rfl, Kp.refl H, hP, rfl, rfl⟩ ?_ ?_⟩
    · rintro i σ H1 hi ⟨g, r, v5, v6, v7, v8, rfl, k1, P1, hr1, hg⟩
      have hgn := led_goal W hpl hg
      refine ⟨_, rfl, _, rfl, t, g, T, rfl, hT.kp hP k1, W, fun H2 a us k2 ha0 ha hus => ?_⟩
      have P2 := P1.same k2
      have hsl := steps_len W g
      have hsp := steps_pos W hgn
      refine ⟨_, rfl, _, rfl, _, rfl, a, _, rfl, .inl (SqL.of ha), p, l, _, rfl, P2, ?_, ?_, fun d H3 e1 e2 k3 P3 => ?_⟩
      · rw [hus.len]; omega
      · rw [hus.len]; omega
      obtain ⟨d, rfl⟩ := Int.eq_ofNat_of_zero_le e1
      rw [hus.len] at e2
      have hd : d < (steps T g).length := by omega
      obtain ⟨st, hst⟩ : ∃ st, (steps T g)[d]? = some st := ⟨_, List.getElem?_eq_getElem hd⟩
      obtain ⟨u, hu1, hu2⟩ := hus.get hst
      have hu3 := k3 _ _ hu2 (notPDo P2 hu2 fun xs z => nomatch z)
      have ha3 := k3 _ _ ha (notPD P1 ha0)
      refine ⟨a, us, _, .ref u, rfl, rfl, SqL.of ha3, at_of (j := d) rfl hu1, ?_⟩
      refine ⟨u, sV st, rfl, SqT.of hu3, rfl, _, _, rfl, _, _, rfl, _, _, rfl, rfl, ?_⟩
      refine ⟨_, rfl, _, rfl, tx r, tx [st.1], rfl, rfl, by rw [tx_len, tx_len, sizeLine_eq]; simp; omega, ?_⟩
      exact ⟨st.2.2, r ++ [st.1], _, _, _, _, by rw [tx_app]; rfl, (k1.trans (Kp.of k2)).trans k3, P3, by rw [List.length_append, hr1]; rfl, led_snoc W hg (List.mem_of_getElem? hst)⟩
    · rintro σ H1 ⟨g, r, v5, v6, v7, v8, rfl, k1, P1, hr1, hg⟩
      exact ⟨_, rfl, hQ r g H1 k1 P1 (by omega) hg⟩
abbrev sLInt : Stmt := top 52
theorem scLInt : FnScope ["_law_thing"] ["_law_thing"] (defScope sLInt) := ⟨rfl, rfl, rfl, by decide +kernel, rfl, by decide +kernel, by decide +kernel⟩
theorem ok_lint (F : DefAt K mg "_law_is_int" sLInt) (B : Bt mg) : Def P w K mg base CX0 1 "_law_is_int" ["_law_thing"] spIsInt := by
  refine Def.of F scLInt (fun _ _ _ _ _ _ us hl => match us, hl with | [_], _ => rfl) (fun vs H Q E h => ?_) (fun f cdv A outer s H vs Q E hr h => ?_)
  · obtain ⟨i, rfl, _⟩ := h
    rfl
  · obtain ⟨i, rfl, hQ⟩ := h
    refine ⟨_, pss_one (ps_ret (pe_and (pe_callB call_isi (by rfl) B.isinstance (by decide +kernel) (pa_cons (pv 0) (pa_cons (pe_bltn (v := .ty "int") (by rfl) B.int (by decide +kernel) rfl) pa_nil)))
      (pe_one (pe_not (pe_callB call_isi (by rfl) B.isinstance (by decide +kernel) (pa_cons (pv 0) (pa_cons (pe_bltn (v := .ty "bool") (by rfl) B.bool (by decide +kernel) rfl) pa_nil))))))), ?_⟩
    refine ⟨_, rfl, _, _, _, _, _, rfl, .ty _, .base (.int _), kit_ty (by decide +kernel), true, rfl, iteT ?_⟩
    exact ⟨_, rfl, _, _, _, _, _, rfl, .ty _, .base (.int _), kit_ty (by decide +kernel), false, rfl, hQ⟩
abbrev sStep : Stmt := top 53
abbrev nStep : List Str := ["_law_told_here", "_law_place", "_law_coins_here", "_law_stake", "_law_sign", "_law_steps_here", "_law_k", "_law_letter", "_law_pay", "_law_goal"]
theorem scStep : FnScope nStep ["_law_told_here", "_law_place", "_law_coins_here", "_law_stake", "_law_sign"] (defScope sStep) := ⟨rfl, rfl, rfl, by decide +kernel, rfl, by decide +kernel, by decide +kernel⟩
def spStep : Sp := fun vs H Q _ => ∃ (t q : Addr) (p : Nat) (c : Int) (T : Tk) (xs : List Int) (k : Nat) (st : Nat × Nat × Nat) (z : Int), vs = [.ref t, .int p, .int c, .ref q, .str (tx [st.1])] ∧ ToldAt H t T ∧ Wf T ∧ H q = some (.tup (xs.map V.int)) ∧ xs.length = (steps T p).length ∧
  (steps T p)[k]? = some st ∧ xs[k]? = some z ∧ ∀ H' u, Same H H' → H' u = some (.tup [.int (c - xs.sum + st.2.1 * z), .int st.2.2]) → Q (.ref u) H'
theorem ok_step (F : DefAt K mg "_law_step" sStep) (B : Bt mg) (D1 : Def P w K mg base CX0 1 "_law_steps" ["_law_told_here", "_law_place"] spSteps) : Def P w K mg base CX0 2 "_law_step" ["_law_told_here", "_law_place", "_law_coins_here", "_law_stake", "_law_sign"] spStep := by
  refine Def.of F scStep (fun _ _ _ _ _ _ us hl => match us, hl with | [_, _, _, _, _], _ => rfl) (fun vs H Q E h => ?_) (fun f cdv A outer s H vs Q E hr h => ?_)
  · obtain ⟨t, q, p, c, T, xs, k, st, z, rfl, _⟩ := h
    rfl
  · obtain ⟨t, q, p, c, T, xs, k, st, z, rfl, hT, W, hq, hlen, hst, hz, hQ⟩ := h
    refine ⟨_, pss_cons (ps_set (i := 5) scStep.nd rfl (Or.inl rfl) (pe_d D1 hr (by rfl) (pa_cons (pv 0) (pa_cons (pv 1) pa_nil))))
      (pss_cons (ps_for PassesOwn.never rfl (pi_range1 rfl B.range (pa_cons (pe_callB call_len_seq (by rfl) B.len PySem.boot_len (pa_cons (pv 5) pa_nil)) pa_nil)) (pg_name (i := 6) scStep.nd rfl (Or.inl rfl))
        (pss_cons (ps_asg (pe_ix ix_list (pv 5) (pv 6) (fun _ _ => rfl)) (pg_tup rfl (pgs_cons (pg_name (i := 7) scStep.nd rfl (Or.inl rfl)) (pgs_cons (pg_name (i := 8) scStep.nd rfl (Or.inl rfl)) (pgs_cons (pg_name (i := 9) scStep.nd rfl (Or.inl rfl)) pgs_nil)))))
        (pss_one (ps_if (pt_cmpR op_eq (pv 7) (pv 4) (nomark _)) (pss_one (ps_ret (pe_tup (pa_cons (pe_op op_add (pe_op op_sub (pv 2) (pe_callB (cr_sumT rfl) (by rfl) B.sum (by decide +kernel) (pa_cons (pv 3) pa_nil))) (pe_op op_mul (pv 8) (pe_ix ix_tup (pv 3) (pv 6) (fun _ _ => rfl)))) (pa_cons (pv 9) pa_nil))))) pss_nil))))
      (pss_one (ps_ret pe_non))), ?_⟩
    refine ⟨_, rfl, _, rfl, t, p, T, rfl, hT, W, fun H1 a us k1 ha0 ha hus => ?_⟩
    have hkl : k < (steps T p).length := (List.getElem?_eq_some_iff.mp hst).1
    have hl := steps_len W p
    refine ⟨_, rfl, a, _, rfl, .inl (SqL.of ha), (us.length : Int), rfl, by omega, by rw [hus.len]; omega, for_range (lo := 0) (n := ((us.length : Nat) : Int).toNat) (fun i σ H' => i ≤ k ∧ H' = H1 ∧ ∃ (v6 v7 v8 v9 : Option V), σ = [some (.ref t), some (.int p), some (.int c), some (.ref q), some (.str (tx [st.1])), some (.ref a), v6, v7, v8, v9])
      ⟨Nat.zero_le _, rfl, none, none, none, none, rfl⟩ ?_ ?_⟩
    · rintro i σ H2 hi ⟨hik, rfl, v6, v7, v8, v9, rfl⟩
      have hil : i < (steps T p).length := by omega
      obtain ⟨s2, hs2⟩ : ∃ s2, (steps T p)[i]? = some s2 := ⟨_, List.getElem?_eq_getElem hil⟩
      obtain ⟨u, hu1, hu2⟩ := hus.get hs2
      refine ⟨_, rfl, _, rfl, a, us, _, .ref u, rfl, rfl, SqL.of ha, at_of (j := i) (by omega) hu1, ?_⟩
      refine ⟨u, sV s2, rfl, SqT.of hu2, rfl, _, _, rfl, _, _, rfl, _, _, rfl, rfl, ?_⟩
      refine ⟨_, rfl, _, rfl, rfl, _, rfl, ?_⟩
      by_cases he : i = k
      · subst he
        rw [hst] at hs2
        cases hs2
        rw [show decide (V.str (tx [st.1]) = V.str (tx [st.1])) = true from decide_eq_true rfl]
        have hp9 := steps_pay W (List.mem_of_getElem? hst)
        refine iteT ⟨_, rfl, _, rfl, q, xs, rfl, SqT.of (k1 _ _ hq), _, _, rfl, rfl, _, rfl, _, rfl, _, rfl, q, _, _, .int z, rfl, rfl, SqT.of (k1 _ _ hq), at_of (j := i) (by omega) (by rw [List.getElem?_map, hz]; rfl), _, _, rfl, rfl, .inl ⟨by omega, by omega⟩, _, _, rfl, rfl, _, rfl, by show 2 ≤ sizeLine; decide, fun x hx => ?_⟩
        exact hQ _ x (k1.trans (Same.new hx)) upd_same
      · have hne : s2.1 ≠ st.1 := by
          have asc := List.pairwise_iff_getElem.mp (steps_asc W p) i k hil hkl (by omega)
          rw [(List.getElem?_eq_some_iff.mp hs2).2, (List.getElem?_eq_some_iff.mp hst).2] at asc
          omega
        rw [show decide (V.str (tx [s2.1]) = V.str (tx [st.1])) = false from decide_eq_false (fun y => hne (by have := tx_inj (V.str.inj y); simpa using this))]
        exact iteF ⟨by omega, rfl, _, _, _, _, rfl⟩
    · rintro σ H2 ⟨hik, _⟩
      rw [hus.len] at hik
      omega
end
end K81
set_option maxRecDepth 100000
set_option maxHeartbeats 16000000
/-! The bettor of the law. -/
namespace K81
open PySem PySem.Spec PyProof.Rows L2
/-- the number behind a text -/
def numM : Int → List Nat → Int
  | n, [] => n
  | n, c :: r => numM ((n * 31 + c) % 1000003) r
theorem numM_snoc (n : Int) (r : List Nat) (c : Nat) : numM n (r ++ [c]) = (numM n r * 31 + c) % 1000003 := by
  induction r generalizing n with
  | nil => rfl
  | cons a r ih => exact ih _
def stakeM (m : Nat) (n c : Int) : List Int :=
  if n % 5 = 0 then List.replicate m 0
  else if n % 5 = 1 then (List.range m).map fun (k : Nat) => if (k : Int) = n / 5 % (m : Int) then c else 0
  else if n % 5 = 2 then List.replicate m (c / (m : Int))
  else (List.range m).map fun (k : Nat) => n / (7 * (k : Int) + 3) % (c / (m : Int) + 1)
def betM (T : Tk) (p : Nat) (salt : Int) (r : List Nat) (c : Int) : List Int := match ledM T p r with
  | none => []
  | some g => stakeM (steps T g).length (numM (salt + 17 * (r.length : Int)) r) c
theorem stakeM_len (m : Nat) (n c : Int) : (stakeM m n c).length = m := by
  unfold stakeM
  split
  · simp
  · split
    · simp
    · split <;> simp
theorem sum_rep (m : Nat) (v : Int) : (List.replicate m v).sum = m * v := by
  induction m with
  | zero => simp
  | succ m ih => rw [List.replicate_succ, List.sum_cons, ih]; push_cast; rw [Int.add_mul]; omega
theorem sum_one (c a : Int) (hc : 0 ≤ c) : ∀ m : Nat, ((List.range m).map fun (k : Nat) => if (k : Int) = a then c else 0).sum ≤ c ∧ (a < 0 ∨ (m : Int) ≤ a → ((List.range m).map fun (k : Nat) => if (k : Int) = a then c else 0).sum = 0)
  | 0 => by simp [hc]
  | m + 1 => by
    obtain ⟨h1, h2⟩ := sum_one c a hc m
    rw [List.range_succ, List.map_append, List.sum_append]
    by_cases e : (m : Int) = a
    · have := h2 (.inr (by omega))
      rw [this]
      refine ⟨by simp [e], fun h => ?_⟩
      omega
    · refine ⟨by simp [e]; exact h1, fun h => ?_⟩
      rw [h2 (by omega)]
      simp [e]
theorem sum_le_mul {g : Nat → Int} {b : Int} (h : ∀ k, g k ≤ b) : ∀ m : Nat, ((List.range m).map g).sum ≤ m * b
  | 0 => by simp
  | m + 1 => by
    have ih := sum_le_mul h m
    rw [List.range_succ, List.map_append, List.sum_append]
    have := h m
    push_cast
    rw [Int.add_mul]
    simp
    omega
theorem stakeM_ok {m : Nat} {n c : Int} (hm : 1 ≤ m) (hc : 0 ≤ c) : (∀ z ∈ stakeM m n c, 0 ≤ z) ∧ (stakeM m n c).sum ≤ c := by
  have hm0 : (0 : Int) < m := by omega
  have hd : 0 ≤ c / (m : Int) := Int.ediv_nonneg hc (by omega)
  have hmul : (m : Int) * (c / (m : Int)) ≤ c := Int.mul_ediv_self_le (by omega)
  unfold stakeM
  split
  · refine ⟨fun z hz => ?_, ?_⟩
    · rw [(List.mem_replicate.mp hz).2]; exact Int.le_refl _
    · rw [sum_rep]; simpa using hc
  · split
    · refine ⟨fun z hz => ?_, (sum_one c _ hc m).1⟩
      obtain ⟨k, _, e⟩ := List.mem_map.mp hz
      rw [← e]
      split
      · exact hc
      · exact Int.le_refl _
    · split
      · refine ⟨fun z hz => ?_, ?_⟩
        · rw [(List.mem_replicate.mp hz).2]; exact hd
        · rw [sum_rep]; exact hmul
      · refine ⟨fun z hz => ?_, ?_⟩
        · obtain ⟨k, _, e⟩ := List.mem_map.mp hz
          rw [← e]
          exact Int.emod_nonneg _ (by omega)
        · refine Int.le_trans (sum_le_mul (b := c / (m : Int)) (fun k => ?_) m) hmul
          have := Int.emod_lt_of_pos (n / (7 * (k : Int) + 3)) (b := c / (m : Int) + 1) (by omega)
          omega
theorem bet_ok {T : Tk} (W : Wf T) {p : Nat} (hp : p < T.n) (salt : Int) : BfOk T p fun r c => some (betM T p salt r c) := fun r c g xs hl hc e => by
  have e1 : betM T p salt r c = xs := Option.some.inj e
  unfold betM at e1
  rw [hl] at e1
  have e1 : stakeM (steps T g).length (numM (salt + 17 * (r.length : Int)) r) c = xs := e1
  have hg := led_goal W hp hl
  have ok := stakeM_ok (n := numM (salt + 17 * (r.length : Int)) r) (steps_pos W hg) hc
  rw [e1] at ok
  exact ⟨by rw [← e1, stakeM_len], ok.1, ok.2⟩
theorem occ_one {c : Nat} (h : c < 26) : Builtin.Str.occurrences "abcdefghijklmnopqrstuvwxyz" (tx [c]) 0 ("abcdefghijklmnopqrstuvwxyz" : Str).length 1 = [c] := by
  have : ∀ c : Fin 26, Builtin.Str.occurrences "abcdefghijklmnopqrstuvwxyz" (tx [c.val]) 0 ("abcdefghijklmnopqrstuvwxyz" : Str).length 1 = [c.val] := by decide +kernel
  exact this ⟨c, h⟩
section
variable {P : Program} {w : World} {K : PySem.W.Frag} {mg : Str → Option Value} {base : Heap}
abbrev sLBet : Stmt := top 54
abbrev nLBet : List Str := ["_law_told_here", "_law_start", "_law_salt", "_law_text", "_law_coins_here", "_law_place", "_law_many_here", "_law_number", "_law_letter", "_law_way", "_law_at", "_law_k"]
theorem scLBet : FnScope nLBet ["_law_told_here", "_law_start", "_law_salt", "_law_text", "_law_coins_here"] (defScope sLBet) := ⟨rfl, rfl, rfl, by decide +kernel, rfl, by decide +kernel, by decide +kernel⟩
def spLBet : Sp := fun vs H Q _ => ∃ (t : Addr) (p g : Nat) (salt c : Int) (r : List Nat) (T : Tk), vs = [.ref t, .int p, .int salt, .str (tx r), .int c] ∧ ToldAt H t T ∧ Wf T ∧ p < T.n ∧ ledM T p r = some g ∧ 0 ≤ c ∧ r.length ≤ 200 ∧ ∀ H' q, Same H H' → H' q = some (.tup ((betM T p salt r c).map V.int)) → Q (.ref q) H'
theorem ok_lbet (F : DefAt K mg "_law_bet" sLBet) (B : Bt mg) (D1 : Def P w K mg base CX0 1 "_law_steps" ["_law_told_here", "_law_place"] spSteps) (D2 : Def P w K mg base CX0 2 "_law_led" ["_law_told_here", "_law_place", "_law_text"] spLed) :
    Def P w K mg base CX0 3 "_law_bet" ["_law_told_here", "_law_start", "_law_salt", "_law_text", "_law_coins_here"] spLBet := by
  refine Def.of F scLBet (fun _ _ _ _ _ _ us hl => match us, hl with | [_, _, _, _, _], _ => rfl) (fun vs H Q E h => ?_) (fun f cdv A outer s H vs Q E hr h => ?_)
  · obtain ⟨t, p, g, salt, c, r, T, rfl, _⟩ := h
    rfl
  · obtain ⟨t, p, g, salt, c, r, T, rfl, hT, W, hp, hled, hc, h200, hQ⟩ := h
    have hr1 : Room 1 _ := hr.mono (by decide)
    refine ⟨_, pss_cons (ps_set (i := 5) scLBet.nd rfl (Or.inl rfl) (pe_d D2 hr (by rfl) (pa_cons (pv 0) (pa_cons (pv 1) (pa_cons (pv 3) pa_nil)))))
      (pss_cons (ps_set (i := 6) scLBet.nd rfl (Or.inr rfl) (pe_callB call_len_seq (by rfl) B.len PySem.boot_len (pa_cons (pe_d D1 hr1 (by rfl) (pa_cons (pv 0) (pa_cons (pv 5) pa_nil))) pa_nil)))
      (pss_cons (ps_set (i := 7) scLBet.nd rfl (Or.inr rfl) (pe_op op_add (pv 2) (pe_op op_mul pe_int (pe_callB call_len_str (by rfl) B.len PySem.boot_len (pa_cons (pv 3) pa_nil)))))
      (pss_cons (ps_for PassesOwn.never rfl (pi_str (pv 3)) (pg_name (i := 8) scLBet.nd rfl (Or.inl rfl))
        (pss_one (ps_set (i := 7) scLBet.nd rfl (Or.inr rfl) (pe_op op_mod (pe_callTy call_int1 (by rfl) B.int (by decide +kernel) (pa_cons (pe_op op_add (pe_op op_mul (pv 7) pe_int) (pe_bm PySem.F.plainAttrs_str PySem.F.slot_str_index PySem.F.type_str_index mt_sindex pe_str (pa_cons (pv 8) pa_nil))) pa_nil)) pe_int))))
      (pss_cons (ps_set (i := 9) scLBet.nd rfl (Or.inl rfl) (pe_op op_mod (pe_callTy call_int1 (by rfl) B.int (by decide +kernel) (pa_cons (pv 7) pa_nil)) pe_int))
      (pss_cons (ps_set (i := 10) scLBet.nd rfl (Or.inr rfl) (pe_op op_mod (pe_callTy call_int1 (by rfl) B.int (by decide +kernel) (pa_cons (pe_op op_fdiv (pv 7) pe_int) pa_nil)) (pv 6)))
      (pss_cons (ps_if (pt_cmpR op_eq (pv 9) pe_int (nomark _)) (pss_one (ps_ret (pe_op op_repA (pe_tup (pa_cons pe_int pa_nil)) (pv 6)))) pss_nil)
      (pss_cons (ps_if (pt_cmpR op_eq (pv 9) pe_int (nomark _)) (pss_one (ps_ret (pe_callTy call_tuple_of (by rfl) B.tuple (by decide +kernel) (pa_cons (pe_lc (own := [("_law_k", 11)]) (g := gName 11) (tt := tYes) rfl scLBet.nd (pi_range1 rfl B.range (pa_cons (pv 6) pa_nil)) (blkOk_by (N := nLBet) (sc := defScope sLBet) (by decide +kernel))
          (fun _ _ _ _ _ => pg_name (i := 11) scLBet.nd rfl (Or.inl rfl)) (fun _ _ _ _ _ => pts_nil) (fun _ _ _ _ _ => pe_ifExp (pt_cmpR op_eq (pv 11) (pv 10) (nomark _)) (pv 4) pe_int)) pa_nil)))) pss_nil)
      (pss_cons (ps_if (pt_cmpR op_eq (pv 9) pe_int (nomark _)) (pss_one (ps_ret (pe_op op_repA (pe_tup (pa_cons (pe_op op_fdiv (pv 4) (pv 6)) pa_nil)) (pv 6)))) pss_nil)
      (pss_one (ps_ret (pe_callTy call_tuple_of (by rfl) B.tuple (by decide +kernel) (pa_cons (pe_lc (own := [("_law_k", 11)]) (g := gName 11) (tt := tYes) rfl scLBet.nd (pi_range1 rfl B.range (pa_cons (pv 6) pa_nil)) (blkOk_by (N := nLBet) (sc := defScope sLBet) (by decide +kernel))
          (fun _ _ _ _ _ => pg_name (i := 11) scLBet.nd rfl (Or.inl rfl)) (fun _ _ _ _ _ => pts_nil)
          (fun _ _ _ _ _ => pe_op op_mod (pe_callTy call_int1 (by rfl) B.int (by decide +kernel) (pa_cons (pe_op op_fdiv (pv 7) (pe_op op_add (pe_op op_mul pe_int (pv 11)) pe_int)) pa_nil)) (pe_op op_add (pe_op op_fdiv (pv 4) (pv 6)) pe_int))) pa_nil)))))))))))), ?_⟩
    refine ⟨_, rfl, _, rfl, _, rfl, t, p, g, r, T, rfl, hT, W, hled, fun H1 k1 => ?_⟩
    refine ⟨_, rfl, _, rfl, t, g, T, rfl, hT.same k1, W, fun H2 l us k2 hl0 hl hus => ⟨l, _, rfl, .inl (SqL.of hl), ?_⟩⟩
    have hg := led_goal W hp hled
    have m1 := steps_pos W hg
    have m60 := steps_len W g
    have eb : betM T p salt r c = stakeM (steps T g).length (numM (salt + 17 * (r.length : Int)) r) c := by
      unfold betM
      rw [hled]
    rw [eb] at hQ
    rw [hus.len]
    generalize (steps T g).length = m at m1 m60 hQ
    have k12 := k1.trans k2
    refine ⟨_, rfl, _, rfl, tx r, rfl, by rw [tx_len, sizeLine_eq]; omega, _, _, rfl, rfl, .inl ⟨by omega, by omega⟩, _, _, rfl, rfl, ?_⟩
    refine ⟨_, rfl, tx r, rfl, for_tx (r := r) (fun i σ H' => ∃ v8 : Option V, σ = [some (.ref t), some (.int p), some (.int salt), some (.str (tx r)), some (.int c), some (.int g), some (.int m), some (.int (numM (salt + 17 * (((tx r).length : Nat) : Int)) (r.take i))), v8, none, none, none] ∧ H' = H2) ⟨none, rfl, rfl⟩ ?_ ?_⟩
    · rintro i ch σ H3 hch ⟨v8, rfl, rfl⟩
      have h26 := led_letters W hled ch (List.mem_of_getElem? hch)
      refine ⟨_, rfl, _, _, rfl, rfl, .inr ⟨by omega, by omega⟩, rfl, _, rfl, _, tx [ch], ch, [], rfl, rfl, occ_one h26, _, _, rfl, rfl, .inl ⟨_, rfl, _, _, rfl, rfl, by omega, ?_⟩⟩
      refine ⟨some (.str (tx [ch])), ?_, rfl⟩
      rw [take_snoc hch, numM_snoc]
      rfl
    · rintro σ H3 ⟨v8, rfl, rfl⟩
      rw [List.take_length, tx_len]
      generalize numM (salt + 17 * (r.length : Int)) r = n at hQ
      refine ⟨_, rfl, .inl ⟨_, rfl, _, _, rfl, rfl, by omega, ?_⟩⟩
      refine ⟨_, rfl, _, _, rfl, rfl, ⟨by omega, by omega⟩, .inl ⟨_, rfl, _, rfl, _, _, rfl, rfl, by omega, ?_⟩⟩
      refine ⟨_, rfl, rfl, _, rfl, ?_⟩
      by_cases w0 : n % 5 = 0
      · rw [show decide (V.int (n % 5) = V.int 0) = true from decide_eq_true (by rw [w0])]
        refine iteT ⟨by show 1 ≤ sizeLine; decide, fun u hu => ⟨_, rfl, u, (m : Int), _, rfl, rfl, upd_same, by simp, by omega, by omega, by show 1 ≤ 1000; omega, fun q H4 k4 hq => ?_⟩⟩
        refine hQ H4 q ((k12.trans (Same.new hu)).trans k4) ?_
        rw [hq]
        unfold stakeM
        rw [if_pos w0, Int.toNat_natCast, List.map_replicate]
        simp
      rw [show decide (V.int (n % 5) = V.int 0) = false from decide_eq_false (fun z => w0 (V.int.inj z))]
      refine iteF ?_
      refine ⟨_, rfl, rfl, _, rfl, ?_⟩
      by_cases w1 : n % 5 = 1
      · rw [show decide (V.int (n % 5) = V.int 1) = true from decide_eq_true (by rw [w1])]
        refine iteT ?_
        refine ⟨_, rfl, (m : Int), rfl, by omega, by omega, fun D hD => ?_⟩
        refine lc_range (lo := 0) (n := (m : Int).toNat) (fun i H' => H' = upd H3 D (.lst ((List.range i).map fun (k : Nat) => V.int (if (k : Int) = n / 5 % (m : Int) then c else 0)))) rfl (fun i H' hi e => ?_) (fun H' e => ?_)
        · subst e
          refine ⟨rfl, _, rfl, _, rfl, rfl, _, rfl, ?_⟩
          have fin : ∀ v : Int, v = (if (i : Int) = n / 5 % (m : Int) then c else 0) → ∃ acc, upd H3 D (.lst ((List.range i).map fun (k : Nat) => V.int (if (k : Int) = n / 5 % (m : Int) then c else 0))) D = some (.lst acc) ∧ acc.length < sizeLine ∧
              upd (upd H3 D (.lst ((List.range i).map fun (k : Nat) => V.int (if (k : Int) = n / 5 % (m : Int) then c else 0)))) D (.lst (acc ++ [.int v])) = upd H3 D (.lst ((List.range (i + 1)).map fun (k : Nat) => V.int (if (k : Int) = n / 5 % (m : Int) then c else 0))) := fun v e => by
            refine ⟨_, upd_same, by rw [List.length_map, List.length_range, sizeLine_eq]; omega, ?_⟩
            rw [upd_upd, List.range_succ, List.map_append, e]
            rfl
          by_cases wa : (i : Int) = n / 5 % (m : Int)
          · rw [show decide (V.int (0 + (i : Int)) = V.int (n / 5 % (m : Int))) = true from decide_eq_true (by rw [Int.zero_add, wa])]
            exact iteT ⟨_, rfl, fin c (by rw [if_pos wa])⟩
          · rw [show decide (V.int (0 + (i : Int)) = V.int (n / 5 % (m : Int))) = false from decide_eq_false (fun z => wa (by have := V.int.inj z; omega))]
            exact iteF (fin 0 (by rw [if_neg wa]))
        · subst e
          rw [Int.toNat_natCast]
          refine ⟨D, _, rfl, .inl ⟨SqL.of upd_same, fun q hq => ?_⟩⟩
          refine hQ _ q ((k12.trans (Same.new hD)).trans (Same.new hq)) ?_
          rw [upd_same]
          unfold stakeM
          rw [if_neg w0, if_pos w1, List.map_map]
          rfl
      rw [show decide (V.int (n % 5) = V.int 1) = false from decide_eq_false (fun z => w1 (V.int.inj z))]
      refine iteF ?_
      refine ⟨_, rfl, rfl, _, rfl, ?_⟩
      by_cases w2 : n % 5 = 2
      · rw [show decide (V.int (n % 5) = V.int 2) = true from decide_eq_true (by rw [w2])]
        refine iteT ⟨_, rfl, _, rfl, _, _, rfl, rfl, ⟨by omega, by omega⟩, by show 1 ≤ sizeLine; decide, fun u hu => ⟨_, rfl, u, (m : Int), _, rfl, rfl, upd_same, by simp, by omega, by omega, by show 1 ≤ 1000; omega, fun q H4 k4 hq => ?_⟩⟩
        refine hQ H4 q ((k12.trans (Same.new hu)).trans k4) ?_
        rw [hq]
        unfold stakeM
        rw [if_neg w0, if_neg w1, if_pos w2, Int.toNat_natCast, List.map_replicate]
        simp
      rw [show decide (V.int (n % 5) = V.int 2) = false from decide_eq_false (fun z => w2 (V.int.inj z))]
      refine iteF ?_
      refine ⟨_, rfl, (m : Int), rfl, by omega, by omega, fun D hD => ?_⟩
      have hd : 0 ≤ c / (m : Int) := Int.ediv_nonneg hc (by omega)
      refine lc_range (lo := 0) (n := (m : Int).toNat) (fun i H' => H' = upd H3 D (.lst ((List.range i).map fun (k : Nat) => V.int (n / (7 * (k : Int) + 3) % (c / (m : Int) + 1))))) rfl (fun i H' hi e => ?_) (fun H' e => ?_)
      · subst e
        refine ⟨rfl, _, rfl, _, rfl, _, _, rfl, rfl, .inl ⟨by omega, by omega⟩, _, _, rfl, rfl, _, _, rfl, rfl, ⟨by omega, by omega⟩, .inl ⟨_, rfl, _, rfl, _, rfl, _, _, rfl, rfl, ⟨by omega, by omega⟩, _, _, rfl, rfl, _, _, rfl, rfl, by show 0 < c / (m : Int) + 1; omega, ?_⟩⟩
        refine ⟨_, upd_same, by rw [List.length_map, List.length_range, sizeLine_eq]; omega, ?_⟩
        rw [upd_upd, List.range_succ, List.map_append, Int.zero_add]
        rfl
      · subst e
        rw [Int.toNat_natCast]
        refine ⟨D, _, rfl, .inl ⟨SqL.of upd_same, fun q hq => ?_⟩⟩
        refine hQ _ q ((k12.trans (Same.new hD)).trans (Same.new hq)) ?_
        rw [upd_same]
        unfold stakeM
        rw [if_neg w0, if_neg w1, if_neg w2, List.map_map]
        rfl
end
end K81
set_option maxRecDepth 100000
set_option maxHeartbeats 16000000
/-! Coins; wide tracks. -/
namespace K81
open PySem PySem.Spec PyProof.Rows L2
theorem TrackAt.pd {CC : Addr → Prop} {H H' : Hp} {p l x : Addr} {T : Tk} (h : TrackAt CC (fun b => ¬ PD p l b) H x T) (P : PoolAt H p l) (k : Kp (PD p l) H H') : TrackAt CC (fun b => ¬ PD p l b) H' x T := h.kp k (fun _ n => n) fun _ _ e no => notPDo P e no
section
variable {P : Program} {w : World} {K : PySem.W.Frag} {mg : Str → Option Value} {base : Heap}
abbrev sCoins : Stmt := top 55
theorem scCoins : FnScope ["_law_pool_here"] ["_law_pool_here"] (defScope sCoins) := ⟨rfl, rfl, rfl, by decide +kernel, rfl, by decide +kernel, by decide +kernel⟩
def spCoins : Sp := fun vs H Q _ => ∃ (p l : Addr), vs = [.ref p] ∧ PoolAt H p l ∧ ∀ (c : Int) H', 0 ≤ c → Kp (PD p l) H H' → PoolAt H' p l → Q (.int c) H'
theorem ok_coins (F : DefAt K mg "_law_coins" sCoins) (D0 : Def P w K mg base CX0 1 "_law_draw" ["_law_pool_here", "_law_many_here"] spDraw) : Def P w K mg base CX0 2 "_law_coins" ["_law_pool_here"] spCoins := by
  refine Def.of F scCoins (fun _ _ _ _ _ _ us hl => match us, hl with | [_], _ => rfl) (fun vs H Q E h => ?_) (fun f cdv A outer s H vs Q E hr h => ?_)
  · obtain ⟨p, l, rfl, _⟩ := h
    rfl
  · obtain ⟨p, l, rfl, hP, hQ⟩ := h
    refine ⟨_, pss_one (ps_ret (pe_ix ix_list (pe_lst (pa_cons (pe_d D0 hr (by rfl) (pa_cons (pv 0) (pa_cons pe_int pa_nil))) (pa_cons (pe_d D0 hr (by rfl) (pa_cons (pv 0) (pa_cons pe_int pa_nil))) (pa_cons (pe_d D0 hr (by rfl) (pa_cons (pv 0) (pa_cons pe_int pa_nil))) (pa_cons (pe_op op_pow pe_int pe_int) pa_nil)))))
      (pe_d D0 hr (by rfl) (pa_cons (pv 0) (pa_cons pe_int pa_nil))) (fun _ _ => rfl))), ?_⟩
    refine ⟨_, rfl, p, l, 4, rfl, hP, by omega, by omega, fun d1 H1 a1 b1 k1 P1 => ?_⟩
    refine ⟨_, rfl, p, l, 30, rfl, P1, by omega, by omega, fun d2 H2 a2 b2 k2 P2 => ?_⟩
    refine ⟨_, rfl, p, l, 200, rfl, P2, by omega, by omega, fun d3 H3 a3 b3 k3 P3 => ?_⟩
    refine ⟨_, _, rfl, rfl, ⟨by omega, by omega, by decide⟩, by show 4 ≤ sizeLine; decide, fun a ha => ?_⟩
    have P4 := P3.same (Same.new (o := .lst [.int d1, .int d2, .int d3, .int ((10 : Int) ^ (30 : Int).toNat)]) ha)
    refine ⟨_, rfl, p, l, 4, rfl, P4, by omega, by omega, fun d H5 a5 b5 k5 P5 => ?_⟩
    obtain ⟨d, rfl⟩ := Int.eq_ofNat_of_zero_le a5
    have ha5 := k5 _ _ upd_same (notPD P3 ha)
    obtain ⟨c, hc, h0⟩ : ∃ c : Int, ([.int d1, .int d2, .int d3, .int ((10 : Int) ^ (30 : Int).toNat)] : List V)[d]? = some (.int c) ∧ 0 ≤ c := by
      have h4 : d < 4 := by omega
      match d, h4 with
      | 0, _ => exact ⟨d1, rfl, a1⟩
      | 1, _ => exact ⟨d2, rfl, a2⟩
      | 2, _ => exact ⟨d3, rfl, a3⟩
      | 3, _ => exact ⟨_, rfl, by decide⟩
    exact ⟨a, _, _, .int c, rfl, rfl, SqL.of ha5, at_of (j := d) rfl hc, hQ c H5 h0 (((k1.trans k2).trans k3).trans ((Kp.of (Same.new ha)).trans k5)) P5⟩
abbrev sWide : Stmt := top 56
abbrev nWide : List Str := ["_law_pool_here", "_law_base", "_law_told_here", "_law_track_here", "_law_turn", "_law_size", "_law_more", "_law_place", "_law_letter", "_law_pay", "_law_goal"]
theorem scWide : FnScope nWide ["_law_pool_here"] (defScope sWide) := ⟨rfl, rfl, rfl, by decide +kernel, rfl, by decide +kernel, by decide +kernel⟩
def spWide (K : PySem.W.Frag) : Sp := fun vs H Q _ => ∃ (p l : Addr), vs = [.ref p] ∧ PoolAt H p l ∧ ∀ (q t x : Addr) (T : Tk) H', Kp (PD p l) H H' → PoolAt H' p l → H' q = some (.tup [.ref t, .ref x]) → ToldAt H' t T → Wf T → TrackAt (TC K) (fun b => ¬ PD p l b) H' x T → Q (.ref q) H'
theorem ok_wide (F : DefAt K mg "_law_wide" sWide) (B : Bt mg) (D0 : Def P w K mg base CX0 3 "_law_told" ["_law_pool_here", "_law_few"] spTold) (D1 : Def P w K mg base CX0 7 "_law_track" ["_law_told_here"] (spLTrack K)) (D2 : Def P w K mg base CX0 5 "side" ["one", "other"] (spSide K)) :
    Def P w K mg base CX0 8 "_law_wide" ["_law_pool_here"] (spWide K) := by
  refine Def.of F scWide (fun _ _ _ _ _ _ us hl => match us, hl with | [_], _ => rfl) (fun vs H Q E h => ?_) (fun f cdv A outer s H vs Q E hr h => ?_)
  · obtain ⟨p, l, rfl, _⟩ := h
    rfl
  · obtain ⟨p, l, rfl, hP, hQ⟩ := h
    have hr3 : Room 3 _ := hr.mono (by decide)
    have hr5 : Room 5 _ := hr.mono (by decide)
    refine ⟨_, pss_cons (ps_set (i := 1) scWide.nd rfl (Or.inl rfl) (pe_d D0 hr3 (by rfl) (pa_cons (pv 0) (pa_cons pe_int pa_nil))))
      (pss_cons (ps_set (i := 2) scWide.nd rfl (Or.inl rfl) (pv 1))
      (pss_cons (ps_set (i := 3) scWide.nd rfl (Or.inl rfl) (pe_d D1 hr (by rfl) (pa_cons (pv 1) pa_nil)))
      (pss_cons (ps_for PassesOwn.never rfl (pi_range1 rfl B.range (pa_cons pe_int pa_nil)) (pg_name (i := 4) scWide.nd rfl (Or.inl rfl))
        (pss_one (ps_if (pt_cmpR op_lt (pe_ix ix_tup (pv 2) pe_int (fun _ _ => rfl)) pe_int (nomark _))
          (pss_cons (ps_set (i := 5) scWide.nd rfl (Or.inr rfl) (pe_ix ix_tup (pv 2) pe_int (fun _ _ => rfl)))
          (pss_cons (ps_set (i := 3) scWide.nd rfl (Or.inl rfl) (pe_d D2 hr5 (by rfl) (pa_cons (pv 3) (pa_cons (pe_d D1 hr (by rfl) (pa_cons (pv 1) pa_nil)) pa_nil))))
          (pss_cons (ps_setLc (i := 6) (own := [("_law_place", 7), ("_law_letter", 8), ("_law_pay", 9), ("_law_goal", 10)]) (g := gTup K 4 (gCons (gName 7) (gCons (gName 8) (gCons (gName 9) (gCons (gName 10) gNil))))) (tt := tYes) rfl scWide.nd rfl rfl (sw_true rfl rfl rfl (by decide +kernel)) (pi_tup (pe_ix ix_tup (pv 1) pe_int (fun _ _ => rfl))) (blkOk_by (N := nWide) (sc := defScope sWide) (by decide +kernel))
              (fun _ _ _ _ _ => pg_tup rfl (pgs_cons (pg_name (i := 7) scWide.nd rfl (Or.inl rfl)) (pgs_cons (pg_name (i := 8) scWide.nd rfl (Or.inl rfl)) (pgs_cons (pg_name (i := 9) scWide.nd rfl (Or.inl rfl)) (pgs_cons (pg_name (i := 10) scWide.nd rfl (Or.inl rfl)) pgs_nil)))))
              (fun _ _ _ _ _ => pts_nil)
              (fun _ _ _ _ _ => pe_tup (pa_cons (pe_op op_add (pv 7) (pv 5)) (pa_cons (pv 8) (pa_cons (pv 9) (pa_cons (pe_op op_add (pv 10) (pv 5)) pa_nil))))))
          (pss_one (ps_set (i := 2) scWide.nd rfl (Or.inl rfl) (pe_tup (pa_cons (pe_op op_add (pv 5) (pe_ix ix_tup (pv 1) pe_int (fun _ _ => rfl))) (pa_cons (pe_op op_catT (pe_ix ix_tup (pv 2) pe_int (fun _ _ => rfl)) (pe_callTy call_tuple_of (by rfl) B.tuple (by decide +kernel) (pa_cons (pv 6) pa_nil))) pa_nil))))))))
          pss_nil)))
      (pss_one (ps_ret (pe_tup (pa_cons (pv 2) (pa_cons (pv 3) pa_nil)))))))), ?_⟩
    refine ⟨_, rfl, p, l, 2, rfl, hP, by omega, by omega, fun tb U H1 k1 P1 hU WU u2 u4 => ?_⟩
    refine ⟨_, rfl, _, rfl, tb, U, rfl, hU, WU, by omega, fun H2 x k2 hx => ?_⟩
    have hx2 : TrackAt (TC K) (fun b => ¬ PD p l b) H2 x U := hx.weak fun b o _ e => notPD P1 e
    refine ⟨12, rfl, by omega, by omega, for_range (lo := 0) (n := (12 : Int).toNat) (fun i σ H' => ∃ (t x : Addr) (T : Tk) (v4 v5 v6 : Option V), σ = [some (.ref p), some (.ref tb), some (.ref t), some (.ref x), v4, v5, v6, none, none, none, none] ∧
        Kp (PD p l) H H' ∧ PoolAt H' p l ∧ ToldAt H' tb U ∧ ToldAt H' t T ∧ Wf T ∧ T.arr.length ≤ 4 * T.n ∧ TrackAt (TC K) (fun b => ¬ PD p l b) H' x T)
      ⟨tb, x, U, none, none, none, rfl, k1.trans (Kp.of k2), P1.same k2, hU.same k2, hU.same k2, WU, u4, hx2⟩ ?_ ?_⟩
    · rintro i σ H3 hi ⟨t, x, T, v4, v5, v6, rfl, k3, P3, hU, hT, W, t4, hx⟩
      obtain ⟨ta, as, a1, a2, a3⟩ := hT.ex
      obtain ⟨ua, us, b1, b2, b3⟩ := hU.ex
      refine ⟨_, rfl, t, _, 0, .int T.n, rfl, rfl, SqT.of a1, at_of (j := 0) rfl rfl, _, _, rfl, rfl, _, rfl, ifB (fun hlt => ?_) (fun _ => ⟨t, x, T, _, _, _, rfl, k3, P3, hU, hT, W, t4, hx⟩)⟩
      have h13 : T.n < 13 := by have := of_decide_eq_true hlt; omega
      have hn : T.n + U.n ≤ 14 := by omega
      have h60 : T.arr.length + U.arr.length ≤ 60 := by omega
      refine ⟨_, rfl, t, _, 0, .int T.n, rfl, rfl, SqT.of a1, at_of (j := 0) rfl rfl, ?_⟩
      refine ⟨_, rfl, _, rfl, tb, U, rfl, hU, WU, by omega, fun H4 y k4 hy => ?_⟩
      refine ⟨x, y, _, _, T, U, rfl, hx.same k4, hy, W, WU, hn, h60, fun H5 z k5 hz => ?_⟩
      have k45 := k4.trans k5
      have P4 := P3.same k4
      have hz2 : TrackAt (TC K) (fun b => ¬ PD p l b) H5 z (sideM T U) := hz.weak fun b o _ e => notPD P4 e
      refine ⟨_, rfl, tb, _, 1, .ref ua, rfl, rfl, SqT.of (k45 _ _ b1), at_of (j := 1) rfl rfl, ua, rfl, ⟨_, SqT.of (k45 _ _ b2)⟩, fun D hD => ?_⟩
      have d4 := b3
      refine lc_tup (K := K) (a := ua) (xs := us) (fun i H' => Same H5 H' ∧ ∃ ms, H' D = some (.lst ms) ∧ TupsP H' aV ms (moved T.n (U.arr.take i))) ⟨Same.new hD, [], upd_same, .nil⟩ (fun i H' _ ⟨e, _⟩ => SqT.of (e _ _ (k45 _ _ b2))) (fun i v H' hy ⟨k2, ms, hd, hm⟩ => ?_) (fun H6 ⟨k6, ms, hd, hm⟩ => ?_)
      · obtain ⟨a, q, ha, rfl, hq⟩ := d4.get' hy
        have hq2 : H' q = some (.tup (aV a)) := k2 _ _ (k45 _ _ hq)
        have et := take_snoc ha
        have hl : ms.length < sizeLine := by
          rw [hm.len]
          unfold moved
          rw [List.length_map, sizeLine_eq]
          have := List.length_take_le' i U.arr
          omega
        refine ⟨q, aV a, rfl, SqT.of hq2, rfl, _, _, rfl, _, _, rfl, _, _, rfl, _, _, rfl, rfl, rfl, ?_⟩
        refine ⟨_, rfl, _, rfl, _, _, rfl, rfl, _, rfl, _, rfl, _, rfl, _, rfl, _, _, rfl, rfl, (by show 4 ≤ sizeLine; decide), fun t ht => ?_⟩
        have ntD : D ≠ t := ne_of_none hd ht
        refine ⟨ms, by rw [upd_ne ntD]; exact hd, hl, Same.put (k2.trans (Same.new ht)) hD, _, upd_same, ?_⟩
        rw [et]
        unfold moved at hm ⊢
        rw [List.map_append]
        refine pd_app (TupsP.mono hm fun b xs e => ?_) (.cons ⟨t, rfl, ?_⟩ .nil)
        · rw [upd_ne (ne_of e hd (fun z => by cases z)), upd_ne (ne_of_none e ht)]
          exact e
        · rw [upd_ne ntD.symm, upd_same]
          show some (HO.tup [V.int ((a.1 : Int) + (T.n : Int)), _, _, V.int ((a.2.2.2 : Int) + (T.n : Int))]) = some (HO.tup [V.int ((a.1 + T.n : Nat) : Int), _, _, V.int ((a.2.2.2 + T.n : Nat) : Int)])
          rw [Int.natCast_add, Int.natCast_add]
      · rw [d4.len, List.take_length] at hm
        have k46 := k45.trans k6
        refine ⟨_, rfl, _, rfl, tb, _, 0, .int U.n, rfl, rfl, SqT.of (k46 _ _ b1), at_of (j := 0) rfl rfl, _, _, rfl, rfl, ?_⟩
        refine ⟨_, rfl, t, _, 1, .ref ta, rfl, rfl, SqT.of (k46 _ _ a1), at_of (j := 1) rfl rfl, ?_⟩
        refine ⟨_, rfl, D, ms, rfl, .inl ⟨SqL.of hd, fun e he => ?_⟩⟩
        have hml : ms.length = U.arr.length := by
          have := TupsP.len hm
          unfold moved at this
          rw [List.length_map] at this
          exact this
        have u1 := WU.ne
        have w1 := W.ne
        have hal := a3.len
        have k47 := k46.trans (Same.new (o := .tup ms) he)
        refine ⟨ta, e, as, ms, rfl, rfl, SqT.of (k47 _ _ a2), SqT.of upd_same, fun z => by rw [z] at hal; simp at hal; omega, by rw [hal, hml, sizeLine_eq]; omega, fun z => by rw [z] at hml; simp at hml; omega, fun _ f hf => ?_⟩
        refine ⟨by show 2 ≤ sizeLine; decide, fun g hg => ?_⟩
        have k67 := ((Same.new (o := .tup ms) he).trans (Same.new (o := .tup (as ++ ms)) hf)).trans (Same.new (o := .tup [.int ((T.n : Int) + (U.n : Int)), .ref f]) hg)
        have k48 := k46.trans k67
        refine ⟨g, z, sideM T U, _, _, _, rfl, k3.trans (Kp.of k48), P3.same k48, hU.same k48, ⟨f, as ++ ms, ?_, Same.new hg _ _ upd_same, pd_app (a3.same k48) (TupsP.same hm k67)⟩, side_wf W WU hn h60, ?_, (hz2.same k6).same k67⟩
        · rw [upd_same]
          show some (HO.tup [V.int ((T.n : Int) + (U.n : Int)), V.ref f]) = some (HO.tup [V.int ((T.n + U.n : Nat) : Int), V.ref f])
          rw [Int.natCast_add]
        · show (T.arr ++ moved T.n U.arr).length ≤ 4 * (T.n + U.n)
          unfold moved
          rw [List.length_append, List.length_map]
          omega
    · rintro σ H3 ⟨t, x, T, v4, v5, v6, rfl, k3, P3, hU, hT, W, t4, hx⟩
      refine ⟨_, rfl, _, rfl, by show 2 ≤ sizeLine; decide, fun q hq => ?_⟩
      have kq := Same.new (o := .tup [.ref t, .ref x]) hq
      exact hQ q t x T _ (k3.trans (Kp.of kq)) (P3.same kq) upd_same (hT.same kq) W (hx.same kq)
end
end K81
set_option maxRecDepth 100000
set_option maxHeartbeats 16000000
/-! The law's own rows and counts. -/
namespace K81
open PySem PySem.Spec PyProof.Rows L2
theorem behind_at {T : Tk} {p j : Nat} {c : Int} {xs : List Int} {st : Nat × Nat × Nat} {z : Int} (h1 : (steps T p)[j]? = some st) (h2 : xs[j]? = some z) : (behindM T p c xs)[j]? = some (st.1, c - xs.sum + st.2.1 * z, st.2.2) := by
  unfold behindM
  rw [List.getElem?_map, (List.getElem?_zip_eq_some (z := (st, z))).mpr ⟨h1, h2⟩]
  rfl
section
variable {P : Program} {w : World} {K : PySem.W.Frag} {mg : Str → Option Value} {base : Heap}
abbrev sEnds : Stmt := top 57
abbrev nEnds : List Str := ["_law_told_here", "_law_place", "_law_coins_here", "_law_salt", "_law_length", "_law_found", "_law_turn", "_law_longer", "_law_have", "_law_text", "_law_here", "_law_stake", "_law_letter", "_law_pay", "_law_goal", "_law_later"]
theorem scEnds : FnScope nEnds ["_law_told_here", "_law_place", "_law_coins_here", "_law_salt", "_law_length"] (defScope sEnds) := ⟨rfl, rfl, rfl, by decide +kernel, rfl, by decide +kernel, by decide +kernel⟩
/-- the law's bettor -/
def lbf (T : Tk) (p : Nat) (salt : Int) : Bf := fun r c => some (betM T p salt r c)
def spEnds : Sp := fun vs H Q _ => ∃ (t : Addr) (p len : Nat) (c salt : Int) (T : Tk), vs = [.ref t, .int p, .int c, .int salt, .int len] ∧ ToldAt H t T ∧ Wf T ∧ p < T.n ∧ 0 ≤ c ∧ len ≤ 12 ∧ cnt T len p ≤ 2000 ∧ ∀ H' l us, Same H H' → H' l = some (.lst us) → TupsP H' eV us (lv T (lbf T p salt) p c len) → Q (.ref l) H'
theorem ok_ends (F : DefAt K mg "_law_ends" sEnds) (B : Bt mg) (D1 : Def P w K mg base CX0 1 "_law_steps" ["_law_told_here", "_law_place"] spSteps) (D2 : Def P w K mg base CX0 3 "_law_bet" ["_law_told_here", "_law_start", "_law_salt", "_law_text", "_law_coins_here"] spLBet)
    (D3 : Def P w K mg base CX0 2 "_law_step" ["_law_told_here", "_law_place", "_law_coins_here", "_law_stake", "_law_sign"] spStep) : Def P w K mg base CX0 4 "_law_ends" ["_law_told_here", "_law_place", "_law_coins_here", "_law_salt", "_law_length"] spEnds := by
  refine Def.of F scEnds (fun _ _ _ _ _ _ us hl => match us, hl with | [_, _, _, _, _], _ => rfl) (fun vs H Q E h => ?_) (fun f cdv A outer s H vs Q E hr h => ?_)
  · obtain ⟨t, p, len, c, salt, T, rfl, _⟩ := h
    rfl
  · obtain ⟨t, p, len, c, salt, T, rfl, hT, W, hp, hc, h12, hcnt, hQ⟩ := h
    have hr1 : Room 1 _ := hr.mono (by decide)
    have hr2 : Room 2 _ := hr.mono (by decide)
    refine ⟨_, pss_cons (ps_set (i := 5) scEnds.nd rfl (Or.inl rfl) (pe_lst (pa_cons (pe_tup (pa_cons (pv 2) (pa_cons pe_str (pa_cons (pv 1) pa_nil)))) pa_nil)))
      (pss_cons (ps_for PassesOwn.never rfl (pi_range1 rfl B.range (pa_cons (pv 4) pa_nil)) (pg_name (i := 6) scEnds.nd rfl (Or.inl rfl))
        (pss_cons (ps_set (i := 7) scEnds.nd rfl (Or.inl rfl) (pe_lst pa_nil))
        (pss_cons (ps_for PassesOwn.never rfl (pi_list (pv 5)) (pg_tup rfl (pgs_cons (pg_name (i := 8) scEnds.nd rfl (Or.inl rfl)) (pgs_cons (pg_name (i := 9) scEnds.nd rfl (Or.inl rfl)) (pgs_cons (pg_name (i := 10) scEnds.nd rfl (Or.inl rfl)) pgs_nil))))
          (pss_cons (ps_set (i := 11) scEnds.nd rfl (Or.inl rfl) (pe_d D2 hr (by rfl) (pa_cons (pv 0) (pa_cons (pv 1) (pa_cons (pv 3) (pa_cons (pv 9) (pa_cons (pv 8) pa_nil)))))))
          (pss_one (ps_for PassesOwn.never rfl (pi_list (pe_d D1 hr1 (by rfl) (pa_cons (pv 0) (pa_cons (pv 10) pa_nil)))) (pg_tup rfl (pgs_cons (pg_name (i := 12) scEnds.nd rfl (Or.inl rfl)) (pgs_cons (pg_name (i := 13) scEnds.nd rfl (Or.inl rfl)) (pgs_cons (pg_name (i := 14) scEnds.nd rfl (Or.inl rfl)) pgs_nil))))
            (pss_cons (ps_set (i := 15) scEnds.nd rfl (Or.inl rfl) (pe_d D3 hr2 (by rfl) (pa_cons (pv 0) (pa_cons (pv 10) (pa_cons (pv 8) (pa_cons (pv 11) (pa_cons (pv 12) pa_nil)))))))
            (pss_one (ps_expr (pe_bm PySem.F.plainAttrs_list PySem.F.slot_list_append PySem.F.type_list_append mt_append (pv 7) (pa_cons (pe_tup (pa_cons (pe_ix ix_tup (pv 15) pe_int (fun _ _ => rfl)) (pa_cons (pe_op op_add_str (pv 9) (pv 12)) (pa_cons (pe_ix ix_tup (pv 15) pe_int (fun _ _ => rfl)) pa_nil)))) pa_nil)))))))))
        (pss_one (ps_set (i := 5) scEnds.nd rfl (Or.inl rfl) (pv 7))))))
      (pss_one (ps_ret (pv 5)))), ?_⟩
    have hbf : BfOk T p (lbf T p salt) := bet_ok W hp salt
    refine ⟨_, rfl, _, rfl, (by show 3 ≤ sizeLine; decide), fun u0 hu0 => ⟨by show 1 ≤ sizeLine; decide, fun G hG => ?_⟩⟩
    have ntG : u0 ≠ G := ne_of_none upd_same hG
    refine ⟨_, rfl, (len : Int), rfl, by omega, by omega, for_range (lo := 0) (n := (len : Int).toNat) (fun i σ H' => ∃ (G : Addr) (vs : List V) (v6 v7 v8 v9 v10 v11 v12 v13 v14 v15 : Option V), σ = [some (.ref t), some (.int p), some (.int c), some (.int salt), some (.int len), some (.ref G), v6, v7, v8, v9, v10, v11, v12, v13, v14, v15] ∧
        Same H H' ∧ H' G = some (.lst vs) ∧ TupsP H' eV vs (lv T (lbf T p salt) p c i))
      ⟨G, [.ref u0], none, none, none, none, none, none, none, none, none, none, rfl, (Same.new hu0).trans (Same.new hG), upd_same, .cons ⟨u0, rfl, by rw [upd_ne ntG, upd_same, str_nil]; rfl⟩ .nil⟩ ?_ ?_⟩
    · rintro i σ H2 hi ⟨G, vs, v6, v7, v8, v9, v10, v11, v12, v13, v14, v15, rfl, k2, hG, hv⟩
      have hi : i < len := by omega
      have hlim : (lv T (lbf T p salt) p c (i + 1)).length ≤ 2000 := by
        have h3 := lv_len T (lbf T p salt) p c (i + 1)
        have h4 := cnt_mono W hp (j := i + 1) (k := len) hi
        omega
      refine ⟨Nat.zero_le _, fun L hL => ?_⟩
      refine ⟨_, rfl, G, rfl, ⟨_, SqL.of (Same.new hL _ _ hG)⟩, for_list (K := K) (a := G) (xs := vs) (fun j σ H' => ∃ (ms : List V) (v8 v9 v10 v11 v12 v13 v14 v15 : Option V), σ = [some (.ref t), some (.int p), some (.int c), some (.int salt), some (.int len), some (.ref G), some (.int (0 + (i : Int))), some (.ref L), v8, v9, v10, v11, v12, v13, v14, v15] ∧
          Same H2 H' ∧ H' L = some (.lst ms) ∧ TupsP H' eV ms (((lv T (lbf T p salt) p c i).take j).flatMap (expand T (lbf T p salt))))
        ⟨[], _, _, _, _, _, _, _, _, rfl, Same.new hL, upd_same, .nil⟩ ?_ ?_ ?_⟩
      · rintro j σ H3 hj ⟨ms, _, _, _, _, _, _, _, _, _, k3, _⟩
        exact SqL.of (k3 _ _ hG)
      · rintro j y σ H3 hy ⟨ms, w8, w9, w10, w11, w12, w13, w14, w15, rfl, k3, hL3, hms⟩
        obtain ⟨it, q, hit, rfl, hq⟩ := hv.get' hy
        have ok := lv_ok W hbf hc i it (List.mem_of_getElem? hit)
        have hg : it.2.2 < T.n := led_goal W hp ok.led
        have k23 := k2.trans k3
        refine ⟨q, eV it, rfl, SqT.of (k3 _ _ hq), rfl, _, _, rfl, _, _, rfl, _, _, rfl, rfl, ?_⟩
        refine ⟨_, rfl, _, rfl, _, rfl, _, rfl, _, rfl, t, p, it.2.2, salt, it.2.1, it.1, T, rfl, hT.same k23, W, hp, ok.led, ok.nn, by have := ok.len; omega, fun H4 s k4 hs => ?_⟩
        have so := hbf _ _ _ _ ok.led ok.nn rfl
        have ex : expand T (lbf T p salt) it = (behindM T it.2.2 it.2.1 (betM T p salt it.1 it.2.1)).map fun q => (it.1 ++ [q.1], q.2.1, q.2.2) := rfl
        have fl := flat_take_succ (expand T (lbf T p salt)) hit
        have hfin : (((lv T (lbf T p salt) p c i).take (j + 1)).flatMap (expand T (lbf T p salt))).length ≤ 2000 := Nat.le_trans (flat_take_le _ _ (j + 1)) hlim
        rw [fl, ex, List.length_append, List.length_map] at hfin
        rw [ex] at fl
        generalize betM T p salt it.1 it.2.1 = xs at so hs fl hfin
        refine ⟨_, rfl, _, rfl, t, it.2.2, T, rfl, (hT.same k23).same k4, W, fun H5 b bs k5 hb0 hb hbs => ?_⟩
        have k35 := k4.trans k5
        have hs5 := k5 _ _ hs
        have hbl : (behindM T it.2.2 it.2.1 xs).length = (steps T it.2.2).length := by
          unfold behindM
          rw [List.length_map, List.length_zip, so.len, Nat.min_self]
        refine ⟨b, rfl, ⟨_, SqL.of hb⟩, for_list (K := K) (a := b) (xs := bs) (fun m σ H' => ∃ (zs : List V) (v12 v13 v14 v15 : Option V), σ = [some (.ref t), some (.int p), some (.int c), some (.int salt), some (.int len), some (.ref G), some (.int (0 + (i : Int))), some (.ref L), some (.int it.2.1), some (.str (tx it.1)), some (.int it.2.2), some (.ref s), v12, v13, v14, v15] ∧
            Same H2 H' ∧ Kp (· = L) H5 H' ∧ H' L = some (.lst zs) ∧ TupsP H' eV zs (((lv T (lbf T p salt) p c i).take j).flatMap (expand T (lbf T p salt)) ++ ((behindM T it.2.2 it.2.1 xs).take m).map fun q => (it.1 ++ [q.1], q.2.1, q.2.2)))
          ⟨ms, _, _, _, _, rfl, k3.trans k35, Kp.refl _, k35 _ _ hL3, by rw [List.take_zero, List.map_nil, List.append_nil]; exact hms.same k35⟩ ?_ ?_ ?_⟩
        · have nbL : b ≠ L := fun z => by
            rw [z] at hb0
            rw [k4 _ _ hL3] at hb0
            cases hb0
          rintro m σ H6 _ ⟨_, _, _, _, _, _, _, k6, _⟩
          exact SqL.of (k6 _ _ hb nbL)
        · rintro m y σ H6 hy ⟨zs, v12, v13, v14, v15, rfl, k26, k6, hL6, hzs⟩
          obtain ⟨st, u, hst, rfl, hu⟩ := hbs.get' hy
          have hL5 : H5 L = some (.lst ms) := k35 _ _ hL3
          have kt : ∀ b ys, H5 b = some (.tup ys) → H6 b = some (.tup ys) := fun b ys e => k6 _ _ e (ne_of e hL5 (fun z => by cases z))
          refine ⟨u, sV st, rfl, SqT.of (kt _ _ hu), rfl, _, _, rfl, _, _, rfl, _, _, rfl, rfl, ?_⟩
          have hml : m < xs.length := by rw [so.len]; exact (List.getElem?_eq_some_iff.mp hst).1
          obtain ⟨z, hz⟩ : ∃ z, xs[m]? = some z := ⟨_, List.getElem?_eq_getElem hml⟩
          refine ⟨_, rfl, _, rfl, _, rfl, _, rfl, _, rfl, t, s, it.2.2, it.2.1, T, xs, m, st, z, rfl, (hT.same k2).same k26, W, kt _ _ hs5, so.len, hst, hz, fun H7 e k7 he => ?_⟩
          refine ⟨_, rfl, .inl ⟨rfl, _, SqL.of (k7 _ _ hL6)⟩, ?_⟩
          refine ⟨_, rfl, e, _, 0, .int (it.2.1 - xs.sum + st.2.1 * z), rfl, rfl, SqT.of he, at_of (j := 0) rfl rfl, _, rfl, _, rfl, tx it.1, tx [st.1], rfl, rfl, by rw [tx_len, tx_len, ok.len, sizeLine_eq]; simp; omega, ?_⟩
          refine ⟨_, rfl, e, _, 1, .int st.2.2, rfl, rfl, SqT.of he, at_of (j := 1) rfl rfl, (by show 3 ≤ sizeLine; decide), fun w hw => ?_⟩
          have hL7 := k7 _ _ hL6
          have nwL : L ≠ w := ne_of_none hL7 hw
          have hb := behind_at (c := it.2.1) hst hz
          have hzl := hzs.len
          rw [List.length_append, List.length_map] at hzl
          have hml2 : m < (behindM T it.2.2 it.2.1 xs).length := (List.getElem?_eq_some_iff.mp hb).1
          have hmt := List.length_take_le m (behindM T it.2.2 it.2.1 xs)
          refine ⟨L, zs, _, rfl, rfl, Same.new hw _ _ hL7, by rw [sizeLine_eq]; omega, _, _, _, _, _, rfl, Same.put (k26.trans (k7.trans (Same.new hw))) hL, fun b o e n => ?_, upd_same, ?_⟩
          · rw [upd_ne n]
            exact Same.new hw _ _ (k7 _ _ (k6 _ _ e n))
          · rw [take_snoc hb, List.map_append, ← List.append_assoc]
            have kk : ∀ b ys, upd H7 w (.tup [.int (it.2.1 - xs.sum + st.2.1 * z), .str (tx it.1 ++ tx [st.1]), .int st.2.2]) b = some (.tup ys) → upd (upd H7 w (.tup [.int (it.2.1 - xs.sum + st.2.1 * z), .str (tx it.1 ++ tx [st.1]), .int st.2.2])) L (.lst (zs ++ [.ref w])) b = some (.tup ys) := fun b ys e => by
              rw [upd_ne (ne_of e (Same.new hw _ _ hL7) (fun z => by cases z))]
              exact e
            refine pd_app (TupsP.mono (hzs.same (k7.trans (Same.new hw))) kk) (.cons ⟨w, rfl, kk _ _ ?_⟩ .nil)
            rw [upd_same, tx_app]
            rfl
        · rintro σ H6 ⟨zs, v12, v13, v14, v15, rfl, k26, k6, hL6, hzs⟩
          rw [hbs.len, ← hbl, List.take_length, ← fl] at hzs
          exact ⟨zs, _, _, _, _, _, _, _, _, rfl, k26, hL6, hzs⟩
      · rintro σ H3 ⟨ms, w8, w9, w10, w11, w12, w13, w14, w15, rfl, k3, hL3, hms⟩
        rw [hv.len, List.take_length] at hms
        exact ⟨_, rfl, L, ms, _, _, _, _, _, _, _, _, _, _, rfl, k2.trans k3, hL3, hms⟩
    · rintro σ H2 ⟨G, vs, v6, v7, v8, v9, v10, v11, v12, v13, v14, v15, rfl, k2, hG, hv⟩
      rw [Int.toNat_natCast] at hv
      exact ⟨_, rfl, hQ H2 G vs k2 hG hv⟩
end
end K81
set_option maxRecDepth 100000
set_option maxHeartbeats 16000000
/-! The law's own counts; the bettor with wrong rows. -/
namespace K81
open PySem PySem.Spec PyProof.Rows L2
section
variable {P : Program} {w : World} {K : PySem.W.Frag} {mg : Str → Option Value} {base : Heap}
abbrev sMany : Stmt := top 58
abbrev nMany : List Str := ["_law_told_here", "_law_place", "_law_length", "_law_counts", "_law_turn", "_law_here", "_law_letter", "_law_pay", "_law_goal"]
theorem scMany : FnScope nMany ["_law_told_here", "_law_place", "_law_length"] (defScope sMany) := ⟨rfl, rfl, rfl, by decide +kernel, rfl, by decide +kernel, by decide +kernel⟩
abbrev scopeHere : Scope := { kind := .function, names := [(".0", .local), ("_law_here", .local), ("sum", .globalImplicit), ("_law_steps", .globalImplicit), ("_law_counts", .free), ("_law_told_here", .free)], isGenerator := false, isCoroutine := false }
def spMany : Sp := fun vs H Q _ => ∃ (t : Addr) (p len : Nat) (T : Tk), vs = [.ref t, .int p, .int len] ∧ ToldAt H t T ∧ Wf T ∧ p < T.n ∧ len ≤ 12 ∧ ∀ H', Same H H' → Q (.int (cnt T len p)) H'
theorem ok_many (F : DefAt K mg "_law_many" sMany) (B : Bt mg) (D1 : Def P w K mg base CX0 1 "_law_steps" ["_law_told_here", "_law_place"] spSteps) : Def P w K mg base CX0 2 "_law_many" ["_law_told_here", "_law_place", "_law_length"] spMany := by
  refine Def.of F scMany (fun _ _ _ _ _ _ us hl => match us, hl with | [_, _, _], _ => rfl) (fun vs H Q E h => ?_) (fun f cdv A outer s H vs Q E hr h => ?_)
  · obtain ⟨t, p, len, T, rfl, _⟩ := h
    rfl
  · obtain ⟨t, p, len, T, rfl, hT, W, hp, h12, hQ⟩ := h
    refine ⟨_, pss_cons (ps_set (i := 3) scMany.nd rfl (Or.inr rfl) (pe_op op_rep (pe_lst (pa_cons pe_int pa_nil)) (pe_ix ix_tup (pv 0) pe_int (fun _ _ => rfl))))
      (pss_cons (ps_for PassesOwn.never rfl (pi_range1 rfl B.range (pa_cons (pv 2) pa_nil)) (pg_name (i := 4) scMany.nd rfl (Or.inl rfl))
        (pss_one (ps_set (i := 3) scMany.nd rfl (Or.inr rfl) (pe_lc (own := [("_law_here", 5)]) (g := gName 5) (tt := tYes) rfl scMany.nd (pi_range1 rfl B.range (pa_cons (pe_ix ix_tup (pv 0) pe_int (fun _ _ => rfl)) pa_nil)) (blkOk_by (N := nMany) (sc := defScope sMany) (by decide +kernel))
            (fun _ _ _ _ _ => pg_name (i := 5) scMany.nd rfl (Or.inl rfl)) (fun _ _ _ _ _ => pts_nil)
            (fun _ _ _ _ _ => pe_callB (r := rSum K) (cr_sum rfl) (by rfl) B.sum (by decide +kernel) (pa_cons (pe_lc (wi := iList K (tCall spSteps [] E0 (tCons (tVar 0) (tCons (tVar 5) tNil)))) (own := [("_law_letter", 6), ("_law_pay", 7), ("_law_goal", 8)]) (g := gTup K 3 (gCons (gName 6) (gCons (gName 7) (gCons (gName 8) gNil)))) (tt := tYes) rfl scMany.nd (pi_list (pe_d D1 hr (by rfl) (pa_cons (pv 0) (pa_cons (pv 5) pa_nil))))
              (blkOk_by (N := nMany) (sc := relS scopeHere (defScope sMany)) (by decide +kernel))
              (fun _ _ _ _ _ => pg_tup rfl (pgs_cons (pg_name (i := 6) scMany.nd rfl (Or.inl rfl)) (pgs_cons (pg_name (i := 7) scMany.nd rfl (Or.inl rfl)) (pgs_cons (pg_name (i := 8) scMany.nd rfl (Or.inl rfl)) pgs_nil))))
              (fun _ _ _ _ _ => pts_nil) (fun _ _ _ _ _ => pe_ix (r := rIxL K) ix_list (pv 3) (pv 8) (fun _ _ => rfl))) pa_nil))))))
      (pss_one (ps_ret (pe_ix ix_list (pv 3) (pv 1) (fun _ _ => rfl))))), ?_⟩
    obtain ⟨ta, as, t1, t2, t3⟩ := hT.ex
    have hn := W.le
    refine ⟨by show 1 ≤ sizeLine; decide, fun a ha => ⟨_, rfl, t, _, 0, .int T.n, rfl, rfl, SqT.of (Same.new ha _ _ t1), at_of (j := 0) rfl rfl, a, (T.n : Int), _, rfl, rfl, upd_same, by omega, by omega, by show 1 * _ ≤ _; rw [Int.toNat_natCast, sizeLine_eq]; omega, fun G hG => ?_⟩⟩
    have e0 : (List.replicate (T.n : Int).toNat [V.int 1]).flatten = cV T 0 := by
      rw [Int.toNat_natCast, ← cV_zero]
      simp
    rw [e0]
    have k1 : Same H (upd (upd H a (.lst [.int 1])) G (.lst (cV T 0))) := (Same.new ha).trans (Same.new hG)
    refine ⟨_, rfl, (len : Int), rfl, by omega, by omega, for_range (lo := 0) (n := (len : Int).toNat) (fun i σ H' => ∃ (G : Addr) (v4 : Option V), σ = [some (.ref t), some (.int p), some (.int len), some (.ref G), v4, none, none, none, none] ∧ Same H H' ∧ H' G = some (.lst (cV T i)))
      ⟨G, none, rfl, k1, upd_same⟩ ?_ ?_⟩
    · rintro i σ H2 hi ⟨G, v4, rfl, k2, hG⟩
      refine ⟨_, rfl, t, _, 0, .int T.n, rfl, rfl, SqT.of (k2 _ _ t1), at_of (j := 0) rfl rfl, (T.n : Int), rfl, by omega, by omega, fun D hD => ?_⟩
      refine lc_range (lo := 0) (n := (T.n : Int).toNat) (fun j H' => Same H2 H' ∧ H' D = some (.lst ((cV T (i + 1)).take j))) ⟨Same.new hD, upd_same⟩ (fun j H3 hj ⟨k3, hd⟩ => ?_) (fun H3 ⟨k3, hd⟩ => ?_)
      · have hj : j < T.n := by omega
        refine ⟨rfl, _, rfl, _, rfl, t, j, T, by show [V.ref t, V.int (0 + (j : Int))] = _; rw [Int.zero_add], (hT.same k2).same k3, W, fun H4 l us k4 hl0 hl hus => ?_⟩
        refine ⟨l, rfl, ⟨_, SqL.of hl⟩, fun D2 hD2 => ?_⟩
        have k24 := k3.trans k4
        refine lc_list (K := K) (a := l) (xs := us) (fun m H' => H' = upd H4 D2 (.lst (((steps T j).map fun s => V.int (cnt T i s.2.2)).take m))) rfl (fun m H' _ e => by rw [e]; exact SqL.of (Same.new hD2 _ _ hl)) (fun m y H5 hy e => ?_) (fun H5 e => ?_)
        · subst e
          obtain ⟨st, q, hst, rfl, hq⟩ := hus.get' hy
          have k5 := Same.new (o := .lst (((steps T j).map fun s => V.int (cnt T i s.2.2)).take m)) hD2
          have hg : st.2.2 < T.n := steps_goal W (List.mem_of_getElem? hst)
          refine ⟨q, sV st, rfl, SqT.of (k5 _ _ hq), rfl, _, _, rfl, _, _, rfl, _, _, rfl, rfl, rfl, ?_⟩
          refine ⟨_, rfl, _, rfl, G, cV T i, st.2.2, .int (cnt T i st.2.2), rfl, rfl, SqL.of (k5 _ _ (k24 _ _ hG)), at_of (j := st.2.2) rfl (cV_get T i hg), ?_⟩
          refine ⟨_, upd_same, ?_, ?_⟩
          · have h1 := List.length_take_le m ((steps T j).map fun s => V.int (cnt T i s.2.2))
            have h2 := (List.getElem?_eq_some_iff.mp hst).1
            have h3 := steps_len W j
            rw [sizeLine_eq]
            omega
          · rw [upd_upd, take_snoc (x := V.int (cnt T i st.2.2)) (by rw [List.getElem?_map, hst]; rfl)]
        · subst e
          have el : us.length = ((steps T j).map fun s => V.int (cnt T i s.2.2)).length := by rw [List.length_map, hus.len]
          rw [el, List.take_length]
          refine ⟨D2, (steps T j).map fun s => (cnt T i s.2.2 : Int), rfl, SqL.of (by rw [upd_same, List.map_map]; rfl), ?_⟩
          have hd4 := k4 _ _ hd
          have nDD2 : D ≠ D2 := ne_of_none hd4 hD2
          refine ⟨_, by rw [upd_ne nDD2]; exact hd4, ?_, Same.put (k24.trans (Same.new hD2)) hD, ?_⟩
          · have h1 := List.length_take_le j (cV T (i + 1))
            rw [sizeLine_eq]
            omega
          · have e : (((steps T j).map fun s => (cnt T i s.2.2 : Int)).sum) = ((cnt T (i + 1) j : Nat) : Int) := sum_cast _ _
            rw [upd_same, e, take_snoc (cV_get T (i + 1) hj)]
      · rw [Int.toNat_natCast, List.take_of_length_le (by rw [cV_len]; omega)] at hd
        exact ⟨D, _, rfl, k2.trans k3, hd⟩
    · rintro σ H2 ⟨G, v4, rfl, k2, hG⟩
      rw [Int.toNat_natCast] at hG
      exact ⟨_, rfl, _, rfl, G, cV T len, p, .int (cnt T len p), rfl, rfl, SqL.of hG, at_of (j := p) rfl (cV_get T len hp), hQ H2 k2⟩
abbrev sOdd : Stmt := top 60
abbrev nOdd : List Str := ["_law_told_here", "_law_place", "_law_salt", "_law_text", "_law_coins_here", "_law_wrong"]
theorem scOdd : FnScope nOdd nOdd (defScope sOdd) := ⟨rfl, rfl, rfl, by decide +kernel, rfl, by decide +kernel, by decide +kernel⟩
/-- the bettor with wrong rows -/
def obf (T : Tk) (p : Nat) (salt : Int) (ws : List (List Nat)) : Bf := fun r c => if r ∈ ws then none else some (betM T p salt r c)
theorem odd_ok {T : Tk} (W : Wf T) {p : Nat} (hp : p < T.n) (salt : Int) (ws : List (List Nat)) : BfOk T p (obf T p salt ws) := fun r c g xs hl hc e => by
  unfold obf at e
  split at e
  · cases e
  · exact bet_ok W hp salt r c g xs hl hc e
def spOdd : Sp := fun vs H Q _ => ∃ (t wl : Addr) (p g : Nat) (salt c : Int) (r : List Nat) (ws : List (List Nat)) (T : Tk), vs = [.ref t, .int p, .int salt, .str (tx r), .int c, .ref wl] ∧ ToldAt H t T ∧ Wf T ∧ p < T.n ∧ ledM T p r = some g ∧ 0 ≤ c ∧ r.length ≤ 200 ∧ H wl = some (.lst (ws.map fun r => .str (tx r))) ∧
  (obf T p salt ws r c = none → Q .non H) ∧ ∀ xs, obf T p salt ws r c = some xs → ∀ H' q, Same H H' → H' q = some (.tup (xs.map V.int)) → Q (.ref q) H'
theorem inV_tx (r : List Nat) (ws : List (List Nat)) : inV (.str (tx r)) (ws.map fun r => V.str (tx r)) = decide (r ∈ ws) := by
  unfold inV
  rw [List.any_map, Bool.eq_iff_iff, List.any_eq_true, decide_eq_true_iff]
  constructor
  · rintro ⟨y, hy, e⟩
    have e : (tx y == tx r) = true := e
    rw [← tx_inj (eq_of_beq e)]
    exact hy
  · intro h
    exact ⟨r, h, by show (tx r == tx r) = true; simp⟩
theorem ok_odd (F : DefAt K mg "_law_odd_bet" sOdd) (D1 : Def P w K mg base CX0 3 "_law_bet" ["_law_told_here", "_law_start", "_law_salt", "_law_text", "_law_coins_here"] spLBet) : Def P w K mg base CX0 4 "_law_odd_bet" nOdd spOdd := by
  refine Def.of F scOdd (fun _ _ _ _ _ _ us hl => match us, hl with | [_, _, _, _, _, _], _ => rfl) (fun vs H Q E h => ?_) (fun f cdv A outer s H vs Q E hr h => ?_)
  · obtain ⟨t, wl, p, g, salt, c, r, ws, T, rfl, _⟩ := h
    rfl
  · obtain ⟨t, wl, p, g, salt, c, r, ws, T, rfl, hT, W, hp, hled, hc, h200, hw, hN, hS⟩ := h
    refine ⟨_, pss_one (ps_ret (pe_ifExp (pt_cmpR op_in_seq (pv 3) (pv 5) rfl) pe_non (pe_d D1 hr (by rfl) (pa_cons (pv 0) (pa_cons (pv 1) (pa_cons (pv 2) (pa_cons (pv 3) (pa_cons (pv 4) pa_nil)))))))), ?_⟩
    refine ⟨_, rfl, _, rfl, wl, _, rfl, .inl (SqL.of hw), rfl, by rw [List.all_map]; simp [Function.comp_def, flatV], _, rfl, ?_⟩
    show if inV (.str (tx r)) (ws.map fun r => V.str (tx r)) = true then _ else _
    rw [inV_tx]
    by_cases h : r ∈ ws
    · rw [decide_eq_true h]
      exact iteT (hN (if_pos h))
    · rw [decide_eq_false h]
      exact iteF ⟨_, rfl, _, rfl, _, rfl, _, rfl, _, rfl, t, p, g, salt, c, r, T, rfl, hT, W, hp, hled, hc, h200, hS _ (if_neg h)⟩
end
end K81
set_option maxRecDepth 100000
set_option maxHeartbeats 16000000
/-! worst is tried. -/
namespace K81
open PySem PySem.Spec PyProof.Rows L2
/-- what the clauses need of the two classes -/
structure CatchOk (K : PySem.W.Frag) (CB CM : Addr) : Prop where
  bb : PySem.W.exmOne K (.ref CB) (.ref CB) = some true
  mb : PySem.W.exmOne K (.ref CM) (.ref CB) = some false
  mm : PySem.W.exmOne K (.ref CM) (.ref CM) = some true
  xb : XfC K CB
  xm : XfC K CM
  nb : PySem.W.findIn K (.ref CB) "row" = some none
  nm : PySem.W.findIn K (.ref CM) "most" = some none
section
variable {P : Program} {w : World} {K : PySem.W.Frag} {mg : Str → Option Value} {base : Heap}
abbrev sTried : Stmt := top 59
abbrev nTried : List Str := ["_law_track_here", "_law_place", "_law_coins_here", "_law_bettor", "_law_length", "_law_found", "e"]
theorem scTried : FnScope nTried ["_law_track_here", "_law_place", "_law_coins_here", "_law_bettor", "_law_length"] (defScope sTried) := ⟨rfl, rfl, rfl, by decide +kernel, rfl, by decide +kernel, by decide +kernel⟩
def spTried (K : PySem.W.Frag) (f : Addr) (T : Tk) (p0 : Nat) (bf : Bf) (Dat : Hp → Prop) : Sp := fun vs H Q _ => ∃ (x : Addr) (c : Int) (len : Nat) (N : Addr → Prop), vs = [.ref x, .int p0, .int c, .ref f, .int len] ∧ TrackAt (TC K) N H x T ∧ Wf T ∧ p0 < T.n ∧ Dat H ∧ 0 ≤ c ∧ len ≤ 12 ∧
  (2000 < cnt T len p0 → ∀ H' q, Same H H' → H' q = some (.tup [.str "many", .int 2000]) → Q (.ref q) H') ∧
  (cnt T len p0 ≤ 2000 → AllOk T bf p0 c len → ∀ H' q m, Same H H' → H' q = some (.tup (mV m)) → minM (pairs (lv T bf p0 c len)) = some m → Q (.ref q) H') ∧
  (cnt T len p0 ≤ 2000 → ∀ r, BadFirst T bf p0 c len r → ∀ H' q, Same H H' → H' q = some (.tup [.str "bad", .str (tx r)]) → Q (.ref q) H')
/-- .. for any bettor that stands in the base -/
def spTriedE (P : Program) (w : World) (K : PySem.W.Frag) (mg : Str → Option Value) (base : Heap) : Sp := fun vs H Q E => ∃ (f : Addr) (T : Tk) (p0 : Nat) (bf : Bf) (Dat : Hp → Prop), Bet P w K mg base f T p0 bf Dat ∧ spTried K f T p0 bf Dat vs H Q E
theorem ok_tried {CB CM : Addr} (F : DefAt K mg "_law_tried" sTried) (CO : CatchOk K CB CM) (gB : mg "BadStake" = some (.ref CB)) (gM : mg "TooMany" = some (.ref CM))
    (D8 : ∀ {f : Addr} {T : Tk} {p0 : Nat} {bf : Bf} {Dat : Hp → Prop}, Bet P w K mg base f T p0 bf Dat → Def P w K mg base (L2.CX P w) 8 "worst" ["track", "place", "coins", "bettor", "length"] (spWorst K CB CM f T p0 bf Dat)) :
    Def P w K mg base CX0 9 "_law_tried" ["_law_track_here", "_law_place", "_law_coins_here", "_law_bettor", "_law_length"] (spTriedE P w K mg base) := by
  refine Def.of F scTried (fun _ _ _ _ _ _ us hl => match us, hl with | [_, _, _, _, _], _ => rfl) (fun vs H Q E h => ?_) (fun f' cdv A outer s H vs Q E hr h => ?_)
  · obtain ⟨f, T, p0, bf, Dat, _, x, c, len, N, rfl, _⟩ := h
    rfl
  · obtain ⟨f, T, p0, bf, Dat, BB, x, c, len, N, rfl, hT, W, hp, hD, hc, h12, hM, hQ, hE⟩ := h
    have D8 := D8 BB
    refine ⟨_, pss_cons (ps_try_cls (i := 6) (tb := fun W => tAsg (tCallS (spWorst K CB CM f T p0 bf Dat) (WE W) (tCons (tVar 0) (tCons (tVar 1) (tCons (tVar 2) (tCons (tVar 3) (tCons (tVar 4) tNil)))))) (gName 5))
        (l := [(.ref CB, fun a cls d => tAsg (tTup (tCons (tC (.str "bad")) (tCons (tXf a cls d CB "row" (tVar 6)) tNil))) (gName 5)), (.ref CM, fun a cls d => tAsg (tTup (tCons (tC (.str "many")) (tCons (tXf a cls d CM "most" (tVar 6)) tNil))) (gName 5))]) (Wout := fun _ _ _ _ => False) rfl rfl scTried.nd rfl rfl takes0
        (fun W pn xe tk _ => pss_one (ps_set (i := 5) scTried.nd rfl (Or.inl rfl) (pe_dS D8 tk hr rfl (by exact (pa_cons (pv 0) (pa_cons (pv 1) (pa_cons (pv 2) (pa_cons (pv 3) (pa_cons (pv 4) pa_nil)))))))))
        (.cons ⟨rfl, by decide, .inl gB⟩ (fun a oe cls d pn hz hf => pss_one (ps_set (i := 5) scTried.nd rfl (Or.inl rfl) (pe_tup (pa_cons pe_str (pa_cons (pe_xf CO.xb CO.nb hz hf (pv 6)) pa_nil)))))
        (.cons ⟨rfl, by decide, .inl gM⟩ (fun a oe cls d pn hz hf => pss_one (ps_set (i := 5) scTried.nd rfl (Or.inl rfl) (pe_tup (pa_cons pe_str (pa_cons (pe_xf CO.xm CO.nm hz hf (pv 6)) pa_nil)))))
        .nil)))
      (pss_one (ps_ret (pv 5))), ?_⟩
    refine ⟨_, rfl, _, rfl, _, rfl, _, rfl, _, rfl, x, c, len, N, rfl, hT, W, hp, hD, hc, h12, fun hgt H1 d k1 hd => ?_, fun hle hall H1 q m k1 hq hm => ⟨_, rfl, hQ hle hall H1 q m k1 hq hm⟩, fun hle r hbad H1 d k1 hd => ?_⟩
    · refine ⟨false, CO.mb, (fun z => nomatch z), fun _ => ⟨true, CO.mm, fun _ a ha => ?_, (fun z => nomatch z)⟩⟩
      refine ⟨_, rfl, rfl, rfl, d, _, .int 2000, rfl, hd, rfl, by show 2 ≤ sizeLine; decide, fun q hq => ⟨_, rfl, hM hgt _ q (k1.trans (Same.new hq)) upd_same⟩⟩
    · refine ⟨true, CO.bb, fun _ a ha => ?_, (fun z => nomatch z)⟩
      refine ⟨_, rfl, rfl, rfl, d, _, .str (tx r), rfl, hd, rfl, by show 2 ≤ sizeLine; decide, fun q hq => ⟨_, rfl, hE hle r hbad _ q (k1.trans (Same.new hq)) upd_same⟩⟩
end
end K81
set_option maxRecDepth 100000
set_option maxHeartbeats 4000000
/-! Plain: what the law expects is what worst answers. -/
namespace K81
open PySem PySem.Spec PyProof.Rows L2
theorem lex_app : ∀ {r s : List Nat} (u v : List Nat), r.length = s.length → r < s → r ++ u < s ++ v
  | [], [], _, _, _, h => absurd h (List.lt_irrefl _)
  | [], _ :: _, _, _, e, _ => by simp at e
  | _ :: _, [], _, _, e, _ => by simp at e
  | a :: r, b :: s, u, v, e, h => by
    rw [List.cons_append, List.cons_append]
    rw [List.cons_lt_cons_iff] at h ⊢
    rcases h with h | ⟨h1, h2⟩
    · exact .inl h
    · exact .inr ⟨h1, lex_app u v (by simpa using e) h2⟩
theorem lex_snoc : ∀ (r : List Nat) {a b : Nat}, a < b → r ++ [a] < r ++ [b]
  | [], a, b, h => by
    show [a] < [b]
    rw [List.cons_lt_cons_iff]
    exact .inl h
  | c :: r, a, b, h => by
    rw [List.cons_append, List.cons_append, List.cons_lt_cons_iff]
    exact .inr ⟨rfl, lex_snoc r h⟩
theorem zip_asc {β : Type} : ∀ {l : List (Nat × Nat × Nat)} (xs : List β), l.Pairwise (fun a b => a.1 < b.1) → (l.zip xs).Pairwise fun a b => a.1.1 < b.1.1
  | [], _, _ => by simp
  | _ :: _, [], _ => by simp
  | s :: l, z :: xs, h => by
    rw [List.zip_cons_cons]
    obtain ⟨h1, h2⟩ := List.pairwise_cons.mp h
    exact List.pairwise_cons.mpr ⟨fun q hq => h1 _ (List.of_mem_zip hq).1, zip_asc xs h2⟩
theorem expand_asc {T : Tk} (W : Wf T) (bf : Bf) (x : It3) : (expand T bf x).Pairwise fun a b => a.1 < b.1 := by
  unfold expand
  split
  · exact .nil
  · rename_i xs e
    unfold behindM
    rw [List.pairwise_map, List.pairwise_map]
    exact (zip_asc xs (steps_asc W x.2.2)).imp fun {a b} h => lex_snoc x.1 h
theorem expand_pre {T : Tk} {bf : Bf} {x y : It3} (h : y ∈ expand T bf x) : ∃ c, y.1 = x.1 ++ [c] := by
  unfold expand at h
  split at h
  · cases h
  · obtain ⟨q, _, rfl⟩ := List.mem_map.mp h
    exact ⟨q.1, rfl⟩
theorem lv_asc {T : Tk} (W : Wf T) {p : Nat} {bf : Bf} {c : Int} (hb : BfOk T p bf) (hc : 0 ≤ c) : ∀ k, (lv T bf p c k).Pairwise fun a b => a.1 < b.1
  | 0 => by simp [lv]
  | k + 1 => by
    show ((lv T bf p c k).flatMap (expand T bf)).Pairwise _
    rw [List.pairwise_flatMap]
    refine ⟨fun a _ => expand_asc W bf a, (lv_asc W hb hc k).imp_of_mem fun {a b} ha hb' h x hx y hy => ?_⟩
    obtain ⟨c1, e1⟩ := expand_pre hx
    obtain ⟨c2, e2⟩ := expand_pre hy
    rw [e1, e2]
    exact lex_app _ _ (by rw [(lv_ok W hb hc k a ha).len, (lv_ok W hb hc k b hb').len]) h
theorem led_last {T : Tk} {p g c : Nat} {r : List Nat} (h : ledM T p (r ++ [c]) = some g) : ∃ q s, ledM T p r = some q ∧ s ∈ steps T q ∧ s.1 = c := by
  induction r generalizing p with
  | nil =>
    have h : ledM T p [c] = some g := h
    unfold ledM at h
    split at h
    · cases h
    · rename_i s e
      exact ⟨p, s, rfl, List.mem_of_find?_eq_some e, by simpa using List.find?_some e⟩
  | cons a r ih =>
    rw [List.cons_append] at h
    unfold ledM at h ⊢
    split at h
    · cases h
    · rename_i s e
      exact ih h
/-- every row of a length stands in its level -/
theorem lv_all {T : Tk} (W : Wf T) {p : Nat} {bf : Bf} {c : Int} (hb : BfOk T p bf) (hc : 0 ≤ c) : ∀ (k : Nat), AllOk T bf p c k → ∀ (r : List Nat) (g : Nat), r.length = k → ledM T p r = some g → ∃ y ∈ lv T bf p c k, y.1 = r
  | 0, _, r, g, hl, _ => ⟨([], c, p), List.mem_singleton.mpr rfl, by
    cases r with
    | nil => rfl
    | cons a r => simp at hl⟩
  | k + 1, hall, r, g, hl, hg => by
    have hne : r ≠ [] := fun z => by rw [z] at hl; simp at hl
    have er := List.dropLast_concat_getLast hne
    rw [← er] at hg
    obtain ⟨q, s, h1, h2, h3⟩ := led_last hg
    obtain ⟨y, hy, ey⟩ := lv_all W hb hc k (fun i hi => hall i (by omega)) r.dropLast q (by rw [List.length_dropLast, hl]; rfl) h1
    have ok := lv_ok W hb hc k y hy
    have e2 : y.2.2 = q := by
      have := ok.led
      rw [ey, h1] at this
      exact (Option.some.inj this).symm
    cases e : bf y.1 y.2.1 with
    | none => exact absurd e (hall k (Nat.lt_succ_self k) y hy)
    | some xs =>
      have so := hb _ _ _ _ ok.led ok.nn e
      obtain ⟨j, hj⟩ := List.mem_iff_getElem?.mp h2
      have hjl := (List.getElem?_eq_some_iff.mp hj).1
      obtain ⟨z, hz⟩ : ∃ z, xs[j]? = some z := ⟨_, List.getElem?_eq_getElem (by rw [so.len, e2]; exact hjl)⟩
      have hm := List.mem_of_getElem? (behind_at (T := T) (p := y.2.2) (c := y.2.1) (by rw [e2]; exact hj) hz)
      refine ⟨(y.1 ++ [s.1], y.2.1 - xs.sum + s.2.1 * z, s.2.2), List.mem_flatMap.mpr ⟨y, hy, ?_⟩, ?_⟩
      · unfold expand
        rw [e]
        exact List.mem_map.mpr ⟨_, hm, rfl⟩
      · show y.1 ++ [s.1] = r
        rw [ey, h3]
        exact er
theorem obf_none {T : Tk} {p : Nat} {salt : Int} {ws : List (List Nat)} {r : List Nat} {c : Int} : obf T p salt ws r c = none ↔ r ∈ ws := by
  unfold obf
  split
  · rename_i h
    exact ⟨fun _ => h, fun _ => rfl⟩
  · rename_i h
    exact ⟨(fun z => nomatch z), fun z => absurd z h⟩
theorem flat_congr {α β : Type} {f g : α → List β} : ∀ {l : List α}, (∀ a ∈ l, f a = g a) → l.flatMap f = l.flatMap g
  | [], _ => rfl
  | a :: l, h => by rw [List.flatMap_cons, List.flatMap_cons, h a List.mem_cons_self, flat_congr fun b hb => h b (List.mem_cons_of_mem _ hb)]
theorem lv_same {T : Tk} {p : Nat} {salt c : Int} {ws : List (List Nat)} : ∀ k, AllOk T (obf T p salt ws) p c k → lv T (obf T p salt ws) p c k = lv T (lbf T p salt) p c k
  | 0, _ => rfl
  | k + 1, h => by
    have ih := lv_same k fun i hi => h i (by omega)
    show (lv T (obf T p salt ws) p c k).flatMap _ = (lv T (lbf T p salt) p c k).flatMap _
    rw [← ih]
    refine flat_congr fun y hy => ?_
    have hn := h k (Nat.lt_succ_self k) y hy
    have hw : ¬ y.1 ∈ ws := fun z => hn (obf_none.mpr z)
    unfold expand
    rw [show obf T p salt ws y.1 y.2.1 = lbf T p salt y.1 y.2.1 from if_neg hw]
theorem mLt_asymm {x y : Int × List Nat} (h : mLt x y) : ¬ mLt y x := fun z => by
  unfold mLt at h z
  rcases h with h | ⟨h1, h2⟩
  · rcases z with z | ⟨z1, z2⟩ <;> omega
  · rcases z with z | ⟨z1, z2⟩
    · omega
    · exact List.lt_irrefl _ (List.lt_trans h2 z2)
theorem mLe_trans {x y z : Int × List Nat} (h1 : ¬ mLt y x) (h2 : ¬ mLt z y) : ¬ mLt z x := fun h => by
  unfold mLt at h h1 h2
  have a1 : x.1 ≤ y.1 := by
    apply Int.not_lt.mp
    exact fun w => h1 (.inl w)
  have a2 : y.1 ≤ z.1 := by
    apply Int.not_lt.mp
    exact fun w => h2 (.inl w)
  rcases h with h | ⟨e, h⟩
  · omega
  · have b1 : ¬ y.2 < x.2 := fun w => h1 (.inr ⟨by omega, w⟩)
    have b2 : ¬ z.2 < y.2 := fun w => h2 (.inr ⟨by omega, w⟩)
    have c1 : x.2 ≤ y.2 := List.not_lt.mp b1
    have c2 : y.2 ≤ z.2 := List.not_lt.mp b2
    exact List.not_lt.mpr (List.le_trans c1 c2) h
/-- the first of the sorted pairs -/
theorem sorted_head {bs : List (Int × List Nat)} {b0 : Int × List Nat} {rest : List (Int × List Nat)} (h : bs.mergeSort (PySem.W.dataLe false mD) = b0 :: rest) : b0 ∈ bs ∧ ∀ b ∈ bs, ¬ mLt b b0 := by
  have ele : ∀ a b, PySem.W.dataLe false mD a b = !decide (mLt b a) := fun a b => by
    rw [PySem.W.dataLe_eq]
    show (!PySem.W.dataLt (mD b) (mD a)) = _
    rw [mD_lt]
  have pw := List.pairwise_mergeSort (le := PySem.W.dataLe false mD) (fun a b c h1 h2 => by
    rw [ele] at h1 h2 ⊢
    simp only [Bool.not_eq_true', decide_eq_false_iff_not] at h1 h2 ⊢
    exact mLe_trans h1 h2) (fun a b => by
    rw [ele, ele]
    by_cases z : mLt b a
    · have := mLt_asymm z
      simp [this]
    · simp [z]) bs
  rw [h] at pw
  have mem : ∀ b, b ∈ b0 :: rest ↔ b ∈ bs := fun b => by
    rw [← h]
    exact List.mem_mergeSort
  refine ⟨(mem b0).mp List.mem_cons_self, fun b hb => ?_⟩
  rcases List.mem_cons.mp ((mem b).mpr hb) with e | hb
  · rw [e]
    exact fun z => mLt_asymm z z
  · have := (List.pairwise_cons.mp pw).1 b hb
    rw [ele] at this
    simpa using this
/-- the short wrong rows -/
def dueM (ws : List (List Nat)) (len : Nat) : List (Int × List Nat) := (ws.filter fun r => decide (r.length < len)).map fun r => ((r.length : Int), r)
theorem due_ok {T : Tk} (W : Wf T) {p : Nat} (hp : p < T.n) {salt c : Int} (hc : 0 ≤ c) {ws : List (List Nat)} (hws : ∀ r ∈ ws, ∃ g, ledM T p r = some g) {len : Nat} (hall : AllOk T (obf T p salt ws) p c len) : dueM ws len = [] := by
  unfold dueM
  rw [List.map_eq_nil_iff, List.filter_eq_nil_iff]
  intro r hr z
  have hl : r.length < len := of_decide_eq_true z
  obtain ⟨g, hg⟩ := hws r hr
  obtain ⟨y, hy, e⟩ := lv_all W (odd_ok W hp salt ws) hc r.length (fun i hi => hall i (by omega)) r g rfl hg
  exact hall r.length hl y hy (obf_none.mpr (by rw [e]; exact hr))
theorem due_bad {T : Tk} (W : Wf T) {p : Nat} (hp : p < T.n) {salt c : Int} (hc : 0 ≤ c) {ws : List (List Nat)} (hws : ∀ r ∈ ws, ∃ g, ledM T p r = some g) {len : Nat} {r : List Nat} (hbad : BadFirst T (obf T p salt ws) p c len r) :
    ∃ rest, (dueM ws len).mergeSort (PySem.W.dataLe false mD) = ((r.length : Int), r) :: rest := by
  obtain ⟨i, j, x, hi, hx, ex, hn, hno, hall⟩ := hbad
  have hb := odd_ok W hp salt ws
  have okx := lv_ok W hb hc i x (List.mem_of_getElem? hx)
  have hr : r ∈ ws := by rw [← ex]; exact obf_none.mp hn
  have hrl : r.length = i := by rw [← ex]; exact okx.len
  have hmem : ((r.length : Int), r) ∈ dueM ws len := List.mem_map.mpr ⟨r, List.mem_filter.mpr ⟨hr, decide_eq_true (by omega)⟩, rfl⟩
  cases hs : (dueM ws len).mergeSort (PySem.W.dataLe false mD) with
  | nil =>
    have := (List.mem_mergeSort (le := PySem.W.dataLe false mD)).mpr hmem
    rw [hs] at this
    cases this
  | cons b0 rest =>
    obtain ⟨h1, h2⟩ := sorted_head hs
    obtain ⟨r0, h3, e0⟩ := List.mem_map.mp h1
    obtain ⟨h4, h5⟩ := List.mem_filter.mp h3
    have h6 := h2 _ hmem
    rw [← e0] at h6
    obtain ⟨g0, hg0⟩ := hws r0 h4
    have hle : ¬ (i : Int) < (r0.length : Int) := fun z => h6 (.inl (by rw [hrl]; exact z))
    have hge : ¬ r0.length < i := fun z => by
      obtain ⟨y, hy, e⟩ := lv_all W hb hc r0.length (fun k hk => hall k (by omega)) r0 g0 rfl hg0
      exact hall r0.length z y hy (obf_none.mpr (by rw [e]; exact h4))
    have hl0 : r0.length = i := by omega
    have hnl : ¬ r < r0 := fun z => h6 (.inr ⟨by rw [hrl, hl0], z⟩)
    obtain ⟨y, hy, e⟩ := lv_all W hb hc i hall r0 g0 hl0 hg0
    obtain ⟨j', hj'⟩ := List.mem_iff_getElem?.mp hy
    have er : r0 = r := by
      by_cases c1 : j' = j
      · rw [c1, hx] at hj'
        rw [← e, ← ex, Option.some.inj hj']
      · by_cases c2 : j' < j
        · exact absurd (obf_none.mpr (by rw [e]; exact h4)) (hno j' y c2 hj')
        · obtain ⟨l1, g1⟩ := List.getElem?_eq_some_iff.mp hx
          obtain ⟨l2, g2⟩ := List.getElem?_eq_some_iff.mp hj'
          have := List.pairwise_iff_getElem.mp (lv_asc W hb hc i) j j' l1 l2 (by omega)
          rw [g1, g2, ex, e] at this
          exact absurd this hnl
    rw [← e0, er]
    exact ⟨rest, rfl⟩
theorem all_plain (T : Tk) (p : Nat) (salt c : Int) (k : Nat) : AllOk T (lbf T p salt) p c k := fun _ _ _ _ z => nomatch z
theorem no_bad {T : Tk} {p : Nat} {salt c : Int} {len : Nat} {r : List Nat} (h : BadFirst T (lbf T p salt) p c len r) : False := by
  obtain ⟨_, _, _, _, _, _, z, _⟩ := h
  exact nomatch z
end K81
set_option maxRecDepth 100000
set_option maxHeartbeats 16000000
/-! The two lambdas as bettors. -/
namespace K81
open PySem PySem.Spec PyProof.Rows L2 LamX NdefX
def nthS (l : List Stmt) (i : Nat) : Stmt := l.getD i (.Pass ⟨0, 0, 0, 0⟩)
def forB : Stmt → List Stmt
  | .For _ _ b _ _ => b
  | _ => []
def ifB1 : Stmt → List Stmt
  | .If _ b _ _ => b
  | _ => []
def ifB2 : Stmt → List Stmt
  | .If _ _ b _ => b
  | _ => []
def lamA : Stmt → Arguments
  | .Assign _ (.Lambda a _ _ _) _ => a
  | _ => { posonlyargs := [], args := [], vararg := none, kwonlyargs := [], kw_defaults := [], kwarg := none, defaults := [] }
def lamB : Stmt → Expr
  | .Assign _ (.Lambda _ b _ _) _ => b
  | _ => .Constant .none 0 ⟨0, 0, 0, 0⟩
def lamS : Stmt → Scope
  | .Assign _ (.Lambda _ _ s _) _ => s
  | _ => defScope (top 61)
abbrev sLaw : Stmt := top 61
def sPlain : Stmt := nthS (forB (nthS (defBody sLaw) 1)) 7
def sOddL : Stmt := nthS (ifB1 (nthS (ifB2 (nthS (forB (nthS (defBody sLaw) 1)) 9)) 0)) 5
abbrev nPl : List Str := ["_law_row", "_law_have", "_law_place", "_law_salt", "_law_told_here"]
abbrev nOl : List Str := ["_law_row", "_law_have", "_law_place", "_law_salt", "_law_told_here", "_law_wrong"]
abbrev frPl : List Str := ["_law_place", "_law_salt", "_law_told_here"]
abbrev frOl : List Str := ["_law_place", "_law_salt", "_law_told_here", "_law_wrong"]
theorem nsPl : NScope nPl psBet frPl (lamS sPlain) := ⟨by decide +kernel, by decide +kernel, by decide +kernel, by decide +kernel, by decide +kernel, by decide +kernel, by decide +kernel, by decide +kernel, by decide +kernel⟩
theorem nsOl : NScope nOl psBet frOl (lamS sOddL) := ⟨by decide +kernel, by decide +kernel, by decide +kernel, by decide +kernel, by decide +kernel, by decide +kernel, by decide +kernel, by decide +kernel, by decide +kernel⟩
def DatP (t : Addr) (T : Tk) (c' : Addr) (q : Str) (H : Hp) : Prop := ToldAt H t T ∧ H c' = some (CodeO c' q)
def DatO (t : Addr) (T : Tk) (c' : Addr) (q : Str) (wl : Addr) (ws : List (List Nat)) (H : Hp) : Prop := ToldAt H t T ∧ H c' = some (CodeO c' q) ∧ H wl = some (.lst (ws.map fun r => V.str (tx r)))
section
variable {P : Program} {w : World} {K : PySem.W.Frag} {mg : Str → Option Value} {base : Heap}
theorem bet_plain {f c' t : Addr} {q : Str} {cl : List (Str × Addr)} {pm ctv : Value} {T : Tk} {p : Nat} {salt : Int} (ho : base.get? f = some (PySem.W.kla_obj "<lambda>" q (lamA sPlain) (lamB sPlain) (lamS sPlain) cl pm c' ctv))
    (C : CellsB base cl frPl [.int p, .int salt, .ref t]) (W : Wf T) (hp : p < T.n) (D : Def P w K mg base CX0 3 "_law_bet" ["_law_told_here", "_law_start", "_law_salt", "_law_text", "_law_coins_here"] spLBet) : Bet P w K mg base f T p (lbf T p salt) (DatP t T c' q) := by
  refine ⟨⟨_, _, _, _, ho⟩, ⟨_, fun s us hl => ?_, lam_fn (k := 5) ho nsPl C (fun vs H Q E h => ?_) (fun vs H Q E h => ?_) fun A outer s H vs Q E hr h => ?_⟩, bet_ok W hp salt, fun H H' ⟨h1, h2⟩ k => ⟨h1.same k, k _ _ h2⟩⟩
  · exact match us, hl with | [_, _], _ => .of_eq rfl
  · obtain ⟨r, c, g, rfl, _⟩ := h
    rfl
  · obtain ⟨r, c, g, rfl, hD, _⟩ := h
    exact hD.2
  · obtain ⟨r, c, g, rfl, hD, hled, hc, h200, hN, hS⟩ := h
    refine ⟨_, pe_d D (hr.mono (by decide)) (by rfl) (pa_cons (pv 4) (pa_cons (pv 2) (pa_cons (pv 3) (pa_cons (pv 0) (pa_cons (pv 1) pa_nil))))), ?_⟩
    exact ⟨_, rfl, _, rfl, _, rfl, _, rfl, _, rfl, t, p, g, salt, c, r, T, rfl, hD.1, W, hp, hled, hc, h200, fun H' q k hq => hS _ rfl H' q k hq⟩
theorem bet_odd {f c' t wl : Addr} {q : Str} {cl : List (Str × Addr)} {pm ctv : Value} {T : Tk} {p : Nat} {salt : Int} {ws : List (List Nat)} (ho : base.get? f = some (PySem.W.kla_obj "<lambda>" q (lamA sOddL) (lamB sOddL) (lamS sOddL) cl pm c' ctv))
    (C : CellsB base cl frOl [.int p, .int salt, .ref t, .ref wl]) (W : Wf T) (hp : p < T.n) (D : Def P w K mg base CX0 4 "_law_odd_bet" nOdd spOdd) : Bet P w K mg base f T p (obf T p salt ws) (DatO t T c' q wl ws) := by
  refine ⟨⟨_, _, _, _, ho⟩, ⟨_, fun s us hl => ?_, lam_fn (k := 5) ho nsOl C (fun vs H Q E h => ?_) (fun vs H Q E h => ?_) fun A outer s H vs Q E hr h => ?_⟩, odd_ok W hp salt ws, fun H H' ⟨h1, h2, h3⟩ k => ⟨h1.same k, k _ _ h2, k _ _ h3⟩⟩
  · exact match us, hl with | [_, _], _ => .of_eq rfl
  · obtain ⟨r, c, g, rfl, _⟩ := h
    rfl
  · obtain ⟨r, c, g, rfl, hD, _⟩ := h
    exact hD.2.1
  · obtain ⟨r, c, g, rfl, hD, hled, hc, h200, hN, hS⟩ := h
    refine ⟨_, pe_d D (hr.mono (by decide)) (by rfl) (pa_cons (pv 4) (pa_cons (pv 2) (pa_cons (pv 3) (pa_cons (pv 0) (pa_cons (pv 1) (pa_cons (pv 5) pa_nil)))))), ?_⟩
    exact ⟨_, rfl, _, rfl, _, rfl, _, rfl, _, rfl, _, rfl, t, wl, p, g, salt, c, r, ws, T, rfl, hD.1, W, hp, hled, hc, h200, hD.2.2, fun e => hN e H (fun _ _ z => z), fun xs e H' q k hq => hS xs e H' q k hq⟩
theorem Def.imp {CX : CXT} {k : Nat} {x : Str} {ps : List Str} {sp sp' : Sp} (D : Def P w K mg base CX k x ps sp) (h : ∀ vs H Q E, sp' vs H Q E → sp vs H Q E) : Def P w K mg base CX k x ps sp' := by
  obtain ⟨f, fd, h1, h2, h3, h4⟩ := D.ex
  exact ⟨f, fd, h1, h2.imp h, h3, h4⟩
theorem TrackAt.ext {CC N : Addr → Prop} {H H' : Hp} {x : Addr} {T : Tk} (h : TrackAt CC N H x T) (k : ExtN H H') : TrackAt CC N H' x T := by
  obtain ⟨C, dx, ta, ka, as, ls, h1, h2, h3, h4, h5, h6, h7⟩ := h.ex
  have kt : ∀ b xs, H b = some (.tup xs) → H' b = some (.tup xs) := fun b xs e => k b _ e fun ps z => nomatch z
  exact ⟨C, dx, ta, ka, as, ls, h1, k _ _ h2 (fun ps z => nomatch z), kt _ _ h3, h4.mono kt, k _ _ h5 (fun ps z => nomatch z), h6,
    pd_imp h7 fun v p ⟨l, vs, e, a1, a2, a3⟩ => ⟨l, vs, e, k _ _ a1 (fun ps z => nomatch z), a2, a3.mono kt⟩⟩
theorem ToldAt.ext {H H' : Hp} {t : Addr} {T : Tk} (h : ToldAt H t T) (k : ExtN H H') : ToldAt H' t T := h.mono fun b xs e => k b _ e fun ps z => nomatch z
theorem PoolAt.ext {H H' : Hp} {p l : Addr} (h : PoolAt H p l) (k : ExtN H H') : PoolAt H' p l := by
  obtain ⟨a, b, ns, h1, h2⟩ := h.ex
  exact ⟨a, b, ns, k _ _ h1 (fun ps z => nomatch z), k _ _ h2 (fun ps z => nomatch z)⟩
theorem Tabs.kp {T : List (Addr × Str)} {H H' : Hp} {p l : Addr} (t : Tabs T H) (P : PoolAt H p l) (k : Kp (PD p l) H H') : Tabs T H' := fun x hx => by
  obtain ⟨ps, h1, h2, h3⟩ := t x hx
  refine ⟨ps, k _ _ h1 (notPDo P h1 fun xs z => nomatch z), h2, fun pos cv hc => ?_⟩
  obtain ⟨c, e1, e2⟩ := h3 pos cv hc
  exact ⟨c, e1, k _ _ e2 (notPDo P e2 fun xs z => by unfold CodeO at z; cases z)⟩
end
end K81
set_option maxRecDepth 100000
set_option maxHeartbeats 4000000
/-! What stands through a turn of the law; equal pairs. -/
namespace K81
open PySem PySem.Spec PyProof.Rows L2 LamX
abbrev qL : Str := (("law" : Str) ++ ".<locals>.") ++ "<lambda>"
structure LawE (K : PySem.W.Frag) (Pt pp l t x : Addr) (T : Tk) (H : Hp) : Prop where
  P : PoolAt H pp l
  D : ToldAt H t T
  X : TrackAt (TC K) (fun b => ¬ PD pp l b) H x T
  B : Tabs [(Pt, qL)] H
theorem LawE.same {K : PySem.W.Frag} {Pt pp l t x : Addr} {T : Tk} {H H' : Hp} (h : LawE K Pt pp l t x T H) (k : Same H H') : LawE K Pt pp l t x T H' := ⟨h.P.same k, h.D.same k, h.X.same k, Tabs.ext h.B k⟩
theorem LawE.kp {K : PySem.W.Frag} {Pt pp l t x : Addr} {T : Tk} {H H' : Hp} (h : LawE K Pt pp l t x T H) (k : Kp (PD pp l) H H') (P : PoolAt H' pp l) : LawE K Pt pp l t x T H' := ⟨P, h.D.kp h.P k, h.X.pd h.P k, Tabs.kp h.B h.P k⟩
theorem LawE.ext {K : PySem.W.Frag} {Pt pp l t x : Addr} {T : Tk} {H H' : Hp} (h : LawE K Pt pp l t x T H) (k : ExtN H H') (B : Tabs [(Pt, qL)] H') : LawE K Pt pp l t x T H' := ⟨h.P.ext k, h.D.ext k, h.X.ext k, B⟩
def nD (z : Str) (i : Int) : PyData := .tuple [.str z, .int i]
def bD (z y : Str) : PyData := .tuple [.str z, .str y]
theorem nD_dp {K : PySem.W.Frag} {H : Hp} {q : Addr} {z : Str} {i : Int} (h : H q = some (.tup [.str z, .int i])) : Dp K H (.ref q) (nD z i) := .tup (SqT.of h) (.cons (.str _) (.cons (.int _) .nil))
theorem bD_dp {K : PySem.W.Frag} {H : Hp} {q : Addr} {z y : Str} (h : H q = some (.tup [.str z, .str y])) : Dp K H (.ref q) (bD z y) := .tup (SqT.of h) (.cons (.str _) (.cons (.str _) .nil))
theorem nD_eq (z : Str) (i : Int) : PyData.eqv (nD z i) (nD z i) = true := by simp [nD, PyData.eqv, PyData.eqvAll]
theorem bD_eq (z y : Str) : PyData.eqv (bD z y) (bD z y) = true := by simp [bD, PyData.eqv, PyData.eqvAll]
theorem mD_eq (m : Int × List Nat) : PyData.eqv (mD m) (mD m) = true := by simp [mD, PyData.eqv, PyData.eqvAll]
theorem tx_ok {r : List Nat} (h : ∀ c ∈ r, c < 26) : PyData.strOk (tx r) = true := by
  unfold PyData.strOk tx
  rw [List.all_toArray, List.all_eq_true]
  intro c hc
  obtain ⟨k, hk, e⟩ := List.mem_map.mp hc
  have := h k hk
  rw [← e]
  exact decide_eq_true (by show 97 + k < _; omega)
theorem nD_sh {z : Str} (i : Int) (h : PyData.strOk z = true) : SeqAt.shaped (nD z i) = true := by simp [nD, SeqAt.shaped, PyData.canLay0, PyData.canLayAll0, PyData.depth, PyData.depthAll, h]
theorem bD_sh {z y : Str} (h : PyData.strOk z = true) (h2 : PyData.strOk y = true) : SeqAt.shaped (bD z y) = true := by simp [bD, SeqAt.shaped, PyData.canLay0, PyData.canLayAll0, PyData.depth, PyData.depthAll, h, h2]
theorem mD_sh {m : Int × List Nat} (h : ∀ c ∈ m.2, c < 26) : SeqAt.shaped (mD m) = true := by simp [mD, SeqAt.shaped, PyData.canLay0, PyData.canLayAll0, PyData.depth, PyData.depthAll, tx_ok h]
theorem best_mem {β : Type} (lt : β → β → Bool) : ∀ (l : List β) (b : β), bestOf lt b l ∈ b :: l
  | [], b => List.mem_cons_self
  | x :: l, b => by
    show bestOf lt (if lt x b then x else b) l ∈ _
    have h := best_mem lt l (if lt x b then x else b)
    rcases List.mem_cons.mp h with e | h
    · rw [e]
      split <;> simp
    · simp [h]
/-- the least pair of a level is of letters -/
theorem min_letters {T : Tk} (W : Wf T) {p : Nat} {bf : Bf} {c : Int} (hb : BfOk T p bf) (hc : 0 ≤ c) {k : Nat} {m : Int × List Nat} (h : minM (pairs (lv T bf p c k)) = some m) : ∀ c ∈ m.2, c < 26 := by
  cases e : pairs (lv T bf p c k) with
  | nil => rw [e] at h; cases h
  | cons b bs =>
    rw [e] at h
    have hm : m ∈ pairs (lv T bf p c k) := by
      rw [e, ← Option.some.inj h]
      exact best_mem _ _ _
    obtain ⟨y, hy, ey⟩ := List.mem_map.mp hm
    rw [← ey]
    exact led_letters W (lv_ok W hb hc k y hy).led
theorem bad_letters {T : Tk} (W : Wf T) {p : Nat} {bf : Bf} {c : Int} (hb : BfOk T p bf) (hc : 0 ≤ c) {k : Nat} {r : List Nat} (h : BadFirst T bf p c k r) : ∀ c ∈ r, c < 26 := by
  obtain ⟨i, j, x, _, hx, ex, _⟩ := h
  rw [← ex]
  exact led_letters W (lv_ok W hb hc i x (List.mem_of_getElem? hx)).led
theorem mAll (l : List (Int × List Nat)) : PySem.W.AllAlike (l.map mD) := PySem.W.AllAlike.of mD_alike
theorem mSor (l : List (Int × List Nat)) : PySem.W.Sortable (l.map mD) := PySem.W.Sortable.tuples fun b => ⟨_, _, rfl⟩
theorem due_snoc (ws : List (List Nat)) (r : List Nat) (len : Nat) : dueM (ws ++ [r]) len = dueM ws len ++ (if r.length < len then [((r.length : Int), r)] else []) := by
  unfold dueM
  rw [List.filter_append, List.map_append]
  by_cases h : r.length < len
  · simp [h]
  · simp [h]
end K81
set_option maxRecDepth 100000
set_option maxHeartbeats 32000000
/-! The law. -/
namespace K81
open PySem PySem.Spec PyProof.Rows L2 LamX NdefX
abbrev nLaw : List Str := ["_law_script", "_law_pool_here", "_law_turn", "_law_told_here", "_law_track_here", "_law_place", "_law_coins_here", "_law_salt", "_law_length", "_law_plain", "_law_made", "_law_ends_here", "_law_have", "_law_text", "_law_here", "_law_wrong", "_law_k", "_law_due", "_law_row", "_law_odd"]
theorem scLaw : FnScope nLaw ["_law_script"] (defScope sLaw) := ⟨rfl, rfl, rfl, by decide +kernel, rfl, by decide +kernel, by decide +kernel⟩
theorem freeP : ∀ y ∈ (lamS sPlain).names, y.2 = .free → (defScope sLaw).names.lookup y.1 = some .cell ∨ (defScope sLaw).names.lookup y.1 = some .free := by decide +kernel
theorem freeO : ∀ y ∈ (lamS sOddL).names, y.2 = .free → (defScope sLaw).names.lookup y.1 = some .cell ∨ (defScope sLaw).names.lookup y.1 = some .free := by decide +kernel
theorem frP : ∀ y ∈ frPl, (y, NameKind.free) ∈ (lamS sPlain).names := by decide +kernel
theorem frO : ∀ y ∈ frOl, (y, NameKind.free) ∈ (lamS sOddL).names := by decide +kernel
def spP (K : PySem.W.Frag) (f c' : Addr) (ws : List V) : Sp := fun vs H Q E => ∃ (t : Addr) (T : Tk) (p : Nat) (salt : Int), ws = [.int p, .int salt, .ref t] ∧ Wf T ∧ p < T.n ∧ spTried K f T p (lbf T p salt) (DatP t T c' qL) vs H Q E
def spO (K : PySem.W.Frag) (f c' : Addr) (ws : List V) : Sp := fun vs H Q E => ∃ (t wl : Addr) (T : Tk) (p : Nat) (salt : Int) (wss : List (List Nat)), ws = [.int p, .int salt, .ref t, .ref wl] ∧ Wf T ∧ p < T.n ∧ spTried K f T p (obf T p salt wss) (DatO t T c' qL wl wss) vs H Q E
/-- all the defs that the law calls, over any base -/
structure LawD (P : Program) (w : World) (K : PySem.W.Frag) (mg : Str → Option Value) : Prop where
  pool : ∀ base, Def P w K mg base CX0 1 "_law_pool" ["_law_script"] (spPool K)
  draw : ∀ base, Def P w K mg base CX0 1 "_law_draw" ["_law_pool_here", "_law_many_here"] spDraw
  told : ∀ base, Def P w K mg base CX0 3 "_law_told" ["_law_pool_here", "_law_few"] spTold
  track : ∀ base, Def P w K mg base CX0 7 "_law_track" ["_law_told_here"] (spLTrack K)
  wide : ∀ base, Def P w K mg base CX0 8 "_law_wide" ["_law_pool_here"] (spWide K)
  coins : ∀ base, Def P w K mg base CX0 2 "_law_coins" ["_law_pool_here"] spCoins
  bet : ∀ base, Def P w K mg base CX0 3 "_law_bet" ["_law_told_here", "_law_start", "_law_salt", "_law_text", "_law_coins_here"] spLBet
  odd : ∀ base, Def P w K mg base CX0 4 "_law_odd_bet" nOdd spOdd
  tried : ∀ base, Def P w K mg base CX0 9 "_law_tried" ["_law_track_here", "_law_place", "_law_coins_here", "_law_bettor", "_law_length"] (spTriedE P w K mg base)
  many : ∀ base, Def P w K mg base CX0 2 "_law_many" ["_law_told_here", "_law_place", "_law_length"] spMany
  ends : ∀ base, Def P w K mg base CX0 4 "_law_ends" ["_law_told_here", "_law_place", "_law_coins_here", "_law_salt", "_law_length"] spEnds
  int : ∀ base, Def P w K mg base CX0 1 "_law_is_int" ["_law_thing"] spIsInt
  walk : ∀ base, Def P w K mg base CX0 2 "_law_walk" ["_law_pool_here", "_law_told_here", "_law_place", "_law_length"] spWalk
/-- the law as the top has made it; its code object at c -/
def LawAtC (K : PySem.W.Frag) (f c : Addr) (fd : FuncData) : Prop := ∃ (oc : Value) (od an : Option Addr) (kV doc pm ct : Value) (osl : Array (Option Value)),
  fd = PySem.W.fnOf "law" "law" (defArgs sLaw) (defBody sLaw) (defScope sLaw) .none kV doc pm an (.ref c) ct ∧ K.lookup f = some ⟨oc, od, .func fd, osl⟩ ∧ PySem.W.codeIn K (.ref c) "law" = true
section
variable {P : Program} {w : World} {K : PySem.W.Frag} {mg : Str → Option Value} {base : Heap}
def spLaw (K : PySem.W.Frag) (Pt : Addr) : Sp := fun vs H Q _ => ∃ (a : Addr) (ns : List Int), vs = [.ref a] ∧ SqL K H a (ns.map V.int) ∧ ns.length ≤ 100000 ∧ H Pt = some (.tbl #[]) ∧ ∀ H', Q (.bl true) H'
abbrev xL (P : Program) (w : World) (K : PySem.W.Frag) (mg : Str → Option Value) (base : Heap) (f c : Addr) (A : Around) (outer : List Env) (s : Shared) (H : Hp) (E : XK) : Cx := (cxOf CX0 P w K mg base nLaw "law" (defScope sLaw) f (.ref c) A outer s H E).nox
abbrev rmL (k : Nat) (A : Around) (f c : Addr) (s : Shared) : Prop := Room k (A.deeper (envOfC "law" (defScope sLaw) s.heap.objs.size f (.ref c)))
abbrev bodyT : List Stmt := forB (nthS (defBody sLaw) 1)
abbrev bodyE : List Stmt := ifB1 (nthS (ifB2 (nthS bodyT 9)) 0)
/-- the slots in a turn -/
abbrev sg (a pp t x : Addr) (p : Nat) (c salt : Int) (len : Nat) (v2 v9 v10 v11 v12 v13 v14 v15 v16 v17 v18 v19 : Option V) : L2.St := [some (.ref a), some (.ref pp), v2, some (.ref t), some (.ref x), some (.int p), some (.int c), some (.int salt), some (.int len), v9, v10, v11, v12, v13, v14, v15, v16, v17, v18, v19]
/-- on with the next turn -/
def Nxt (D : Ends) (a pp l Pt : Addr) : Prop := ∀ (v2 v3 v4 v5 v6 v7 v8 v9 v10 v11 v12 v13 v14 v15 v16 v17 v18 v19 : Option V) (H' : Hp), PoolAt H' pp l → Tabs [(Pt, qL)] H' → D.nx [some (.ref a), some (.ref pp), v2, v3, v4, v5, v6, v7, v8, v9, v10, v11, v12, v13, v14, v15, v16, v17, v18, v19] H'
theorem tail2 {f c : Addr} {A : Around} {outer : List Env} {s : Shared} {H0 : Hp} {E : XK} (B : Bt mg) (hr : rmL 10 A f c s) : ∃ u, PSs (xL P w K mg base f c A outer s H0 E) (bodyE.drop 7) u ∧
    ∀ (D : Ends) (H : Hp) (a pp l Pt t x q dl : Addr) (p : Nat) (cc salt : Int) (len : Nat) (v2 v9 v11 v14 v15 v16 v18 v19 : Option V) (m : Int × List Nat) (ys : List V), Nxt D a pp l Pt → PoolAt H pp l → Tabs [(Pt, qL)] H → H dl = some (.lst ys) →
      (∀ c ∈ m.2, c < 26) → ((ys = [] ∧ H q = some (.tup (mV m))) ∨ ∃ (z : Addr) (n : Int) (r : List Nat) (rest : List V), ys = .ref z :: rest ∧ H z = some (.tup (mV (n, r))) ∧ (∀ c ∈ r, c < 26) ∧ H q = some (.tup [.str "bad", .str (tx r)])) →
      u D (sg a pp t x p cc salt len v2 v9 (some (.ref q)) v11 (some (.int m.1)) (some (.str (tx m.2))) v14 v15 v16 (some (.ref dl)) v18 v19) H := by
  refine ⟨_, pss_one (ps_if (pt_cmpR (op_neD hr.units) (pv 10) (pe_ifExp (pt_cmpR op_gt (pe_callB call_len_seq (by rfl) B.len PySem.boot_len (pa_cons (pv 17) pa_nil)) pe_int (nomark _)) (pe_tup (pa_cons pe_str (pa_cons (pe_ix ix_tup (pe_ix ix_list (pv 17) pe_int (fun _ _ => rfl)) pe_int (fun _ _ => rfl)) pa_nil)))
                  (pe_tup (pa_cons (pv 12) (pa_cons (pv 13) pa_nil)))) (nomark _)) (pss_one (ps_ret pe_bl)) pss_nil), ?_⟩
  intro D H a pp l Pt t x q dl p cc salt len v2 v9 v11 v14 v15 v16 v18 v19 m ys N hP hB hdl hm h
  have fin : ∀ H', Same H H' → D.nx (sg a pp t x p cc salt len v2 v9 (some (.ref q)) v11 (some (.int m.1)) (some (.str (tx m.2))) v14 v15 v16 (some (.ref dl)) v18 v19) H' := fun H' k => N _ _ _ _ _ _ _ _ _ _ _ _ _ _ _ _ _ _ H' (hP.same k) (Tabs.ext hB k)
  refine ⟨_, rfl, _, rfl, dl, ys, rfl, .inl (SqL.of hdl), _, _, rfl, rfl, _, rfl, ?_⟩
  rcases h with ⟨rfl, hq⟩ | ⟨z, n, r, rest, rfl, hz, hr26, hq⟩
  · refine iteF ⟨_, rfl, _, rfl, by show 2 ≤ sizeLine; decide, fun u hu => ?_⟩
    have k := Same.new (o := .tup [.int m.1, .str (tx m.2)]) hu
    refine ⟨mD m, mD m, mD_dp ⟨q, rfl, k _ _ hq⟩, mD_dp ⟨u, rfl, upd_same⟩, mD_sh hm, mD_sh hm, _, rfl, ?_⟩
    rw [mD_eq]
    exact iteF (fin _ k)
  · rw [show decide ((0 : Int) < (((V.ref z :: rest).length : Nat) : Int)) = true from decide_eq_true (by simp)]
    refine iteT ⟨_, rfl, dl, _, 0, .ref z, rfl, rfl, SqL.of hdl, at_of (j := 0) rfl rfl, z, _, 1, .str (tx r), rfl, rfl, SqT.of hz, at_of (j := 1) rfl rfl, by show 2 ≤ sizeLine; decide, fun u hu => ?_⟩
    have k := Same.new (o := .tup [.str "bad", .str (tx r)]) hu
    refine ⟨bD "bad" (tx r), bD "bad" (tx r), bD_dp (k _ _ hq), bD_dp upd_same, bD_sh (by decide +kernel) (tx_ok hr26), bD_sh (by decide +kernel) (tx_ok hr26), _, rfl, ?_⟩
    rw [bD_eq]
    exact iteF (fin _ k)
end
end K81
set_option maxRecDepth 100000
set_option maxHeartbeats 32000000
/-! The law: a turn with few rows. -/
namespace K81
open PySem PySem.Spec PyProof.Rows L2 LamX NdefX
section
variable {P : Program} {w : World} {K : PySem.W.Frag} {mg : Str → Option Value} {base : Heap}
theorem tail1 {f c Pt : Addr} {A : Around} {outer : List Env} {s : Shared} {H0 : Hp} {E : XK} (TB : TabB base mg c Pt) (B : Bt mg) (DD : LawD P w K mg) (kT : ∃ g, mg "_law_tried" = some (.ref g) ∧ PySem.W.keepIn K (.ref g) = true) (hr : rmL 10 A f c s) : ∃ u, PSs (xL P w K mg base f c A outer s H0 E) bodyE u ∧
    ∀ (D : Ends) (H : Hp) (a pp l t x q : Addr) (T : Tk) (p : Nat) (cc salt : Int) (len : Nat) (v2 v9 v11 v12 v13 v14 v15 v16 v17 v18 v19 : Option V) (m : Int × List Nat), Nxt D a pp l Pt → LawE K Pt pp l t x T H → Wf T → p < T.n → 0 ≤ cc → len ≤ 12 → cnt T len p ≤ 2000 → H q = some (.tup (mV m)) → minM (pairs (lv T (lbf T p salt) p cc len)) = some m →
      u D (sg a pp t x p cc salt len v2 v9 (some (.ref q)) v11 v12 v13 v14 v15 v16 v17 v18 v19) H := by
  have hr1 : Room 1 _ := hr.mono (by decide)
  have hr2 : Room 2 _ := hr.mono (by decide)
  have hr4 : Room 4 _ := hr.mono (by decide)
  have hr9 : Room 9 _ := hr.mono (by decide)
  obtain ⟨u2, hu2, ru2⟩ := tail2 (P := P) (w := w) (K := K) (mg := mg) (base := base) (outer := outer) (H0 := H0) (E := E) B hr
  refine ⟨_, pss_cons (ps_set (i := 11) scLaw.nd rfl (Or.inl rfl) (pe_d (DD.ends base) hr4 (by rfl) (pa_cons (pv 3) (pa_cons (pv 5) (pa_cons (pv 6) (pa_cons (pv 7) (pa_cons (pv 8) pa_nil)))))))
    (pss_cons (ps_asg (pe_callB (cr_minD rfl (hu66 hr)) (by rfl) B.min (by decide +kernel) (pa_cons (pe_lc (own := [("_law_have", 12), ("_law_text", 13), ("_law_here", 14)]) (g := gTup K 3 (gCons (gName 12) (gCons (gName 13) (gCons (gName 14) gNil)))) (tt := tYes) rfl scLaw.nd (pi_list (pv 11)) (blkOk_by (N := nLaw) (sc := defScope sLaw) (by decide +kernel))
                (fun _ _ _ _ _ => pg_tup rfl (pgs_cons (pg_name (i := 12) scLaw.nd rfl (Or.inl rfl)) (pgs_cons (pg_name (i := 13) scLaw.nd rfl (Or.inl rfl)) (pgs_cons (pg_name (i := 14) scLaw.nd rfl (Or.inl rfl)) pgs_nil))))
                (fun _ _ _ _ _ => pts_nil) (fun _ _ _ _ _ => pe_tup (pa_cons (pv 12) (pa_cons (pv 13) pa_nil)))) pa_nil)) (pg_tup rfl (pgs_cons (pg_name (i := 12) scLaw.nd rfl (Or.inl rfl)) (pgs_cons (pg_name (i := 13) scLaw.nd rfl (Or.inl rfl)) pgs_nil))))
    (pss_cons (ps_if (PW.pt (pw_or (pt_cmpR (op_neD hr.units) (pv 10) (pe_tup (pa_cons (pv 12) (pa_cons (pv 13) pa_nil))) (nomark _)) (pw_or (pt_not (pt_val (pe_d (DD.int base) hr1 (by rfl) (pa_cons (pe_ix ix_tup (pv 10) pe_int (fun _ _ => rfl)) pa_nil))))
                (pw_or1 (pt_not (pt_val (pe_callB call_isi (by rfl) B.isinstance (by decide +kernel) (pa_cons (pv 10) (pa_cons (pe_bltn (v := .ty "tuple") (by rfl) B.tuple (by decide +kernel) rfl) pa_nil))))))))) (pss_one (ps_ret pe_bl)) pss_nil)
    (pss_cons (ps_set (i := 15) scLaw.nd rfl (Or.inr rfl) (pe_lc (own := [("_law_k", 16)]) (g := gName 16) (tt := tYes) rfl scLaw.nd (pi_range1 rfl B.range (pa_cons pe_int pa_nil)) (blkOk_by (N := nLaw) (sc := defScope sLaw) (by decide +kernel))
                (fun _ _ _ _ _ => pg_name (i := 16) scLaw.nd rfl (Or.inl rfl)) (fun _ _ _ _ _ => pts_nil) (fun _ _ _ _ _ => pe_d (DD.walk base) hr2 (by rfl) (pa_cons (pv 1) (pa_cons (pv 3) (pa_cons (pv 5) (pa_cons (pe_d (DD.draw base) hr1 (by rfl) (pa_cons (pv 1) (pa_cons (pe_op op_add (pv 8) pe_int) pa_nil))) pa_nil)))))))
    (pss_cons (ps_set (i := 17) scLaw.nd rfl (Or.inl rfl) (pe_callB (cr_sortD hr.units) (by rfl) B.sorted (by decide +kernel) (pa_cons (pe_lc (own := [("_law_row", 18)]) (g := gName 18) (tt := _) rfl scLaw.nd (pi_list (pv 15)) (blkOk_by (N := nLaw) (sc := defScope sLaw) (by decide +kernel))
                (fun _ _ _ _ _ => pg_name (i := 18) scLaw.nd rfl (Or.inl rfl)) (fun _ _ _ _ _ => pts_one (pt_cmpR op_lt (pe_callB call_len_str (by rfl) B.len PySem.boot_len (pa_cons (pv 18) pa_nil)) (pv 8) (nomark _)))
                (fun _ _ _ _ _ => pe_tup (pa_cons (pe_callB call_len_str (by rfl) B.len PySem.boot_len (pa_cons (pv 18) pa_nil)) (pa_cons (pv 18) pa_nil)))) pa_nil)))
    (pss_lam (T := [(Pt, qL)]) (i := 19) TB rfl (List.mem_singleton.mpr rfl) (fun p hp _ => by rw [List.mem_singleton.mp hp]; rfl) rfl freeO scLaw.nd rfl rfl rfl rfl rfl
      (fun f c' pm ctv pn hin => ps_set (i := 10) scLaw.nd rfl (Or.inl rfl) (pe_big (js := [5, 7, 3, 15]) (sp := spO K f c') (fun ws pins σ H s I hw => (DD.tried (big _ s.heap H)).imp fun vs H' Q E ⟨t, wl, T, p, salt, wss, hws, W, hp, h⟩ =>
        ⟨f, T, p, _, _, bet_odd (pin_big I hin) (by rw [← hws]; exact cellsB_big I (fun _ => rfl) (Caps.made I.ok freeO frO rfl) hw) W hp (DD.odd _), h⟩) kT hr9 (by rfl) (pa_cons (pv 4) (pa_cons (pv 5) (pa_cons (pv 6) (pa_cons (pv 19) (pa_cons (pv 8) pa_nil)))))))
      hu2))))), ?_⟩
  intro D H a pp l t x q T p cc salt len v2 v9 v11 v12 v13 v14 v15 v16 v17 v18 v19 m N L W hp hcc h12 hcnt hq hm
  have hm26 := min_letters W (bet_ok W hp salt) hcc hm
  refine ⟨_, rfl, _, rfl, _, rfl, _, rfl, _, rfl, t, p, len, cc, salt, T, rfl, L.D, W, hp, hcc, h12, hcnt, fun H1 el us k1 hel hus => ?_⟩
  refine ⟨_, rfl, el, rfl, ⟨_, SqL.of hel⟩, fun Dm hDm => ?_⟩
  refine lc_list (K := K) (a := el) (xs := us) (fun j H' => Same H1 H' ∧ ∃ zs, H' Dm = some (.lst zs) ∧ TupsP H' mV zs (pairs ((lv T (lbf T p salt) p cc len).take j)))
    ⟨Same.new hDm, [], upd_same, .nil⟩ (fun j H' _ ⟨e, _⟩ => SqL.of (e _ _ hel)) (fun j y H6 hy ⟨k6, zs, hd, hzs⟩ => ?_) (fun H2 ⟨k2, zs, hd, hzs⟩ => ?_)
  · obtain ⟨it, u, hit, rfl, hu⟩ := hus.get' hy
    refine ⟨u, eV it, rfl, SqT.of (k6 _ _ hu), rfl, _, _, rfl, _, _, rfl, _, _, rfl, rfl, rfl, ?_⟩
    refine ⟨_, rfl, _, rfl, (by show 2 ≤ sizeLine; decide), fun w hw => ?_⟩
    have nwD : Dm ≠ w := ne_of_none hd hw
    refine ⟨zs, by rw [upd_ne nwD]; exact hd, ?_, Same.put (k6.trans (Same.new hw)) hDm, _, upd_same, ?_⟩
    · have h0 : zs.length = _ := hzs.len
      unfold pairs at h0
      rw [List.length_map] at h0
      rw [h0, sizeLine_eq]
      have h1 := List.length_take_le' j (lv T (lbf T p salt) p cc len)
      have h2 := lv_len T (lbf T p salt) p cc len
      omega
    · unfold pairs at hzs ⊢
      rw [take_snoc hit, List.map_append]
      refine pd_app (TupsP.mono hzs fun b ys e => ?_) (.cons ⟨w, rfl, by rw [upd_ne nwD.symm, upd_same]; rfl⟩ .nil)
      rw [upd_ne (ne_of e hd (fun z => by cases z)), upd_ne (ne_of_none e hw)]
      exact e
  rw [hus.len, List.take_length] at hzs
  cases hl : pairs (lv T (lbf T p salt) p cc len) with
  | nil => rw [hl] at hm; cases hm
  | cons b0 bs =>
  rw [hl] at hzs
  refine ⟨Int × List Nat, fun v b => ∃ p, v = V.ref p ∧ H2 p = some (.tup (mV b)), mD, Dm, zs, b0, bs, rfl, SqL.of hd, hzs, fun x b h => mD_dp h, fun b c _ _ => mD_alike b c, fun b _ => ⟨(fun z => nomatch z), mD_depth b⟩, fun y hy => ?_⟩
  obtain ⟨q2, rfl, hq2⟩ := hy
  have em : bestOf (fun b c => PySem.W.dataLt (mD b) (mD c)) b0 bs = m := by
    rw [hl] at hm
    have hm : some _ = some m := hm
    rw [← Option.some.inj hm, show (fun x y => decide (mLt x y)) = fun b c => PySem.W.dataLt (mD b) (mD c) from funext fun x => funext fun y => (mD_lt x y).symm]
  rw [em] at hq2
  have k02 := k1.trans k2
  have L2 := L.same k02
  have hqa := k02 _ _ hq
  refine ⟨q2, mV m, rfl, SqT.of hq2, rfl, _, _, rfl, _, _, rfl, rfl, ?_⟩
  -- made is right
  refine ⟨_, rfl, _, rfl, _, rfl, by show 2 ≤ sizeLine; decide, fun u hu => ?_⟩
  have k3 := Same.new (o := .tup [.int m.1, .str (tx m.2)]) hu
  refine ⟨mD m, mD m, mD_dp ⟨q, rfl, k3 _ _ hqa⟩, mD_dp ⟨u, rfl, upd_same⟩, mD_sh hm26, mD_sh hm26, _, rfl, ?_⟩
  rw [mD_eq]
  refine iteF ?_
  have hq3 := k3 _ _ hqa
  have L3 := L2.same k3
  refine ⟨_, rfl, q, _, 0, .int m.1, rfl, rfl, SqT.of hq3, at_of (j := 0) rfl rfl, m.1, rfl, true, rfl, iteF ?_⟩
  refine ⟨_, rfl, _, _, _, _, _, rfl, .ty _, .base (.tup hq3), kit_ty (by decide +kernel), true, rfl, iteF ?_⟩
  -- the wrong rows
  generalize upd H2 u (.tup [.int m.1, .str (tx m.2)]) = H3 at L3 hq3
  refine ⟨3, rfl, by omega, by omega, fun Dw hDw => ?_⟩
  have nDw := notPD L3.P hDw
  refine lc_range (lo := 0) (n := (3 : Int).toNat) (fun i H' => Kp (PD pp l) H3 H' ∧ PoolAt H' pp l ∧ ∃ ws : List (List Nat), H' Dw = some (.lst (ws.map fun r => V.str (tx r))) ∧ ws.length = i ∧ ∀ r ∈ ws, (∃ g, ledM T p r = some g) ∧ r.length ≤ 13)
    ⟨Kp.of (Same.new hDw), L3.P.same (Same.new hDw), [], upd_same, rfl, fun r hr => nomatch hr⟩ (fun i H' hi ⟨k4, P4, ws, hw1, hw2, hw3⟩ => ?_) (fun H4 ⟨k4, P4, ws, hw1, hw2, hw3⟩ => ?_)
  · have L4 := L3.kp k4 P4
    refine ⟨rfl, _, rfl, _, rfl, _, rfl, _, rfl, _, rfl, _, _, rfl, rfl, pp, l, _, rfl, P4, by omega, by omega, fun d H5 d1 d2 k5 P5 => ?_⟩
    obtain ⟨d, rfl⟩ := Int.eq_ofNat_of_zero_le d1
    have L5 := L4.kp k5 P5
    refine ⟨pp, l, t, p, d, T, rfl, P5, L5.D, W, hp, by omega, fun r g H6 k6 P6 hrl hg => ?_⟩
    refine ⟨_, k6 _ _ (k5 _ _ hw1 nDw) nDw, by rw [List.length_map, sizeLine_eq]; omega, ((k4.trans k5).trans k6).put hDw, P6.put nDw, ws ++ [r], by rw [upd_same, List.map_append]; rfl, by rw [List.length_append, hw2]; rfl, fun r' hr' => ?_⟩
    rcases List.mem_append.mp hr' with hr' | hr'
    · exact hw3 r' hr'
    · rw [List.mem_singleton.mp hr']
      exact ⟨⟨g, hg⟩, by omega⟩
  have L4 := L3.kp k4 P4
  have hq4 := k4 _ _ hq3 (notPDo L3.P hq3 fun xs z => nomatch z)
  -- the short ones, sorted
  refine ⟨_, rfl, Dw, rfl, ⟨_, SqL.of hw1⟩, fun Dd hDd => ?_⟩
  refine lc_list (K := K) (a := Dw) (xs := ws.map fun r => V.str (tx r)) (fun j H' => Same H4 H' ∧ ∃ zs, H' Dd = some (.lst zs) ∧ TupsP H' mV zs (dueM (ws.take j) len))
    ⟨Same.new hDd, [], upd_same, .nil⟩ (fun j H' _ ⟨e, _⟩ => SqL.of (e _ _ hw1)) (fun j y H5 hy ⟨k5, zs, hd, hzs⟩ => ?_) (fun H5 ⟨k5, zs, hd, hzs⟩ => ?_)
  · rw [List.getElem?_map] at hy
    cases hr' : ws[j]? with
    | none => rw [hr'] at hy; cases hy
    | some r =>
      rw [hr'] at hy
      cases hy
      have h13 := (hw3 r (List.mem_of_getElem? hr')).2
      have hsz : (tx r).length ≤ sizeLine := by rw [tx_len, sizeLine_eq]; omega
      refine ⟨rfl, _, rfl, tx r, rfl, hsz, _, rfl, _, _, rfl, rfl, _, rfl, ?_⟩
      have ed := due_snoc (ws.take j) r len
      rw [← take_snoc hr'] at ed
      refine ifB (fun hlt => ?_) (fun hge => ?_)
      · have hlt : r.length < len := by
          have := of_decide_eq_true hlt
          rw [tx_len] at this
          omega
        refine ⟨_, rfl, tx r, rfl, hsz, _, rfl, by show 2 ≤ sizeLine; decide, fun u hu => ?_⟩
        have nuD : Dd ≠ u := ne_of_none hd hu
        refine ⟨zs, by rw [upd_ne nuD]; exact hd, ?_, Same.put (k5.trans (Same.new hu)) hDd, _, upd_same, ?_⟩
        · have h0 : zs.length = _ := hzs.len
          unfold dueM at h0
          rw [List.length_map] at h0
          rw [h0, sizeLine_eq]
          have h1 := List.length_filter_le (fun r : List Nat => decide (r.length < len)) (ws.take j)
          have h2 := List.length_take_le' j ws
          have h3 : ws.length = 3 := by rw [hw2]; rfl
          omega
        · rw [ed, if_pos hlt]
          refine pd_app (TupsP.mono hzs fun b ys e => ?_) (.cons ⟨u, rfl, by rw [upd_ne nuD.symm, upd_same, tx_len]; rfl⟩ .nil)
          rw [upd_ne (ne_of e hd (fun z => by cases z)), upd_ne (ne_of_none e hu)]
          exact e
      · have hge : ¬ r.length < len := by
          have := of_decide_eq_false hge
          rw [tx_len] at this
          omega
        refine ⟨k5, zs, hd, ?_⟩
        rw [ed, if_neg hge, List.append_nil]
        exact hzs
  rw [List.length_map, List.take_length] at hzs
  refine ⟨Int × List Nat, (fun v b => ∃ p, v = V.ref p ∧ H5 p = some (.tup (mV b))), mD, Dd, zs, dueM ws len, rfl, SqL.of hd, hzs, fun x b h => mD_dp h, mAll _, mSor _, fun b _ => mD_depth b, fun dl ys hdl hys => ?_⟩
  have k56 := k5.trans (Same.new (o := .lst ys) hdl)
  have hys6 : TupsP (upd H5 dl (.lst ys)) mV ys ((dueM ws len).mergeSort (PySem.W.dataLe false mD)) := TupsP.same hys (Same.new hdl)
  have hdl6 : upd H5 dl (.lst ys) dl = some (.lst ys) := upd_same
  have L6 := L4.same k56
  have hw6 := k56 _ _ hw1
  have hq6 := k56 _ _ hq4
  generalize upd H5 dl (.lst ys) = H6 at hys6 hdl6 L6 hw6 hq6
  have hws : ∀ r ∈ ws, ∃ g, ledM T p r = some g := fun r hr => (hw3 r hr).1
  -- the second try
  refine ⟨L6.B, fun f2 c2 H7 eN T7 hfn hco => ?_⟩
  have L7 := L6.ext eN T7
  have hw7 := eN _ _ hw6 (fun ps z => nomatch z)
  have hdl7 := eN _ _ hdl6 (fun ps z => nomatch z)
  have hys7 : TupsP H7 mV ys ((dueM ws len).mergeSort (PySem.W.dataLe false mD)) := hys6.mono fun b xs e => eN _ _ e fun ps z => nomatch z
  refine ⟨[.int p, .int salt, .ref t, .ref Dw], rfl, _, rfl, _, rfl, _, rfl, _, rfl, _, rfl, t, Dw, T, p, salt, ws, rfl, W, hp, x, cc, len, _, rfl, L7.X, W, hp, ⟨L7.D, hco, hw7⟩, hcc, h12, fun hgt => ?_, fun _ hall H8 q8 m8 k8 hq8 hm8 => ?_, fun _ r hbad H8 q8 k8 hq8 => ?_⟩
  · omega
  · have e0 := due_ok W hp hcc hws hall
    rw [e0] at hys7
    have ey : ys = [] := by
      have h0 : ys.length = 0 := by rw [hys7.len, List.mergeSort_nil]; rfl
      exact List.eq_nil_of_length_eq_zero h0
    have em8 : m8 = m := by
      rw [lv_same len hall, hm] at hm8
      exact (Option.some.inj hm8).symm
    rw [em8] at hq8
    exact ru2 D H8 a pp l Pt t x q8 dl p cc salt len _ _ _ _ _ _ _ _ m ys N (L7.P.same k8) (Tabs.ext L7.B k8) (k8 _ _ hdl7) hm26 (.inl ⟨ey, hq8⟩)
  · obtain ⟨rest, hs⟩ := due_bad W hp hcc hws hbad
    rw [hs] at hys7
    obtain ⟨z, hz1, hz2⟩ := hys7.get (i := 0) (b := ((r.length : Int), r)) rfl
    cases ys with
    | nil => cases hz1
    | cons y ys =>
      cases hz1
      exact ru2 D H8 a pp l Pt t x q8 dl p cc salt len _ _ _ _ _ _ _ _ m _ N (L7.P.same k8) (Tabs.ext L7.B k8) (k8 _ _ hdl7) hm26 (.inr ⟨z, _, r, ys, rfl, k8 _ _ hz2, bad_letters W (odd_ok W hp salt ws) hcc hbad, hq8⟩)
end
end K81
set_option maxRecDepth 100000
set_option maxHeartbeats 32000000
/-! The law: its whole body. -/
namespace K81
open PySem PySem.Spec PyProof.Rows L2 LamX NdefX
section
variable {P : Program} {w : World} {K : PySem.W.Frag} {mg : Str → Option Value} {base : Heap}
theorem tail0 {f c Pt : Addr} {A : Around} {outer : List Env} {s : Shared} {H0 : Hp} {E : XK} (TB : TabB base mg c Pt) (B : Bt mg) (DD : LawD P w K mg) (kT : ∃ g, mg "_law_tried" = some (.ref g) ∧ PySem.W.keepIn K (.ref g) = true) (hr : rmL 10 A f c s) : ∃ u, PSs (xL P w K mg base f c A outer s H0 E) (bodyT.drop 9) u ∧
    ∀ (D : Ends) (H : Hp) (a pp l t x q : Addr) (T : Tk) (p : Nat) (cc salt : Int) (len : Nat) (v2 v9 v11 v12 v13 v14 v15 v16 v17 v18 v19 : Option V), Nxt D a pp l Pt → LawE K Pt pp l t x T H → Wf T → p < T.n → 0 ≤ cc → len ≤ 12 →
      ((2000 < cnt T len p ∧ H q = some (.tup [.str "many", .int 2000])) ∨ (cnt T len p ≤ 2000 ∧ ∃ m, H q = some (.tup (mV m)) ∧ minM (pairs (lv T (lbf T p salt) p cc len)) = some m)) →
      u D (sg a pp t x p cc salt len v2 v9 (some (.ref q)) v11 v12 v13 v14 v15 v16 v17 v18 v19) H := by
  have hr2 : Room 2 _ := hr.mono (by decide)
  obtain ⟨u1, hu1, ru1⟩ := tail1 (P := P) (w := w) (K := K) (mg := mg) (base := base) (outer := outer) (H0 := H0) (E := E) TB B DD kT hr
  refine ⟨_, pss_one (ps_if (pt_cmpR op_gt (pe_d (DD.many base) hr2 (by rfl) (pa_cons (pv 3) (pa_cons (pv 5) (pa_cons (pv 8) pa_nil)))) pe_int (nomark _))
          (pss_one (ps_if (pt_cmpR (op_neD hr.units) (pv 10) (pe_tup (pa_cons pe_str (pa_cons pe_int pa_nil))) (nomark _)) (pss_one (ps_ret pe_bl)) pss_nil))
          (pss_one (ps_if (pt_cmpR op_lt (pe_d (DD.many base) hr2 (by rfl) (pa_cons (pv 3) (pa_cons (pv 5) (pa_cons (pv 8) pa_nil)))) pe_int (nomark _)) hu1 pss_nil))), ?_⟩
  intro D H a pp l t x q T p cc salt len v2 v9 v11 v12 v13 v14 v15 v16 v17 v18 v19 N L W hp hcc h12 h
  refine ⟨_, rfl, _, rfl, _, rfl, t, p, len, T, rfl, L.D, W, hp, h12, fun H1 k1 => ⟨_, _, rfl, rfl, _, rfl, ?_⟩⟩
  have L1 := L.same k1
  rcases h with ⟨hgt, hq⟩ | ⟨hle, m, hq, hm⟩
  · rw [show decide ((2000 : Int) < (cnt T len p : Int)) = true from decide_eq_true (by omega)]
    refine iteT ⟨_, rfl, by show 2 ≤ sizeLine; decide, fun u hu => ?_⟩
    have k2 := Same.new (o := .tup [.str "many", .int 2000]) hu
    refine ⟨nD "many" 2000, nD "many" 2000, nD_dp (k2 _ _ (k1 _ _ hq)), nD_dp upd_same, nD_sh _ (by decide +kernel), nD_sh _ (by decide +kernel), _, rfl, ?_⟩
    rw [nD_eq]
    exact iteF (N _ _ _ _ _ _ _ _ _ _ _ _ _ _ _ _ _ _ _ (L1.P.same k2) (Tabs.ext L1.B k2))
  · rw [show decide ((2000 : Int) < (cnt T len p : Int)) = false from decide_eq_false (by omega)]
    refine iteF ⟨_, rfl, _, rfl, _, rfl, t, p, len, T, rfl, L1.D, W, hp, h12, fun H2 k2 => ⟨_, _, rfl, rfl, _, rfl, ?_⟩⟩
    have L2 := L1.same k2
    refine ifB (fun _ => ?_) (fun _ => N _ _ _ _ _ _ _ _ _ _ _ _ _ _ _ _ _ _ _ L2.P L2.B)
    exact ru1 D H2 a pp l t x q T p cc salt len _ _ _ _ _ _ _ _ _ _ _ m N L2 W hp hcc h12 hle (k2 _ _ (k1 _ _ hq)) hm
theorem ok_law {f c Pt : Addr} {fd : FuncData} (F : LawAtC K f c fd) (TB : TabB base mg c Pt) (B : Bt mg) (DD : LawD P w K mg) (kT : ∃ g, mg "_law_tried" = some (.ref g) ∧ PySem.W.keepIn K (.ref g) = true) : FnOk P w K mg base CX0 11 f fd ["_law_script"] (spLaw K Pt) := by
  obtain ⟨oc, od, an, kV, doc, pm, ct, osl, rfl, lk, hcd⟩ := F
  refine fn_of lk hcd scLaw (fun vs H Q E h => ?_) fun A outer s H vs Q E hr h => ?_
  · obtain ⟨a, ns, rfl, _⟩ := h
    rfl
  suffices hh : ∃ t, PSs (xL P w K mg base f c A outer s H E) (defBody sLaw) t ∧ t { nx := fun _ H' => Q .non H', rt := Q } (start nLaw vs) H by
    obtain ⟨t, h1, h2⟩ := hh
    exact ⟨t, h1.nox, h2⟩
  obtain ⟨a, ns, rfl, ha, hz, hPt, hQ⟩ := h
  have hr1 : Room 1 _ := hr.mono (by decide)
  have hr2 : Room 2 _ := hr.mono (by decide)
  have hr3 : Room 3 _ := hr.mono (by decide)
  have hr7 : Room 7 _ := hr.mono (by decide)
  have hr8 : Room 8 _ := hr.mono (by decide)
  have hr9 : Room 9 _ := hr.mono (by decide)
  obtain ⟨u0, hu0, ru0⟩ := tail0 (P := P) (w := w) (K := K) (mg := mg) (base := base) (outer := outer) (H0 := H) (E := E) TB B DD kT hr
  refine ⟨_, pss_cons (ps_set (i := 1) scLaw.nd rfl (Or.inr rfl) (pe_d (DD.pool base) hr1 (by rfl) (pa_cons (pv 0) pa_nil)))
    (pss_cons (ps_for PassesOwn.never rfl (pi_range1 rfl B.range (pa_cons pe_int pa_nil)) (pg_name (i := 2) scLaw.nd rfl (Or.inl rfl))
      (pss_cons (ps_set (i := 3) scLaw.nd rfl (Or.inr rfl) (pe_d (DD.told base) hr3 (by rfl) (pa_cons (pv 1) (pa_cons pe_int pa_nil))))
      (pss_cons (ps_set (i := 4) scLaw.nd rfl (Or.inl rfl) (pe_d (DD.track base) hr7 (by rfl) (pa_cons (pv 3) pa_nil)))
      (Evl.pss_cut (ps_if (pt_cmpR op_eq (pe_d (DD.draw base) hr1 (by rfl) (pa_cons (pv 1) (pa_cons pe_int pa_nil))) pe_int (nomark _))
          (pss_one (ps_asg (pe_d (DD.wide base) hr8 (by rfl) (pa_cons (pv 1) pa_nil)) (pg_tup rfl (pgs_cons (pg_name (i := 3) scLaw.nd rfl (Or.inr rfl)) (pgs_cons (pg_name (i := 4) scLaw.nd rfl (Or.inl rfl)) pgs_nil))))) pss_nil)
      (pss_cons (ps_set (i := 5) scLaw.nd rfl (Or.inr rfl) (pe_d (DD.draw base) hr1 (by rfl) (pa_cons (pv 1) (pa_cons (pe_ix ix_tup (pv 3) pe_int (fun _ _ => rfl)) pa_nil))))
      (pss_cons (ps_set (i := 6) scLaw.nd rfl (Or.inl rfl) (pe_d (DD.coins base) hr2 (by rfl) (pa_cons (pv 1) pa_nil)))
      (pss_cons (ps_set (i := 7) scLaw.nd rfl (Or.inr rfl) (pe_d (DD.draw base) hr1 (by rfl) (pa_cons (pv 1) (pa_cons pe_int pa_nil))))
      (Evl.pss_cut (ps_set (i := 8) scLaw.nd rfl (Or.inr rfl) (pe_d (DD.draw base) hr1 (by rfl) (pa_cons (pv 1) (pa_cons (pe_ifExp (pt_cmpR op_eq (pe_d (DD.draw base) hr1 (by rfl) (pa_cons (pv 1) (pa_cons pe_int pa_nil))) pe_int (nomark _)) pe_int pe_int) pa_nil))))
      (pss_lam (T := [(Pt, qL)]) (i := 9) TB rfl (List.mem_singleton.mpr rfl) (fun p hp _ => by rw [List.mem_singleton.mp hp]; rfl) rfl freeP scLaw.nd rfl rfl rfl rfl rfl
          (fun f c' pm ctv pn hin => ps_set (i := 10) scLaw.nd rfl (Or.inl rfl) (pe_big (js := [5, 7, 3]) (sp := spP K f c') (fun ws pins σ H s I hw => (DD.tried (big _ s.heap H)).imp fun vs H' Q E ⟨t, T, p, salt, hws, W, hp, h⟩ =>
            ⟨f, T, p, _, _, bet_plain (pin_big I hin) (by rw [← hws]; exact cellsB_big I (fun _ => rfl) (Caps.made I.ok freeP frP rfl) hw) W hp (DD.bet _), h⟩) kT hr9 (by rfl) (pa_cons (pv 4) (pa_cons (pv 5) (pa_cons (pv 6) (pa_cons (pv 9) (pa_cons (pv 8) pa_nil)))))))
        hu0)))))))))
    (pss_one (ps_ret pe_bl))), ?_⟩
  refine ⟨_, rfl, a, ns, rfl, ha, hz, fun pp l H1 k1 hpp hl P1 => ?_⟩
  have B1 : Tabs [(Pt, qL)] H1 := fun x hx => by
    rw [List.mem_singleton.mp hx]
    exact TabS.nil (k1 _ _ hPt)
  refine ⟨4, rfl, by omega, by omega, for_range (lo := 0) (n := (4 : Int).toNat) (fun i σ H' => ∃ (v2 v3 v4 v5 v6 v7 v8 v9 v10 v11 v12 v13 v14 v15 v16 v17 v18 v19 : Option V), σ = [some (.ref a), some (.ref pp), v2, v3, v4, v5, v6, v7, v8, v9, v10, v11, v12, v13, v14, v15, v16, v17, v18, v19] ∧ PoolAt H' pp l ∧ Tabs [(Pt, qL)] H')
    ⟨_, _, _, _, _, _, _, _, _, _, _, _, _, _, _, _, _, _, rfl, P1, B1⟩ ?_ ?_⟩
  · rintro i σ H2 hi ⟨v2, v3, v4, v5, v6, v7, v8, v9, v10, v11, v12, v13, v14, v15, v16, v17, v18, v19, rfl, P2, B2⟩
    refine ⟨_, rfl, pp, l, 4, rfl, P2, by omega, by omega, fun t T H3 k3 P3 hT W h4 harr => ?_⟩
    refine ⟨_, rfl, t, T, rfl, hT, W, by omega, fun H4 x k4 hx => ?_⟩
    have L4 : LawE K Pt pp l t x T H4 := ⟨P3.same k4, hT.same k4, hx.weak fun b o _ e => notPD P3 e, Tabs.ext (Tabs.kp B2 P2 k3) k4⟩
    refine ⟨fun σ H' => ∃ (t x : Addr) (T : Tk), σ = [some (.ref a), some (.ref pp), some (.int (0 + (i : Int))), some (.ref t), some (.ref x), v5, v6, v7, v8, v9, v10, v11, v12, v13, v14, v15, v16, v17, v18, v19] ∧ Wf T ∧ LawE K Pt pp l t x T H', ?_, ?_⟩
    · refine ⟨_, rfl, pp, l, 8, rfl, L4.P, by omega, by omega, fun d H5 _ _ k5 P5 => ⟨rfl, _, rfl, ifB (fun _ => ?_) (fun _ => ⟨t, x, T, rfl, W, L4.kp k5 P5⟩)⟩⟩
      have L5 := L4.kp k5 P5
      refine ⟨_, rfl, pp, l, rfl, P5, fun q t' x' T' H6 k6 P6 hq hT' W' hx' => ?_⟩
      exact ⟨q, _, rfl, SqT.of hq, rfl, _, _, rfl, _, _, rfl, rfl, t', x', T', rfl, W', P6, hT', hx', Tabs.kp L5.B P5 k6⟩
    rintro σ H5 ⟨t, x, T, rfl, W, L5⟩
    obtain ⟨ta, as, t1, t2, t3⟩ := L5.D.ex
    have hn1 := W.pos
    have hn2 := W.le
    refine ⟨_, rfl, _, rfl, t, _, 0, .int T.n, rfl, rfl, SqT.of t1, at_of (j := 0) rfl rfl, pp, l, (T.n : Int), rfl, L5.P, by omega, by omega, fun p H6 g1 g2 k6 P6 => ?_⟩
    obtain ⟨p, rfl⟩ := Int.eq_ofNat_of_zero_le g1
    have hp : p < T.n := by omega
    have L6 := L5.kp k6 P6
    refine ⟨_, rfl, pp, l, rfl, P6, fun cc H7 hcc k7 P7 => ?_⟩
    have L7 := L6.kp k7 P7
    refine ⟨_, rfl, pp, l, 1000, rfl, P7, by omega, by omega, fun salt H8 _ _ k8 P8 => ?_⟩
    have L8 := L7.kp k8 P8
    refine ⟨fun σ H' => ∃ len : Nat, σ = sg a pp t x p cc salt len (some (.int (0 + (i : Int)))) v9 v10 v11 v12 v13 v14 v15 v16 v17 v18 v19 ∧ len ≤ 12 ∧ LawE K Pt pp l t x T H', ?_, ?_⟩
    · refine ⟨_, rfl, _, rfl, pp, l, 3, rfl, P8, by omega, by omega, fun d H9 _ _ k9 P9 => ⟨rfl, _, rfl, ifB (fun _ => ?_) (fun _ => ?_)⟩⟩
      · have L9 := L8.kp k9 P9
        refine ⟨pp, l, 13, rfl, P9, by omega, by omega, fun ln H10 g1 g2 k10 P10 => ?_⟩
        obtain ⟨ln, rfl⟩ := Int.eq_ofNat_of_zero_le g1
        exact ⟨ln, rfl, by omega, L9.kp k10 P10⟩
      · have L9 := L8.kp k9 P9
        refine ⟨pp, l, 6, rfl, P9, by omega, by omega, fun ln H10 g1 g2 k10 P10 => ?_⟩
        obtain ⟨ln, rfl⟩ := Int.eq_ofNat_of_zero_le g1
        exact ⟨ln, rfl, by omega, L9.kp k10 P10⟩
    rintro σ H9 ⟨len, rfl, h12, L9⟩
    refine ⟨L9.B, fun f2 c2 H10 eN T10 hfn hco => ?_⟩
    have L10 := L9.ext eN T10
    refine ⟨[.int p, .int salt, .ref t], rfl, _, rfl, _, rfl, _, rfl, _, rfl, _, rfl, t, T, p, salt, rfl, W, hp, x, cc, len, _, rfl, L10.X, W, hp, ⟨L10.D, hco⟩, hcc, h12, fun hgt H11 q k11 hq => ?_, fun hle _ H11 q m k11 hq hm => ?_, fun _ r hbad => (no_bad hbad).elim⟩
    · exact ru0 _ H11 a pp l t x q T p cc salt len _ _ _ _ _ _ _ _ _ _ _ (fun _ _ _ _ _ _ _ _ _ _ _ _ _ _ _ _ _ _ H' h1 h2 => ⟨_, _, _, _, _, _, _, _, _, _, _, _, _, _, _, _, _, _, rfl, h1, h2⟩) (L10.same k11) W hp hcc h12 (.inl ⟨hgt, hq⟩)
    · exact ru0 _ H11 a pp l t x q T p cc salt len _ _ _ _ _ _ _ _ _ _ _ (fun _ _ _ _ _ _ _ _ _ _ _ _ _ _ _ _ _ _ H' h1 h2 => ⟨_, _, _, _, _, _, _, _, _, _, _, _, _, _, _, _, _, _, rfl, h1, h2⟩) (L10.same k11) W hp hcc h12 (.inr ⟨hle, m, hq, hm⟩)
  · rintro σ H2 ⟨v2, v3, v4, v5, v6, v7, v8, v9, v10, v11, v12, v13, v14, v15, v16, v17, v18, v19, rfl, P2, B2⟩
    exact hQ H2
end
end K81
set_option maxRecDepth 100000
set_option maxHeartbeats 8000000
/-! All defs keep their promises, from what the top has made. -/
namespace K81
open PySem PySem.Spec PyProof.Rows L2 LamX NdefX
/-- what the top has made -/
structure TopF (P : Program) (w : World) (K : PySem.W.Frag) (mg : Str → Option Value) (CT CR CB CM : Addr) : Prop where
  d10 : DefAt K mg "is_integer" (top 10)
  d11 : DefAt K mg "is_within" (top 11)
  d12 : DefAt K mg "is_from" (top 12)
  d13 : DefAt K mg "is_letter" (top 13)
  d14 : DefAt K mg "are_ascending" (top 14)
  d15 : DefAt K mg "check_number" (top 15)
  d16 : DefAt K mg "check_many" (top 16)
  d17 : DefAt K mg "check_coins" (top 17)
  d22 : DefAt K mg "is_arrow" (top 22)
  d23 : DefAt K mg "are_arrows" (top 23)
  d26 : DefAt K mg "raw_track" (top 26)
  d27 : DefAt K mg "is_place" (top 27)
  d28 : DefAt K mg "check_place" (top 28)
  d29 : DefAt K mg "steps_of" (top 29)
  d31 : DefAt K mg "is_stake_there" (top 31)
  d32 : DefAt K mg "behind" (top 32)
  d35 : DefAt K mg "counts_to" (top 35)
  d36 : DefAt K mg "many_of" (top 36)
  d39 : DefAt K mg "stake_of" (top 39)
  d40 : DefAt K mg "worst" (top 40)
  d42 : DefAt K mg "side" (top 42)
  d44 : DefAt K mg "_law_pool" (top 44)
  d45 : DefAt K mg "_law_draw" (top 45)
  d46 : DefAt K mg "_law_signs" (top 46)
  d47 : DefAt K mg "_law_told" (top 47)
  d48 : DefAt K mg "_law_track" (top 48)
  d49 : DefAt K mg "_law_steps" (top 49)
  d50 : DefAt K mg "_law_led" (top 50)
  d51 : DefAt K mg "_law_walk" (top 51)
  d52 : DefAt K mg "_law_is_int" (top 52)
  d53 : DefAt K mg "_law_step" (top 53)
  d54 : DefAt K mg "_law_bet" (top 54)
  d55 : DefAt K mg "_law_coins" (top 55)
  d56 : DefAt K mg "_law_wide" (top 56)
  d57 : DefAt K mg "_law_ends" (top 57)
  d58 : DefAt K mg "_law_many" (top 58)
  d59 : DefAt K mg "_law_tried" (top 59)
  d60 : DefAt K mg "_law_odd_bet" (top 60)
  B : Bt mg
  C : Kn mg
  T : TC K CT
  R : TC K CR
  gT : mg "Track" = some (.ref CT)
  gR : mg "RawTrack" = some (.ref CR)
  gB : mg "BadStake" = some (.ref CB)
  gM : mg "TooMany" = some (.ref CM)
  mT : ∃ f fd, Mk K CT f ∧ Fun K "__init__" "Track.__init__" sTrack f fd
  mR : ∃ f fd, Mk K CR f ∧ Fun K "__init__" "RawTrack.__init__" sRaw f fd
  kT : ∃ f fd, Meth K CT "keep" f ∧ Fun K "keep" "Track.keep" sKeep f fd
  kR : ∃ f fd, Meth K CR "keep" f ∧ Fun K "keep" "Track.keep" sKeep f fd
  xB : ∀ base, ExcD P w K mg base "BadStake" "row" CB
  xM : ∀ base, ExcD P w K mg base "TooMany" "most" CM
  co : CatchOk K CB CM
section
variable {P : Program} {w : World} {K : PySem.W.Frag} {mg : Str → Option Value} {CT CR CB CM : Addr}
theorem bk3 {x qual : Str} {st : Stmt} {f : Addr} {fd : FuncData} (F : Fun K x qual st f fd)
    (h : ∀ (kV doc pm : Value) (an : Option Addr) (cdv ct : Value) (us : List Value), us.length = 3 → bindArgs (PySem.W.fnOf x qual (defArgs st) (defBody st) (defScope st) .none kV doc pm an cdv ct) ⟨us, []⟩ = pure ((["self", "places", "arrows"] : List Str).zip us)) : Binds K fd ["self", "places", "arrows"] [] := F.binds h
theorem lawD (F : TopF P w K mg CT CR CB CM) : LawD P w K mg := by
  have isInt := fun base => ok_is_integer (P := P) (w := w) (base := base) F.d10 F.B
  have within := fun base => ok_is_within F.d11 (isInt base)
  have from_ := fun base => ok_is_from F.d12 (isInt base)
  have letter := fun base => ok_is_letter (P := P) (w := w) (base := base) F.d13 F.B F.C
  have asc := fun base => ok_ascend (P := P) (w := w) (base := base) F.d14 F.B
  have arrow := fun base => ok_is_arrow F.d22 F.B F.C (within base) (letter base)
  have arrows := fun base => ok_are_arrows F.d23 F.B F.C (arrow base) (asc base)
  have cNum := fun base => ok_check_number F.d15 (within base)
  have cMany := fun base => ok_check_many F.d16 (F.xM base)
  have cCoins := fun base => ok_check_coins F.d17 (from_ base)
  have isPl := fun base => ok_is_place F.d27 (within base)
  have cPl := fun base => ok_check_place F.d28 (isPl base)
  have stepsOf := fun base => ok_steps_of (P := P) (w := w) (base := base) F.d29
  have keepT : ∀ base, MDef P w K mg base 1 CT "keep" ["self", "places", "arrows"] (spKeep K) := fun base => by
    obtain ⟨f, fd, m, G⟩ := F.kT
    exact ⟨f, fd, m, ok_keep G F.B, bk3 G fun _ _ _ _ _ _ us hl => match us, hl with | [_, _, _], _ => rfl⟩
  have keepR : ∀ base, MDef P w K mg base 1 CR "keep" ["self", "places", "arrows"] (spKeep K) := fun base => by
    obtain ⟨f, fd, m, G⟩ := F.kR
    exact ⟨f, fd, m, ok_keep G F.B, bk3 G fun _ _ _ _ _ _ us hl => match us, hl with | [_, _, _], _ => rfl⟩
  have mkT : ∀ base, MkD P w K mg base 5 "Track" CT ["self", "places", "arrows"] (spTrack K CT) := fun base => by
    obtain ⟨f, fd, m, G⟩ := F.mT
    exact ⟨f, fd, F.gT, m, ok_track G F.B F.C F.T (within base) (arrows base) (keepT base), bk3 G fun _ _ _ _ _ _ us hl => match us, hl with | [_, _, _], _ => rfl⟩
  have mkR : ∀ base, MkD P w K mg base 2 "RawTrack" CR ["self", "places", "arrows"] (spRaw K CR) := fun base => by
    obtain ⟨f, fd, m, G⟩ := F.mR
    exact ⟨f, fd, F.gR, m, ok_raw G F.R (keepR base), bk3 G fun _ _ _ _ _ _ us hl => match us, hl with | [_, _, _], _ => rfl⟩
  have rawT := fun base => ok_raw_track F.d26 F.B (mkR base)
  have side := fun base => ok_side F.d42 F.B (rawT base)
  have track := fun base => ok_ltrack F.d48 (mkT base)
  have there := fun base => ok_stake_there F.d31 F.B (from_ base) (stepsOf base)
  have behind := fun base => ok_behind F.d32 F.B (stepsOf base)
  have counts := fun base => ok_counts (P := P) (w := w) (base := base) F.d35 F.B
  have manyOf := fun base => ok_many_of F.d36 (counts base)
  have tried : ∀ base, Def P w K mg base CX0 9 "_law_tried" ["_law_track_here", "_law_place", "_law_coins_here", "_law_bettor", "_law_length"] (spTriedE P w K mg base) := fun base =>
    ok_tried F.d59 F.co F.gB F.gM fun BB => ok_worst F.d40 F.B F.C BB (cPl base) (cCoins base) (cNum base) (cMany base) (manyOf base) (ok_stake_of F.d39 F.B BB (F.xB base) (there base)) (behind base)
  have draw := fun base => ok_draw (P := P) (w := w) (base := base) F.d45 F.B
  have signs := fun base => ok_signs F.d46 F.B (draw base)
  have told := fun base => ok_told F.d47 F.B (draw base) (signs base)
  have steps := fun base => ok_steps (P := P) (w := w) (base := base) F.d49
  have led := fun base => ok_led F.d50 F.B (steps base)
  have step := fun base => ok_step F.d53 F.B (steps base)
  have bet := fun base => ok_lbet F.d54 F.B (steps base) (led base)
  exact ⟨fun base => ok_pool F.d44 F.B, draw, told, track, fun base => ok_wide F.d56 F.B (told base) (track base) (side base), fun base => ok_coins F.d55 (draw base), bet, fun base => ok_odd F.d60 (bet base), tried, fun base => ok_many F.d58 F.B (steps base),
    fun base => ok_ends F.d57 F.B (steps base) (bet base) (step base), fun base => ok_lint F.d52 F.B, fun base => ok_walk F.d51 F.B (draw base) (steps base)⟩
end
end K81
set_option maxRecDepth 100000
set_option maxHeartbeats 8000000
/-! What the head tells: the exception classes. -/
namespace K81
open PySem PySem.Spec PyProof.Rows L2 LamX NdefX
def oexB (K : PySem.W.Frag) (C : Addr) : Bool := match K.lookup C with
  | some ⟨.type "type", _, .cls cd, sl⟩ => (match cd.mro, sl.toList with
    | .ref C' :: bm, [_, _, _, _, some (.builtin n), _] => decide (C' = C) && (decide (n = "ValueError.__new__") && (!cd.hasDel && (cd.hasDict && HandSPX.refsVE bm)))
    | _, _ => false)
  | _ => false
theorem oexB_ok {K : PySem.W.Frag} {C : Addr} (h : oexB K C = true) : ∃ nm q N bs bm sn sub ab col dd k0 k1 k2 k3 k5, K.lookup C = some (excClassObj nm q C N bs bm true sn sub ab col dd k0 k1 k2 k3 k5 "ValueError.__new__") ∧ PySem.HandSPX.refsVE bm = true := by
  unfold oexB at h
  split at h
  · rename_i dd cd sl hk
    split at h
    · rename_i C' bm k0 k1 k2 k3 n k5 hm hs
      simp only [Bool.and_eq_true, decide_eq_true_eq, Bool.not_eq_true'] at h
      obtain ⟨h1, h2, h3, h4, h5⟩ := h
      subst h1 h2
      refine ⟨cd.name, cd.qualname, cd.ns, cd.bases, bm, cd.slotNames, cd.subclasses, cd.abstract, cd.collection, dd, k0, k1, k2, k3, k5, ?_, h5⟩
      have es : sl = #[k0, k1, k2, k3, some (.builtin "ValueError.__new__"), k5] := by
        apply Array.ext'
        exact hs
      rw [hk, es]
      have ec : cd = { name := cd.name, bases := cd.bases, mro := .ref C' :: bm, ns := cd.ns, qualname := cd.qualname, hasDict := true, slotNames := cd.slotNames, subclasses := cd.subclasses, abstract := cd.abstract, collection := cd.collection, hasDel := false } := by
        rw [← hm, ← h3, ← h4]
      show some (Obj.mk _ _ (Data.cls cd) _) = _
      rw [ec]
    · cases h
  · cases h
/-- a def's data, its closure by names -/
abbrev FnC : Type := Option (Str × Str × Arguments × FuncBody × Scope × Addr × List Str × Value × Addr)
def fnC (K : PySem.W.Frag) (f : Addr) : FnC := match K.lookup f with
  | some ⟨_, _, .func fd, _⟩ => some (fd.name, fd.qualname, fd.params, fd.body, fd.scope, fd.globals, fd.closure.map (·.1), fd.defaults, fd.builtins)
  | _ => none
def cVal (qual : Str) (params : Arguments) (body : List Stmt) (scope : Scope) : FnC := some (("__init__" : Str), qual, params, FuncBody.stmts body, scope, mainGlobals, [("__class__" : Str)], Value.none, builtinsNs)
def cellB (K : PySem.W.Frag) (fl : Str) (C f : Addr) (qual : Str) : Bool := match K.lookup f with
  | some ⟨_, _, .func fd, _⟩ => (match fd.code, fd.closure with
    | .ref cda, [(_, cc)] => PySem.W.codeIn K (.ref cda) qual && ((match K.lookup cda with
      | some ⟨_, _, .fields vs, _⟩ => (match (vs[2]? : Option Value) with
        | some (.str file _) => (fl == file)
        | _ => false)
      | _ => false) && (match K.lookup cc with
      | some ⟨_, _, .cell (some (.ref C')), _⟩ => decide (C' = C)
      | _ => false))
    | _, _ => false)
  | _ => false
theorem cell_ok {K : PySem.W.Frag} {fl : Str} {C f : Addr} {qual : Str} {params : Arguments} {body : List Stmt} {scope : Scope} (e : fnC K f = cVal qual params body scope) (h : cellB K fl C f qual = true) :
    ∃ (oc : Value) (od : Option Addr) (kV doc pm ct : Value) (an : Option Addr) (osl : Array (Option Value)) (cda cc : Addr) (ccl cl : Value) (cdd cld : Option Addr) (vs : Array Value) (ccs csl : Array (Option Value)) (file : Str) (tf : Tok),
    K.lookup f = some ⟨oc, od, .func (PySem.W.fnX "__init__" qual params body scope [("__class__", cc)] .none kV doc pm an (.ref cda) ct), osl⟩ ∧ PySem.W.codeIn K (.ref cda) qual = true ∧
    K.lookup cda = some ⟨ccl, cdd, .fields vs, ccs⟩ ∧ vs[2]? = some (.str file tf) ∧ ((fl : Str) == file) = true ∧ K.lookup cc = some ⟨cl, cld, .cell (some (.ref C)), csl⟩ := by
  unfold fnC cVal at e
  unfold cellB at h
  cases hk : K.lookup f with
  | none => rw [hk] at e; cases e
  | some o =>
    obtain ⟨oc, od, dt, osl⟩ := o
    rw [hk] at e h
    cases dt with
    | func fd =>
      obtain ⟨n1, n2, n3, n4, n5, n6, n7, n8, n9, n10, n11, n12, n13, n14, n15⟩ := fd
      simp only [Option.some.injEq, Prod.mk.injEq] at e
      obtain ⟨h1, h2, h3, h4, h5, h6, h7, h8, h9⟩ := e
      simp only at h
      split at h
      · rename_i _ _ cda x cc
        obtain ⟨g1, h⟩ := Bool.and_eq_true_iff.mp h
        obtain ⟨g2, g3⟩ := Bool.and_eq_true_iff.mp h
        split at g2
        · rename_i ccl cdd vs ccs hl
          split at g2
          · rename_i file tf hv
            split at g3
            · rename_i cl cld C' csl hc
              have eC : C' = C := of_decide_eq_true g3
              subst eC
              have ex : x = "__class__" := by simpa using h7
              subst ex h1 h2 h3 h4 h5 h6 h8 h9
              exact ⟨oc, od, n9, n10, n11, n14, n12, osl, cda, cc, ccl, cl, cdd, cld, vs, ccs, csl, file, tf, rfl, g1, hl, hv, g2, hc⟩
            · cases g3
          · cases g2
        · cases g2
      · cases h
    | _ => cases e
def excB (K : PySem.W.Frag) (fl : Str) (x fld qual : Str) : Bool :=
  oexB K (He.ga K x) && (He.eqO (PySem.W.findIn K (.ref (He.ga K x)) "__setattr__") (some (some (.builtin "object.__setattr__"))) && (decide (PySem.W.subIn K (.ref (He.ga K x)) (.type "BaseException") = some true) && (decide (PySem.W.typeIn K (.ref (He.ga K x)) = some (.type "type")) && (PySem.W.keepIn K (.ref (He.ga K x)) &&
  (cellB K fl (He.ga K x) (He.ma K (He.ga K x) "__init__") qual && ((PySem.W.clsIn K (He.ga K x)).isSome && (decide (PySem.W.mroIn K (He.ga K x) (.ref (He.ga K x)) = some true) && (decide (PySem.W.ks_superIn K (He.ga K x) (He.ga K x) "__init__" = some (some (.builtin "ValueError.__init__"))) &&
  (decide (PySem.W.subIn K (.ref (He.ga K x)) (.type "ValueError") = some true) && (He.eqO (PySem.W.nsIn K cStatics "thirdparty.any") (some none) && (He.eqO (PySem.W.findIn K (.ref (He.ga K x)) fld) (some none) && (He.eqO (PySem.W.findIn K (.ref (He.ga K x)) "__init__") (some (some (.ref (He.ma K (He.ga K x) "__init__")))) &&
  (decide (PySem.W.typeIn K (.ref (He.ma K (He.ga K x) "__init__")) = some (.type "function")) && xfB K (He.ga K x))))))))))))))
theorem exc_all {P : Program} {K : PySem.W.Frag} {mg : Str → Option Value} {x fld qual : Str} {params : Arguments} {body : List Stmt} {scope : Scope} (e : fnC K (He.ma K (He.ga K x) "__init__") = cVal qual params body scope)
    (h : excB K P.main.file x fld qual = true) (hs : mg "super" = none) : ExcC P K mg (He.ga K x) (He.ma K (He.ga K x) "__init__") qual fld params body scope ∧ XfC K (He.ga K x) ∧ PySem.W.findIn K (.ref (He.ga K x)) fld = some none := by
  unfold excB at h
  obtain ⟨h1, h⟩ := Bool.and_eq_true_iff.mp h
  obtain ⟨h2, h⟩ := Bool.and_eq_true_iff.mp h
  obtain ⟨h3, h⟩ := Bool.and_eq_true_iff.mp h
  obtain ⟨h4, h⟩ := Bool.and_eq_true_iff.mp h
  obtain ⟨h5, h⟩ := Bool.and_eq_true_iff.mp h
  obtain ⟨h6, h⟩ := Bool.and_eq_true_iff.mp h
  obtain ⟨h7, h⟩ := Bool.and_eq_true_iff.mp h
  obtain ⟨h8, h⟩ := Bool.and_eq_true_iff.mp h
  obtain ⟨h9, h⟩ := Bool.and_eq_true_iff.mp h
  obtain ⟨h10, h⟩ := Bool.and_eq_true_iff.mp h
  obtain ⟨h11, h⟩ := Bool.and_eq_true_iff.mp h
  obtain ⟨h12, h⟩ := Bool.and_eq_true_iff.mp h
  obtain ⟨h13, h⟩ := Bool.and_eq_true_iff.mp h
  obtain ⟨h14, h15⟩ := Bool.and_eq_true_iff.mp h
  exact ⟨⟨⟨oexB_ok h1, He.eqO_ok h2, of_decide_eq_true h3, of_decide_eq_true h4, h5⟩, cell_ok e h6, Option.isSome_iff_exists.mp h7, of_decide_eq_true h8, of_decide_eq_true h9, of_decide_eq_true h10, He.eqO_ok h11, hs, He.eqO_ok h12, He.eqO_ok h13, of_decide_eq_true h14⟩, xfB_ok h15, He.eqO_ok h12⟩
end K81
set_option maxRecDepth 100000
set_option maxHeartbeats 0
/-! The head: what the top makes. -/
namespace K81
open PySem PySem.Spec PyProof.Rows L2 LamX NdefX
abbrev PG : Program := PySem.Challenge.pw_wholestakes_k81_whole_worst_rows
def dd (x : Str) (st : Stmt) : He.DefD := ⟨(x, none), x, x, defArgs st, defBody st, defScope st, [], []⟩
def dm (c m q : Str) (st : Stmt) : He.DefD := ⟨(c, some m), m, q, defArgs st, defBody st, defScope st, [], []⟩
abbrev sBS : Stmt := inClass (top 7) 0
abbrev sTM : Stmt := inClass (top 5) 0
def faL0 : List He.Fa := [.glo "is_integer", .glo "is_within", .glo "is_from", .glo "is_letter", .glo "are_ascending", .glo "check_number", .glo "check_many", .glo "check_coins", .glo "is_arrow", .glo "are_arrows", .glo "raw_track", .glo "is_place"]
def faL1 : List He.Fa := [.glo "check_place", .glo "steps_of", .glo "is_stake_there", .glo "behind", .glo "counts_to", .glo "many_of", .glo "stake_of", .glo "worst", .glo "side", .glo "_law_pool", .glo "_law_draw", .glo "_law_signs"]
def faL2 : List He.Fa := [.glo "_law_told", .glo "_law_track", .glo "_law_steps", .glo "_law_led", .glo "_law_walk", .glo "_law_is_int", .glo "_law_step", .glo "_law_bet", .glo "_law_coins", .glo "_law_wide", .glo "_law_ends", .glo "_law_many"]
def faL3 : List He.Fa := [.glo "_law_tried", .glo "_law_odd_bet", .glo "law", .glo "Track", .glo "RawTrack", .glo "BadStake", .glo "TooMany", .free "isinstance", .free "int", .free "bool", .free "str", .free "tuple"]
def faL4 : List He.Fa := [.free "list", .free "len", .free "all", .free "range", .free "sum", .free "zip", .free "min", .free "sorted", .free "abs", .free "super", .int "MOST_PLACES" 12, .int "MOST_ARROWS" 60]
def faL5 : List He.Fa := [.int "MOST_PAY" 9, .int "MOST_ROWS" 2000, .int "MOST_WORST" 12, .str "LETTERS" "abcdefghijklmnopqrstuvwxyz", .cls "Track", .cls "RawTrack", .noat "Track" "places", .noat "Track" "arrows", .noat "Track" "kept_arrows", .noat "RawTrack" "places", .noat "RawTrack" "arrows", .noat "RawTrack" "kept_arrows"]
def faL6 : List He.Fa := [.meth "Track" "keep", .meth "RawTrack" "keep", .mkr "Track", .mkr "RawTrack", .exm "BadStake" "BadStake" true, .exm "TooMany" "BadStake" false, .exm "TooMany" "TooMany" true]
def faL : List He.Fa := faL0 ++ (faL1 ++ (faL2 ++ (faL3 ++ (faL4 ++ (faL5 ++ (faL6))))))
def fnL0 : List He.DefD := [dd "is_integer" (top 10), dd "is_within" (top 11), dd "is_from" (top 12), dd "is_letter" (top 13), dd "are_ascending" (top 14), dd "check_number" (top 15), dd "check_many" (top 16), dd "check_coins" (top 17), dd "is_arrow" (top 22), dd "are_arrows" (top 23), dd "raw_track" (top 26), dd "is_place" (top 27)]
def fnL1 : List He.DefD := [dd "check_place" (top 28), dd "steps_of" (top 29), dd "is_stake_there" (top 31), dd "behind" (top 32), dd "counts_to" (top 35), dd "many_of" (top 36), dd "stake_of" (top 39), dd "worst" (top 40), dd "side" (top 42), dd "_law_pool" (top 44), dd "_law_draw" (top 45), dd "_law_signs" (top 46)]
def fnL2 : List He.DefD := [dd "_law_told" (top 47), dd "_law_track" (top 48), dd "_law_steps" (top 49), dd "_law_led" (top 50), dd "_law_walk" (top 51), dd "_law_is_int" (top 52), dd "_law_step" (top 53), dd "_law_bet" (top 54), dd "_law_coins" (top 55), dd "_law_wide" (top 56), dd "_law_ends" (top 57), dd "_law_many" (top 58)]
def fnL3 : List He.DefD := [dd "_law_tried" (top 59), dd "_law_odd_bet" (top 60), dd "law" (top 61), dm "Track" "__init__" "Track.__init__" sTrack, dm "Track" "keep" "Track.keep" sKeep, dm "RawTrack" "__init__" "RawTrack.__init__" sRaw, dm "RawTrack" "keep" "Track.keep" sKeep]
def fnL : List He.DefD := fnL0 ++ (fnL1 ++ (fnL2 ++ (fnL3)))
def tfL : List He.Defn := [("law", none)]
def exY (K : PySem.W.Frag) : Bool := excB K PG.main.file "BadStake" "row" "BadStake.__init__" && excB K PG.main.file "TooMany" "most" "TooMany.__init__"
def cB (K : PySem.W.Frag) : FnC := fnC K (He.ma K (He.ga K "BadStake") "__init__")
def cM (K : PySem.W.Frag) : FnC := fnC K (He.ma K (He.ga K "TooMany") "__init__")
def vB : FnC := cVal "BadStake.__init__" (defArgs sBS) (defBody sBS) (defScope sBS)
def vM : FnC := cVal "TooMany.__init__" (defArgs sTM) (defBody sTM) (defScope sTM)
def frY (g : Addr → Option Obj) : PySem.W.Frag := He.frT g (He.asD g 6 ++ [cStatics])
abbrev AlY : Type := He.AlD × Bool × FnC × FnC
def obsY (g : Addr → Option Obj) : AlY := (He.obsD faL fnL (frY g), exY (frY g) && He.tabsB g tfL (frY g), cB (frY g), cM (frY g))
def valY : AlY := (He.valD fnL, true, vB, vM)
structure SaysY (h : Heap) (K : PySem.W.Frag) : Prop where
  d : He.SaysD faL fnL K
  ex : exY K = true
  hd : ∀ p ∈ tfL, PySem.W.codeHdIn K (He.cT K p).1 (He.cT K p).2 = true
  out : ∀ p ∈ tfL, K.lookup (He.cT K p).2 = none
  empty : ∀ p ∈ tfL, h.get? (He.cT K p).2 = some { cls := .none, data := .fields #[] }
  b : cB K = vB
  m : cM K = vM
theorem tabs_key {h : Heap} {as : List Addr} {tf : List He.Defn} (h2 : He.tabsB h.get? tf (He.frT h.get? as) = true) : ∀ p ∈ tf, PySem.W.codeHdIn (He.frT h.get? as) (He.cT (He.frT h.get? as) p).1 (He.cT (He.frT h.get? as) p).2 = true ∧ (He.frT h.get? as).lookup (He.cT (He.frT h.get? as) p).2 = none ∧ h.get? (He.cT (He.frT h.get? as) p).2 = some { cls := .none, data := .fields #[] } := fun p hp => by
  obtain ⟨h3, h4⟩ := He.ba (List.all_eq_true.mp h2 p hp)
  cases q : h.get? (He.cT (He.frT h.get? as) p).2 with
  | none =>
    rw [q] at h4
    cases h4
  | some o =>
    rw [q] at h4
    exact ⟨h3, He.frT_none q h4, by rw [He.emptyTab_eq h4]⟩
theorem four {A B C D : Type} {a a' : A} {b b' : B} {c c' : C} {d d' : D} (e : (a, b, c, d) = (a', b', c', d')) : a = a' ∧ b = b' ∧ c = c' ∧ d = d' := by
  cases e
  exact ⟨rfl, rfl, rfl, rfl⟩
theorem saysY_of {h : Heap} (e : obsY h.get? = valY) : SaysY h (frY h.get?) := by
  obtain ⟨e1, e2, e3, e4⟩ := four e
  obtain ⟨h1, h2⟩ := He.ba e2
  have key := tabs_key h2
  exact ⟨e1, h1, fun p hp => (key p hp).1, fun p hp => (key p hp).2.1, fun p hp => (key p hp).2.2, e3, e4⟩
def hookY : PySem.W.Hook where
  α := AlY
  obs := fun s => obsY s.heap.get?
  val := fun _ => valY
  says := fun _ h => ∃ K : PySem.W.Frag, K.In h ∧ SaysY h K
  of := fun _ _ e => ⟨_, He.frT_in, saysY_of e⟩
  keeps := fun _ _ _ ⟨K, hK, c⟩ k => ⟨K, PySem.W.Frag.In.keeps hK k, ⟨c.d, c.ex, c.hd, c.out, fun p hp => k _ _ (c.empty p hp), c.b, c.m⟩⟩
def obY (s : PySem.W.SharedT) : AlY := obsY (HandSHeadRun.getT s)
theorem obY_eq (s : PySem.W.SharedT) : obY s = hookY.obs s.abs := by
  have e : HandSHeadRun.getT s = s.abs.heap.get? := funext (HandSHeadRun.getT_eq s)
  show obsY (HandSHeadRun.getT s) = obsY s.abs.heap.get?
  rw [e]
section
variable {w : World} {K : PySem.W.Frag} {h : Heap} {mg : Str → Option Value}
theorem fun_of {x qual : Str} {st : Stmt} {f : Addr} {fd : FuncData} (F : FunD K x qual (defArgs st) (defBody st) (defScope st) [] [] f fd) : Fun K x qual st f fd := by
  obtain ⟨oc, od, dV, kV, doc, pm, an, cdv, ct, osl, e, lk, hc, hd, _⟩ := F.ex
  have ed : dV = .none := by
    rcases hd with ⟨_, z⟩ | ⟨z, _⟩
    · first | exact z | simp_all
    · exact absurd rfl z
  subst ed
  exact ⟨⟨oc, od, kV, doc, pm, an, cdv, ct, osl, e, lk, hc⟩, F.kp⟩
theorem defAt_of {x : Str} {st : Stmt} (g : mg x = some (.ref (He.ga K x))) (c : ∃ fd, FunD K x x (defArgs st) (defBody st) (defScope st) [] [] (He.ga K x) fd) : DefAt K mg x st := by
  obtain ⟨fd, F⟩ := c
  exact ⟨_, fd, g, fun_of F⟩
theorem nsBS : NScope (eN "row") (eP "row") ["__class__"] (defScope sBS) := ⟨by decide +kernel, by decide +kernel, by decide +kernel, by decide +kernel, by decide +kernel, by decide +kernel, by decide +kernel, by decide +kernel, by decide +kernel⟩
theorem nsTM : NScope (eN "most") (eP "most") ["__class__"] (defScope sTM) := ⟨by decide +kernel, by decide +kernel, by decide +kernel, by decide +kernel, by decide +kernel, by decide +kernel, by decide +kernel, by decide +kernel, by decide +kernel⟩
theorem excD_B (T : ExcC PG K mg (He.ga K "BadStake") (He.ma K (He.ga K "BadStake") "__init__") "BadStake.__init__" "row" (defArgs sBS) (defBody sBS) (defScope sBS)) (g : mg "BadStake" = some (.ref (He.ga K "BadStake"))) (base : Heap) : ExcD PG w K mg base "BadStake" "row" (He.ga K "BadStake") := by
  obtain ⟨fd, hb, F⟩ := ok_exc (w := w) (base := base) (k := 0) T nsBS ⟨_, rfl, rfl⟩ (by decide +kernel) (by decide +kernel) (by decide +kernel) (by decide +kernel) (by decide +kernel) (fun _ _ _ _ _ _ _ us hl => match us, hl with | [_, _], _ => rfl)
  exact ⟨g, T.oex, 1, _, fd, Nat.le_refl _, T.ini, T.tyF, hb, F⟩
theorem excD_M (T : ExcC PG K mg (He.ga K "TooMany") (He.ma K (He.ga K "TooMany") "__init__") "TooMany.__init__" "most" (defArgs sTM) (defBody sTM) (defScope sTM)) (g : mg "TooMany" = some (.ref (He.ga K "TooMany"))) (base : Heap) : ExcD PG w K mg base "TooMany" "most" (He.ga K "TooMany") := by
  obtain ⟨fd, hb, F⟩ := ok_exc (w := w) (base := base) (k := 0) T nsTM ⟨_, rfl, rfl⟩ (by decide +kernel) (by decide +kernel) (by decide +kernel) (by decide +kernel) (by decide +kernel) (fun _ _ _ _ _ _ _ us hl => match us, hl with | [_, _], _ => rfl)
  exact ⟨g, T.oex, 1, _, fd, Nat.le_refl _, T.ini, T.tyF, hb, F⟩
theorem topF (X : K.In h) (G : h.Ns mainGlobals mg) (c : SaysY h K) : TopF PG w K mg (He.ga K "Track") (He.ga K "RawTrack") (He.ga K "BadStake") (He.ga K "TooMany") := by
  have gB := He.glo_ok X G (c.d.fact 41 (f := .glo "BadStake") rfl)
  have gM := He.glo_ok X G (c.d.fact 42 (f := .glo "TooMany") rfl)
  have sup := He.free_ok X G (c.d.fact 57 (f := .free "super") rfl)
  obtain ⟨e1, e2⟩ := He.ba c.ex
  obtain ⟨b1, b2, b3⟩ := exc_all (P := PG) (mg := mg) c.b e1 sup
  obtain ⟨m1, m2, m3⟩ := exc_all (P := PG) (mg := mg) c.m e2 sup
  refine ⟨defAt_of (He.glo_ok X G (c.d.fact 0 (f := .glo "is_integer") rfl)) (c.d.def_ 0 (d := dd "is_integer" (top 10)) rfl),
    defAt_of (He.glo_ok X G (c.d.fact 1 (f := .glo "is_within") rfl)) (c.d.def_ 1 (d := dd "is_within" (top 11)) rfl),
    defAt_of (He.glo_ok X G (c.d.fact 2 (f := .glo "is_from") rfl)) (c.d.def_ 2 (d := dd "is_from" (top 12)) rfl),
    defAt_of (He.glo_ok X G (c.d.fact 3 (f := .glo "is_letter") rfl)) (c.d.def_ 3 (d := dd "is_letter" (top 13)) rfl),
    defAt_of (He.glo_ok X G (c.d.fact 4 (f := .glo "are_ascending") rfl)) (c.d.def_ 4 (d := dd "are_ascending" (top 14)) rfl),
    defAt_of (He.glo_ok X G (c.d.fact 5 (f := .glo "check_number") rfl)) (c.d.def_ 5 (d := dd "check_number" (top 15)) rfl),
    defAt_of (He.glo_ok X G (c.d.fact 6 (f := .glo "check_many") rfl)) (c.d.def_ 6 (d := dd "check_many" (top 16)) rfl),
    defAt_of (He.glo_ok X G (c.d.fact 7 (f := .glo "check_coins") rfl)) (c.d.def_ 7 (d := dd "check_coins" (top 17)) rfl),
    defAt_of (He.glo_ok X G (c.d.fact 8 (f := .glo "is_arrow") rfl)) (c.d.def_ 8 (d := dd "is_arrow" (top 22)) rfl),
    defAt_of (He.glo_ok X G (c.d.fact 9 (f := .glo "are_arrows") rfl)) (c.d.def_ 9 (d := dd "are_arrows" (top 23)) rfl),
    defAt_of (He.glo_ok X G (c.d.fact 10 (f := .glo "raw_track") rfl)) (c.d.def_ 10 (d := dd "raw_track" (top 26)) rfl),
    defAt_of (He.glo_ok X G (c.d.fact 11 (f := .glo "is_place") rfl)) (c.d.def_ 11 (d := dd "is_place" (top 27)) rfl),
    defAt_of (He.glo_ok X G (c.d.fact 12 (f := .glo "check_place") rfl)) (c.d.def_ 12 (d := dd "check_place" (top 28)) rfl),
    defAt_of (He.glo_ok X G (c.d.fact 13 (f := .glo "steps_of") rfl)) (c.d.def_ 13 (d := dd "steps_of" (top 29)) rfl),
    defAt_of (He.glo_ok X G (c.d.fact 14 (f := .glo "is_stake_there") rfl)) (c.d.def_ 14 (d := dd "is_stake_there" (top 31)) rfl),
    defAt_of (He.glo_ok X G (c.d.fact 15 (f := .glo "behind") rfl)) (c.d.def_ 15 (d := dd "behind" (top 32)) rfl),
    defAt_of (He.glo_ok X G (c.d.fact 16 (f := .glo "counts_to") rfl)) (c.d.def_ 16 (d := dd "counts_to" (top 35)) rfl),
    defAt_of (He.glo_ok X G (c.d.fact 17 (f := .glo "many_of") rfl)) (c.d.def_ 17 (d := dd "many_of" (top 36)) rfl),
    defAt_of (He.glo_ok X G (c.d.fact 18 (f := .glo "stake_of") rfl)) (c.d.def_ 18 (d := dd "stake_of" (top 39)) rfl),
    defAt_of (He.glo_ok X G (c.d.fact 19 (f := .glo "worst") rfl)) (c.d.def_ 19 (d := dd "worst" (top 40)) rfl),
    defAt_of (He.glo_ok X G (c.d.fact 20 (f := .glo "side") rfl)) (c.d.def_ 20 (d := dd "side" (top 42)) rfl),
    defAt_of (He.glo_ok X G (c.d.fact 21 (f := .glo "_law_pool") rfl)) (c.d.def_ 21 (d := dd "_law_pool" (top 44)) rfl),
    defAt_of (He.glo_ok X G (c.d.fact 22 (f := .glo "_law_draw") rfl)) (c.d.def_ 22 (d := dd "_law_draw" (top 45)) rfl),
    defAt_of (He.glo_ok X G (c.d.fact 23 (f := .glo "_law_signs") rfl)) (c.d.def_ 23 (d := dd "_law_signs" (top 46)) rfl),
    defAt_of (He.glo_ok X G (c.d.fact 24 (f := .glo "_law_told") rfl)) (c.d.def_ 24 (d := dd "_law_told" (top 47)) rfl),
    defAt_of (He.glo_ok X G (c.d.fact 25 (f := .glo "_law_track") rfl)) (c.d.def_ 25 (d := dd "_law_track" (top 48)) rfl),
    defAt_of (He.glo_ok X G (c.d.fact 26 (f := .glo "_law_steps") rfl)) (c.d.def_ 26 (d := dd "_law_steps" (top 49)) rfl),
    defAt_of (He.glo_ok X G (c.d.fact 27 (f := .glo "_law_led") rfl)) (c.d.def_ 27 (d := dd "_law_led" (top 50)) rfl),
    defAt_of (He.glo_ok X G (c.d.fact 28 (f := .glo "_law_walk") rfl)) (c.d.def_ 28 (d := dd "_law_walk" (top 51)) rfl),
    defAt_of (He.glo_ok X G (c.d.fact 29 (f := .glo "_law_is_int") rfl)) (c.d.def_ 29 (d := dd "_law_is_int" (top 52)) rfl),
    defAt_of (He.glo_ok X G (c.d.fact 30 (f := .glo "_law_step") rfl)) (c.d.def_ 30 (d := dd "_law_step" (top 53)) rfl),
    defAt_of (He.glo_ok X G (c.d.fact 31 (f := .glo "_law_bet") rfl)) (c.d.def_ 31 (d := dd "_law_bet" (top 54)) rfl),
    defAt_of (He.glo_ok X G (c.d.fact 32 (f := .glo "_law_coins") rfl)) (c.d.def_ 32 (d := dd "_law_coins" (top 55)) rfl),
    defAt_of (He.glo_ok X G (c.d.fact 33 (f := .glo "_law_wide") rfl)) (c.d.def_ 33 (d := dd "_law_wide" (top 56)) rfl),
    defAt_of (He.glo_ok X G (c.d.fact 34 (f := .glo "_law_ends") rfl)) (c.d.def_ 34 (d := dd "_law_ends" (top 57)) rfl),
    defAt_of (He.glo_ok X G (c.d.fact 35 (f := .glo "_law_many") rfl)) (c.d.def_ 35 (d := dd "_law_many" (top 58)) rfl),
    defAt_of (He.glo_ok X G (c.d.fact 36 (f := .glo "_law_tried") rfl)) (c.d.def_ 36 (d := dd "_law_tried" (top 59)) rfl),
    defAt_of (He.glo_ok X G (c.d.fact 37 (f := .glo "_law_odd_bet") rfl)) (c.d.def_ 37 (d := dd "_law_odd_bet" (top 60)) rfl),
    ⟨He.free_ok X G (c.d.fact 43 (f := .free "isinstance") rfl), He.free_ok X G (c.d.fact 44 (f := .free "int") rfl), He.free_ok X G (c.d.fact 45 (f := .free "bool") rfl), He.free_ok X G (c.d.fact 46 (f := .free "str") rfl), He.free_ok X G (c.d.fact 47 (f := .free "tuple") rfl), He.free_ok X G (c.d.fact 48 (f := .free "list") rfl), He.free_ok X G (c.d.fact 49 (f := .free "len") rfl), He.free_ok X G (c.d.fact 50 (f := .free "all") rfl), He.free_ok X G (c.d.fact 51 (f := .free "range") rfl), He.free_ok X G (c.d.fact 52 (f := .free "sum") rfl), He.free_ok X G (c.d.fact 53 (f := .free "zip") rfl), He.free_ok X G (c.d.fact 54 (f := .free "min") rfl), He.free_ok X G (c.d.fact 55 (f := .free "sorted") rfl), He.free_ok X G (c.d.fact 56 (f := .free "abs") rfl)⟩,
    ⟨He.str_ok X G (c.d.fact 63 (f := .str "LETTERS" "abcdefghijklmnopqrstuvwxyz") rfl), He.int_ok X G (c.d.fact 58 (f := .int "MOST_PLACES" 12) rfl), He.int_ok X G (c.d.fact 59 (f := .int "MOST_ARROWS" 60) rfl), He.int_ok X G (c.d.fact 60 (f := .int "MOST_PAY" 9) rfl), He.int_ok X G (c.d.fact 61 (f := .int "MOST_ROWS" 2000) rfl), He.int_ok X G (c.d.fact 62 (f := .int "MOST_WORST" 12) rfl)⟩,
    ⟨He.cls_ok (c.d.fact 64 (f := .cls "Track") rfl), He.noat_ok (c.d.fact 66 (f := .noat "Track" "places") rfl), He.noat_ok (c.d.fact 67 (f := .noat "Track" "arrows") rfl), He.noat_ok (c.d.fact 68 (f := .noat "Track" "kept_arrows") rfl)⟩,
    ⟨He.cls_ok (c.d.fact 65 (f := .cls "RawTrack") rfl), He.noat_ok (c.d.fact 69 (f := .noat "RawTrack" "places") rfl), He.noat_ok (c.d.fact 70 (f := .noat "RawTrack" "arrows") rfl), He.noat_ok (c.d.fact 71 (f := .noat "RawTrack" "kept_arrows") rfl)⟩,
    He.glo_ok X G (c.d.fact 39 (f := .glo "Track") rfl), He.glo_ok X G (c.d.fact 40 (f := .glo "RawTrack") rfl), gB, gM,
    (let ⟨fd, F⟩ := c.d.def_ 39 (d := dm "Track" "__init__" "Track.__init__" sTrack) rfl; ⟨_, fd, He.mkr_ok (c.d.fact 74 (f := .mkr "Track") rfl), fun_of F⟩),
    (let ⟨fd, F⟩ := c.d.def_ 41 (d := dm "RawTrack" "__init__" "RawTrack.__init__" sRaw) rfl; ⟨_, fd, He.mkr_ok (c.d.fact 75 (f := .mkr "RawTrack") rfl), fun_of F⟩),
    (let ⟨fd, F⟩ := c.d.def_ 40 (d := dm "Track" "keep" "Track.keep" sKeep) rfl; ⟨_, fd, He.meth_ok (c.d.fact 72 (f := .meth "Track" "keep") rfl), fun_of F⟩),
    (let ⟨fd, F⟩ := c.d.def_ 42 (d := dm "RawTrack" "keep" "Track.keep" sKeep) rfl; ⟨_, fd, He.meth_ok (c.d.fact 73 (f := .meth "RawTrack" "keep") rfl), fun_of F⟩),
    excD_B b1 gB, excD_M m1 gM,
    ⟨He.exm_ok (c.d.fact 76 (f := .exm "BadStake" "BadStake" true) rfl), He.exm_ok (c.d.fact 77 (f := .exm "TooMany" "BadStake" false) rfl), He.exm_ok (c.d.fact 78 (f := .exm "TooMany" "TooMany" true) rfl), b2, m2, b3, m3⟩⟩
theorem lawAt (X : K.In h) (G : h.Ns mainGlobals mg) (c : SaysY h K) : ∃ cA fd, LawAtC K (He.ga K "law") cA fd ∧ He.codeOf K ("law", none) = cA ∧ (∀ (s : Shared) (u : Value), BindsTo s fd ⟨[u], []⟩ [("_law_script", u)]) := by
  obtain ⟨fd, F⟩ := c.d.def_ 38 (d := dd "law" (top 61)) rfl
  have b := FunD.bindsA (ps := ["_law_script"]) F fun _ _ _ _ _ _ us hl => match us, hl with | [_], _ => rfl
  obtain ⟨oc, od, kV, doc, pm, an, cdv, ct, osl, e, lk, hc⟩ := (fun_of (st := top 61) F).ex
  obtain ⟨cA, ec⟩ := He.codeIn_ref hc
  subst ec
  exact ⟨cA, fd, ⟨oc, od, an, kV, doc, pm, ct, osl, e, lk, hc⟩, He.codeOf_eq (p := ("law", none)) lk (by rw [e]), fun s v => b s [v] rfl⟩
end
abbrev RR : PySem.W.OpenRow := PySem.W.OpenLaw.row PySem.Challenge.rw_wholestakes_k81_whole_worst_rows
end K81
set_option maxRecDepth 100000
set_option maxHeartbeats 0
/-! The run of the head; the end. -/
namespace K81
open PySem PySem.Spec PyProof.Rows L2 LamX NdefX
def vwA : List Nat := [1, 2, 3, 4, 5, 6, 7, 9, 10, 11, 12, 13, 14, 15, 16, 17, 19, 20, 21, 22, 23, 24, 25, 26, 27, 28, 29, 31, 32, 34]
def vwB : List Nat := [35, 36, 38, 39, 40, 42, 44, 45, 46, 47, 48, 49, 50, 51, 52, 53, 54, 55, 56, 57, 58, 59, 60, 61]
abbrev QQ : Program := PySem.W.view RR.prog (vwA ++ vwB)
theorem run (w : World) : HandSHeadRun.RunEq RR QQ hookY obY 4000 [] w := by
  intro os
  kernel_rfl
end K81
open PySem PySem.W PySem.Calls PyProof.Rows
theorem PySem.Challenge.cw_wholestakes_k81_whole_worst_rows_holds : PySem.Challenge.rw_wholestakes_k81_whole_worst_rows.Holds := by
  w_on; o_law
  refine HandSHeadRun.head_any (r := K81.RR) (q := K81.QQ) (H := K81.hookY) (ob := K81.obY) (M := 4000) (loose := []) (d := HandSHeadRun.topDef K81.RR.prog 61) (kwd := []) K81.obY_eq
    (by kernel_rfl) (fun s => by kernel_rfl) K81.run (by kernel_rfl) (by kernel_rfl) (by kernel_rfl) (by rfl) (by first | assumption | decide +kernel) (by decide +kernel) ⟨rfl, rfl, rfl, rfl, rfl, by decide +kernel⟩ ?hw ?hc
  case hw => w_witness2
  case hc =>
    refine LamX.walk_ofTsE (l := PySem.Challenge.rw_wholestakes_k81_whole_worst_rows) (n := 63) (k := 11) (x := "_law_script") (CX := fun _ => L2.CX0) rfl (by decide) (by kernel_rfl) ⟨rfl, by decide, by decide⟩ ?F (fun _ _ _ _ _ z => z)
    intro w mg fa h Y G hmg0
    obtain ⟨K, KX, c⟩ := Y
    have hmg : mg ("law" : PySem.Str) = some (.ref fa) := by
      have e : (HandSHeadRun.topDef K81.RR.prog 61).name = ("law" : PySem.Str) := by kernel_rfl
      rw [← e]
      exact hmg0
    have e := hmg.symm.trans (He.glo_ok KX G (c.d.fact 38 (f := .glo "law") rfl))
    cases e
    obtain ⟨cA, fd, L, ec, hb⟩ := K81.lawAt KX G c
    have TF := K81.topF (w := w) KX G c
    have DD := K81.lawD TF
    have tin : ((("law" : PySem.Str), (none : Option PySem.Str)) : He.Defn) ∈ K81.tfL := List.mem_cons_self
    refine ⟨K, KX, fd, [He.cT K ("law", none)], K81.spLaw K (He.cT K ("law", none)).2, fun p hp => ?_, fun p hp => ?_, fun p hp => ?_, hb, fun H a ns hl _ hT hS => ?_, fun base _ _ TB => ?_⟩
    · rw [List.mem_singleton.mp hp]
      exact c.empty _ tin
    · rw [List.mem_singleton.mp hp]
      exact c.out _ tin
    · rw [List.mem_singleton.mp hp]
      exact PySem.W.codeHd_of_K KX (c.hd _ tin)
    · exact ⟨a, ns, rfl, hS, by omega, hT _ List.mem_cons_self, fun _ => rfl⟩
    · have tb := TB _ List.mem_cons_self
      have e1 : (He.cT K ("law", none)).1 = cA := ec
      rw [e1] at tb
      exact K81.ok_law L tb TF.B DD (by obtain ⟨g, _, g1, g2⟩ := TF.d59; exact ⟨g, g1, g2.kp⟩)
