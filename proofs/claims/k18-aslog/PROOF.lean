import PyProof.Rows.All
import Wide.All
import OpenK.AllK
import Wide.FinOn
import HandS.ForMost
import HandS.SortInts
import HandS.IsInst
import HandS.Wide
import HandS.Zip
import HandS.TupAny
import HandS.Walk
import HandS.Evl
import HandS.Style
import HandS.Small
import HandS.Codes
import HandS.Flt
import HandS.Conv
import KE.KTupSum
import HandS.OwnEq
import PyProof.InstNe
import HandS.DictComp
import KE.KDictPairs
import HandS.TupMul
import HandS.TupLe
import KE.GoesEnum
import HandS.TryOnly
import HandS.ExcOwn
import HandS.ExcInit
import HandS.ExcField
import HandS.ExcIs
import HandS.TryMany
import HandS.WordsExc
import HandS.DictTup
import KE.KRevSl
import KE.KDictItemsList
import PySem.Challenge.RW_willinglift_k18_whole_moves_as_logs
set_option Elab.async false
set_option linter.all false
set_option maxRecDepth 100000
set_option maxHeartbeats 4000000
/-! sorted(xs), xs a list of tuples of ints (of any lengths but 0), any number of them. -/
namespace MyS
open PySem PySem.Spec PyProof.Rows L2 Srt SrtO
abbrev ltL : List Int → List Int → Bool := HT.lexLt
theorem ltL_iff : ∀ {a b : List Int}, ltL a b = true ↔ a < b
  | [], [] => by simp [ltL, HT.lexLt]
  | [], _ :: _ => by simp [ltL, HT.lexLt]
  | _ :: _, [] => by simp [ltL, HT.lexLt]
  | x :: xs, y :: ys => by
    show (if x = y then ltL xs ys else decide (x < y)) = true ↔ _
    rw [List.cons_lt_cons_iff]
    by_cases e : x = y
    · rw [if_pos e, ltL_iff (a := xs) (b := ys)]
      constructor
      · intro h
        exact .inr ⟨e, h⟩
      · rintro (h | ⟨_, h⟩)
        · omega
        · exact h
    · rw [if_neg e, decide_eq_true_eq]
      constructor
      · intro h
        exact .inl h
      · rintro (h | ⟨h, _⟩)
        · exact h
        · exact absurd h e
theorem ltL_cons {x y : Int} {xs ys : List Int} : ltL (x :: xs) (y :: ys) = if x = y then ltL xs ys else decide (x < y) := rfl
theorem ltL_asym : ∀ (a b : List Int), ltL a b = true → ltL b a = false
  | [], [], h => by cases h
  | [], _ :: _, _ => rfl
  | _ :: _, [], h => by cases h
  | x :: xs, y :: ys, h => by
    rw [ltL_cons] at h ⊢
    by_cases e : x = y
    · rw [if_pos e] at h
      rw [if_pos e.symm]
      exact ltL_asym xs ys h
    · rw [if_neg e, decide_eq_true_eq] at h
      rw [if_neg (fun z => e z.symm), decide_eq_false_iff_not]
      omega
theorem ltL_neg_trans : ∀ (x y z : List Int), ltL y x = false → ltL z y = false → ltL z x = false
  | [], _, [], _, _ => rfl
  | [], _, _ :: _, _, _ => rfl
  | x :: xs, [], [], h, _ => by cases h
  | x :: xs, [], z :: zs, h, _ => by cases h
  | x :: xs, y :: ys, [], _, h => by cases h
  | x :: xs, y :: ys, z :: zs, h1, h2 => by
    rw [ltL_cons] at h1 h2 ⊢
    by_cases e1 : y = x
    · by_cases e2 : z = y
      · rw [if_pos e1] at h1
        rw [if_pos e2] at h2
        rw [if_pos (e2.trans e1)]
        exact ltL_neg_trans xs ys zs h1 h2
      · rw [if_neg e2, decide_eq_false_iff_not] at h2
        rw [if_neg (fun q => e2 (q.trans e1.symm)), decide_eq_false_iff_not]
        omega
    · rw [if_neg e1, decide_eq_false_iff_not] at h1
      by_cases e2 : z = y
      · rw [if_neg (fun q => e1 (e2.symm.trans q)), decide_eq_false_iff_not]
        omega
      · rw [if_neg e2, decide_eq_false_iff_not] at h2
        have e3 : ¬ z = x := by omega
        rw [if_neg e3, decide_eq_false_iff_not]
        omega
theorem swoL {α : Type} (k : α → List Int) : Swo fun x y => ltL (k x) (k y) :=
  ⟨fun x y h => ltL_asym _ _ h, fun x y z h1 h2 => ltL_neg_trans (k x) (k y) (k z) h1 h2⟩
/-- a tuple of ints in the raw heap -/
def IsTI (h : Heap) (v : Value) (ns : List Int) : Prop := ∃ a o its n, v = .ref a ∧ h.get? a = some o ∧ o.cls = .type "tuple" ∧ o.data = .seq (List.toArray its) n ∧ IntsAre its ns
theorem IsTI.keeps {h h' : Heap} {v : Value} {ns : List Int} (p : IsTI h v ns) (k : ∀ b o, h.get? b = some o → o.cls = .type "tuple" → h'.get? b = some o) : IsTI h' v ns := by
  obtain ⟨a, o, its, n, e, ho, hc, hd, hi⟩ := p
  exact ⟨a, o, its, n, e, k _ _ ho hc, hc, hd, hi⟩
section
variable {prog : Program} {w : World} {A : Around} {E : Value → Shared → Prop} {s : Shared}
theorem lex_run {b fin : Bool} {R : Bool} : ∀ {vs ws : List Value} {ns ms : List Int} {i : Nat}, IntsAre vs ns → IntsAre ws ms →
    (R = if ns.length ≤ ms.length ∧ ns = ms.take ns.length ∨ ms.length ≤ ns.length ∧ ms = ns.take ms.length then fin else ltL ns ms) →
    PySem.W.KatLex prog w A b fin (fun r s' => s' = s ∧ r = R) (vs.zip ws) i s
  | _, _, _, _, i, .nil, _, e => PySem.W.kat_nil ⟨rfl, by rw [e, if_pos (.inl ⟨Nat.zero_le _, rfl⟩)]⟩
  | _, _, _, _, i, .cons _ _ _, .nil, e => PySem.W.kat_nil ⟨rfl, by rw [e, if_pos (.inr ⟨Nat.zero_le _, rfl⟩)]⟩
  | _, _, _, _, i, .cons (ns := ns) x t hx, .cons (ns := ms) y u hy, e => by
    rw [List.zip_cons_cons]
    refine PySem.W.kat_cons (SeqAt.EqAt.int_int x t y u prog w _ _ ?_)
    refine PySem.W.kat_go (fun e1 => ?_) (fun e1 => ?_)
    · have ex : x = y := by simpa using e1
      subst ex
      refine PySem.W.kat_yes (lex_run hx hy (e.trans ?_))
      rw [ltL_cons, if_pos rfl]
      simp only [List.length_cons, List.take_succ_cons, List.cons.injEq, true_and, Nat.add_le_add_iff_right]
    · have ex : ¬ x = y := by simpa using e1
      have e3 : R = decide (x < y) := by
        rw [e, if_neg, ltL_cons, if_neg ex]
        rintro (⟨_, h⟩ | ⟨_, h⟩)
        · simp only [List.length_cons, List.take_succ_cons, List.cons.injEq] at h
          exact ex h.1
        · simp only [List.length_cons, List.take_succ_cons, List.cons.injEq] at h
          exact ex h.1.symm
      refine PySem.W.kat_no ?_
      by_cases hb : (b && i == 0) = true
      · rw [hb]
        exact oneLt_int ⟨rfl, e3.symm⟩
      · rw [Bool.eq_false_iff.mpr hb]
        exact PySem.W.kat_one _ _ (PyProof.Rows.lt_int (show s = s ∧ decide (x < y) = R from ⟨rfl, e3.symm⟩))
theorem pre_lex : ∀ (ns ms : List Int), (ns.length ≤ ms.length ∧ ns = ms.take ns.length ∨ ms.length ≤ ns.length ∧ ms = ns.take ms.length) → ltL ns ms = decide (ns.length < ms.length)
  | [], [], _ => rfl
  | [], y :: ys, _ => by simp [ltL, HT.lexLt]
  | x :: xs, [], _ => by simp [ltL, HT.lexLt]
  | x :: xs, y :: ys, h => by
    simp only [List.length_cons, List.take_succ_cons, List.cons.injEq, Nat.add_le_add_iff_right] at h
    have ex : x = y := by
      rcases h with ⟨_, h, _⟩ | ⟨_, h, _⟩
      · exact h
      · exact h.symm
    rw [ltL_cons, if_pos ex, pre_lex xs ys]
    · simp only [List.length_cons, Nat.add_lt_add_iff_right]
    · rcases h with ⟨h1, _, h2⟩ | ⟨h1, _, h2⟩
      · exact .inl ⟨h1, h2⟩
      · exact .inr ⟨h1, h2⟩
theorem ti_cmp {b : Bool} {vs : List Value} {k : Value → List Int} (hp : ∀ v ∈ vs, IsTI s.heap v (k v)) : Cmp prog w A s (tuples' b) (fun p => p.1 ∈ vs) (lt2 fun v u => ltL (k v) (k u)) := by
  intro p q hm hm'
  have h1 := hp _ hm
  have h2 := hp _ hm'
  show wpAny (model prog w) A (keyLt' (tuples' b) p.1 q.1) (fun r s' => s' = s ∧ r = ltL (k p.1) (k q.1)) (fun _ _ => False) s
  generalize k p.1 = ns at h1 ⊢
  generalize k q.1 = ms at h2 ⊢
  obtain ⟨a, o, its, n, e, ho, hc, hd, hi⟩ := h1
  obtain ⟨a', o', its', n', e', ho', hc', hd', hi'⟩ := h2
  rw [e, e']
  refine PySem.W.kat_lt ho hd ho' hd' ?_
  refine lex_run hi hi' ?_
  rw [List.size_toArray, List.size_toArray, hi.length, hi'.length]
  by_cases c : ns.length ≤ ms.length ∧ ns = ms.take ns.length ∨ ms.length ≤ ns.length ∧ ms = ns.take ms.length
  · rw [if_pos c, pre_lex _ _ c]
  · rw [if_neg c]
theorem ti_firsts {h : Heap} : ∀ {vs : List Value}, (∀ v ∈ vs, ∃ ns, ns ≠ [] ∧ IsTI h v ns) → ∃ fs : List Value, PySem.W.KatTups h vs fs ∧ fs.length = vs.length ∧ ∀ f ∈ fs, ∃ x t, f = Value.int x t
  | [], _ => ⟨[], PySem.W.KatTups.nil, rfl, fun _ hm => by simp at hm⟩
  | v :: vs, hp => by
    obtain ⟨fs, h1, h2, h3⟩ := ti_firsts (vs := vs) fun v' hm => hp v' (List.mem_cons_of_mem _ hm)
    obtain ⟨ns, hne, a, o, its, n, e, ho, hc, hd, hi⟩ := hp v (List.mem_cons_self ..)
    subst e
    cases hi with
    | nil => exact absurd rfl hne
    | cons x t r =>
      refine ⟨.int x t :: fs, PySem.W.KatTups.cons ho hc hd rfl h1, by rw [List.length_cons, List.length_cons, h2], fun f hm => ?_⟩
      rcases List.mem_cons.mp hm with rfl | hm
      · exact ⟨x, t, rfl⟩
      · exact h3 f hm
theorem ti_sortable {a : Addr} {vs : List Value} {k : Value → List Int} (h0 : 0 < vs.length) (hn : ∀ v ∈ vs, k v ≠ []) (hp : ∀ v ∈ vs, IsTI s.heap v (k v)) (ha : ∀ o, s.heap.get? a = some o → o.cls ≠ .type "tuple") :
    SortableO prog w A s a vs fun v u => ltL (k v) (k u) := by
  intro h' keep
  have hp' : ∀ v ∈ vs, IsTI h' v (k v) := fun v hm => (hp v hm).keeps fun b o e c => keep b o (fun z => by subst z; exact ha o e c) e
  obtain ⟨fs, h1, h2, h3⟩ := ti_firsts fun v hm => ⟨_, hn v hm, hp' v hm⟩
  refine ⟨tuples' true, fun Q E hq => ?_, ti_cmp hp'⟩
  refine PySem.W.kat_kind (T := .type "int") h1 (by omega) (fun f hm => ?_) (by rfl) ?_
  · obtain ⟨x, t, rfl⟩ := h3 f hm
    exact PySem.W.Looks.now
  · have e : (Value.type "int" != Value.type "tuple") = true := by first | decide +kernel | rfl | decide
    rw [e]
    exact hq
theorem sorted_ti {l : Addr} {vs : List Value} {k : Value → List Int} {Q : Value → Shared → Prop} (hl : s.heap.IsList l vs.toArray) (hz : vs.length ≤ sizeLine) (hn : ∀ v ∈ vs, k v ≠ []) (hp : ∀ v ∈ vs, IsTI s.heap v (k v))
    (h : ∀ (h' : Heap) (d : Addr) (out : List Value), Srtd (fun v u => ltL (k v) (k u)) out → Stb (fun v u => ltL (k v) (k u)) out vs → (∀ b o, s.heap.get? b = some o → h'.get? b = some o) → s.heap.objs.size ≤ d → (∃ n, h'.get? d = some (seqObj "list" out.toArray n)) → Q (.ref d) { s with heap := h' }) :
    wpAny (model prog w) A (call (.builtin "sorted") [.ref l]) Q E s := by
  refine sorted_ord (swoL k) hl hz (fun h2 h₁ a ha kk => ?_) fun out hs hb => ?_
  · refine ti_sortable (s := { s with heap := h₁ }) (by omega) hn (fun v hm => (hp v hm).keeps fun b o e _ => (kk b o e).2) fun o e => ?_
    have e' : some o = some (seqObj "list" vs.toArray 0) := e.symm.trans ha
    cases e'
    intro c
    exact absurd (Value.type.inj c) (by decide)
  · exact h _ _ out hs hb (fun b o e => sortedAll_old e) (Nat.le_succ _) (sortedAll_at s.heap vs out.toArray)
end
/-- sorted(xs), xs a list of tuples of ints, k what each holds -/
def rSortedTI (K : PySem.W.Frag) : List V → Hp → VK → Prop := fun vs H Q => ∃ (a : Addr) (xs : List V) (k : V → List Int), vs = [V.ref a] ∧ SqL K H a xs ∧ (∀ x ∈ xs, k x ≠ [] ∧ ∃ t, x = V.ref t ∧ H t = some (.tup ((k x).map V.int))) ∧
  ∀ ys p, ys.Pairwise (fun x y => ltL (k y) (k x) = false) → ys.Perm xs → H p = none → Q (.ref p) (upd H p (.lst ys))
theorem cr_sortedTI {X : Cx} : CallR X (.builtin "sorted") (rSortedTI X.K) := by
  intro pins s σ H vs us Q I r h
  obtain ⟨a, xs, k, rfl, hs, hx, q⟩ := h
  obtain ⟨its, rv, hl, hz⟩ := I.list hs
  obtain ⟨u, rfl, ru⟩ := vals1 r
  obtain rfl : u = Value.ref a := ru
  obtain ⟨e1, e2⟩ := refs_back rv fun x m => by
    obtain ⟨_, t, e, _⟩ := hx x m
    exact ⟨t, e⟩
  refine sorted_ti (k := fun u => k (backV u)) hl.isList (by rw [← rv.length]; exact hz) (fun v hv => ?_) (fun v hv => ?_) fun h' d out h1 h2 kp hd hn => ?_
  · obtain ⟨t, rfl⟩ := e2 v hv
    have hm : V.ref t ∈ xs := by rw [e1]; exact List.mem_map.mpr ⟨_, hv, rfl⟩
    exact (hx _ hm).1
  · obtain ⟨t, rfl⟩ := e2 v hv
    have hm : V.ref t ∈ xs := by rw [e1]; exact List.mem_map.mpr ⟨_, hv, rfl⟩
    obtain ⟨_, t', e, ht⟩ := hx _ hm
    cases e
    obtain ⟨_, its2, r2, o, ho, hc, n, hd⟩ := I.hok _ _ ht
    exact ⟨t, o, its2, n, rfl, ho, hc, hd, r2.ints⟩
  · have h3 : ∀ u ∈ out, ∃ a, u = Value.ref a := fun u hu => e2 u (h2.perm.mem_iff.mp hu)
    obtain ⟨n, hn⟩ := hn
    have hb : (out.map backV).Perm xs := by
      rw [e1]
      exact h2.perm.map backV
    refine ⟨.ref d, upd H d (.lst (out.map backV)), I.laid (t' := s.toks) kp hd ⟨?_, out, n, vals_back h3, hn⟩, rfl, q _ d (List.pairwise_map.mpr h1) hb (I.hok.fresh hd)⟩
    rw [hb.length_eq]
    exact hz
end MyS

/-! defs of the text by name, with their promises; the built-ins' names. -/
namespace MyB
open PySem PySem.Spec PyProof.Rows L2
/-- a def of the top, as the top has left it -/
def Raw (K : PySem.W.Frag) (mg : Str → Option Value) (x : Str) (st : Stmt) : Prop := ∃ f fd, Fun K x x st f fd ∧ mg x = some (.ref f)
/-- a class of the top with its __init__ -/
def RawC (K : PySem.W.Frag) (mg : Str → Option Value) (x qi : Str) (st : Stmt) (C : Addr) : Prop := ∃ f fd, Fun K "__init__" qi st f fd ∧ Mk K C f ∧ mg x = some (.ref C)
def IsDef (P : Program) (w : World) (K : PySem.W.Frag) (mg : Str → Option Value) (base : Heap) (k : Nat) (x : Str) (ps : List Str) (sp : Sp) : Prop :=
  ∃ f fd, FnOk P w K mg base CX0 k f fd ps sp ∧ mg x = some (.ref f) ∧ PySem.W.keepIn K (.ref f) = true ∧ Binds K fd ps []
def IsMake (P : Program) (w : World) (K : PySem.W.Frag) (mg : Str → Option Value) (base : Heap) (k : Nat) (x : Str) (C : Addr) (ps : List Str) (sp : Sp) : Prop :=
  ∃ f fd, Mk K C f ∧ FnOk P w K mg base CX0 k f fd ps sp ∧ mg x = some (.ref C) ∧ Binds K fd ps []
section
variable {P : Program} {w : World} {K : PySem.W.Frag} {mg : Str → Option Value} {base : Heap} {k : Nat} {x : Str} {ps : List Str} {sp : Sp} {C : Addr}
theorem IsDef.imp {sp' : Sp} (D : IsDef P w K mg base k x ps sp) (h : ∀ vs H Q E, sp' vs H Q E → sp vs H Q E) : IsDef P w K mg base k x ps sp' := by
  obtain ⟨f, fd, F, a, b, c⟩ := D
  exact ⟨f, fd, F.imp h, a, b, c⟩
theorem Raw.ok {st : Stmt} {N : List Str} (R : Raw K mg x st) (S : FnScope N ps (defScope st))
    (bind : ∀ (kV doc pm : Value) (an : Option Addr) (cdv ct : Value) (us : List Value), us.length = ps.length → bindArgs (PySem.W.fnOf x x (defArgs st) (defBody st) (defScope st) .none kV doc pm an cdv ct) ⟨us, []⟩ = pure (ps.zip us))
    (len : ∀ vs H Q E, sp vs H Q E → vs.length = ps.length)
    (hbody : ∀ (f : Addr) (cdv : Value) (A : Around) (outer : List Env) (s : Shared) (H : Hp) (vs : List V) (Q : VK) (E : XK), Room k (A.deeper (envOfC x (defScope st) s.heap.objs.size f cdv)) → sp vs H Q E →
      ∃ t, PSs (cxOf CX0 P w K mg base N x (defScope st) f cdv A outer s H E).nox (defBody st) t ∧ t { nx := fun _ H' => Q .non H', rt := Q } (start N vs) H) : IsDef P w K mg base (k + 1) x ps sp := by
  obtain ⟨f, fd, F, m⟩ := R
  exact ⟨f, fd, F.ok S len (hbody f), m, F.kp, F.binds bind⟩
theorem RawC.ok {qi : Str} {st : Stmt} {N : List Str} (R : RawC K mg x qi st C) (S : FnScope N ps (defScope st))
    (bind : ∀ (kV doc pm : Value) (an : Option Addr) (cdv ct : Value) (us : List Value), us.length = ps.length → bindArgs (PySem.W.fnOf "__init__" qi (defArgs st) (defBody st) (defScope st) .none kV doc pm an cdv ct) ⟨us, []⟩ = pure (ps.zip us))
    (len : ∀ vs H Q E, sp vs H Q E → vs.length = ps.length)
    (hbody : ∀ (f : Addr) (cdv : Value) (A : Around) (outer : List Env) (s : Shared) (H : Hp) (vs : List V) (Q : VK) (E : XK), Room k (A.deeper (envOfC qi (defScope st) s.heap.objs.size f cdv)) → sp vs H Q E →
      ∃ t, PSs (cxOf CX0 P w K mg base N qi (defScope st) f cdv A outer s H E).nox (defBody st) t ∧ t { nx := fun _ H' => Q .non H', rt := Q } (start N vs) H) : IsMake P w K mg base (k + 1) x C ps sp := by
  obtain ⟨f, fd, F, M, m⟩ := R
  exact ⟨f, fd, M, F.ok S len (hbody f), m, F.binds bind⟩
end
section
variable {X : Cx} {k : Nat} {ps : List Str} {sp : Sp} {x : Str} {p pos : Pos} {e : Expr} {es : List Expr} {t : TA} {C : Addr}
theorem pe_callD (D : IsDef X.prog X.w X.K X.mg X.base k x ps sp) (hr : Room k X.A) (hg : Gl X x) (ha : PA X (e :: es) t) (hdb : (x == ("__debug__" : Str)) = false := by decide)
    (he : starEach (e :: es) X.env = (false, eval e X.env) :: starEach es X.env := by rfl) (hpl : (backTo pos (starEach es X.env)).any (·.1) = false := by rfl) :
    PE X (.Call (.Name x p) (e :: es) [] pos) (tCall sp [] E0 t) := by
  obtain ⟨f, fd, F, m, kp, b⟩ := D
  exact pe_call F hr hg m kp b .nil pass0 ha hdb he hpl
theorem pe_callD0 (D : IsDef X.prog X.w X.K X.mg X.base k x ps sp) (hr : Room k X.A) (hg : Gl X x) (hdb : (x == ("__debug__" : Str)) = false := by decide) :
    PE X (.Call (.Name x p) [] [] pos) (tCall sp [] E0 tNil) := by
  obtain ⟨f, fd, F, m, kp, b⟩ := D
  exact pe_call0 F hr hg m kp b .nil pass0 hdb
theorem pe_makeD (D : IsMake X.prog X.w X.K X.mg X.base k x C ps sp) (hr : Room (k + 1) X.A) (hg : Gl X x) (ha : PA X (e :: es) t) (hdb : (x == ("__debug__" : Str)) = false := by decide)
    (he : starEach (e :: es) X.env = (false, eval e X.env) :: starEach es X.env := by rfl) (hpl : (backTo pos (starEach es X.env)).any (·.1) = false := by rfl) :
    PE X (.Call (.Name x p) (e :: es) [] pos) (tMake C sp [] E0 t) := by
  obtain ⟨f, fd, M, F, m, b⟩ := D
  exact pe_make M F hr hg m b .nil pass0 ha hdb he hpl
end
section
variable {X : Cx} {x : Str} {pos : Pos}
theorem pe_globI {n : Int} {t : Tok} (hg : Gl X x) (hm : X.mg x = some (.int n t)) (hd : (x == ("__debug__" : Str)) = false := by decide) : PE X (.Name x pos) (tC (.int n)) := pe_glob (v := .int n) hg hm ⟨t, rfl⟩ hd
theorem pe_globR {a : Addr} (hg : Gl X x) (hm : X.mg x = some (.ref a)) (hd : (x == ("__debug__" : Str)) = false := by decide) : PE X (.Name x pos) (tC (.ref a)) := pe_glob (v := .ref a) hg hm rfl hd
end
theorem putF_len (f : Str) (v : V) : ∀ fs : List (Str × V), (putF f v fs).length ≤ fs.length + 1
  | [] => Nat.le_refl _
  | (g, x) :: r => by
    show (if g = f then (g, v) :: r else (g, x) :: putF f v r).length ≤ r.length + 2
    have := putF_len f v r
    split
    · simp
    · rw [List.length_cons]
      omega
theorem putF_lt {f : Str} {v : V} {fs : List (Str × V)} {n : Nat} (h : fs.length ≤ n) (hn : n < 900 := by decide) : (putF f v fs).length < 1000 := by
  have := putF_len f v fs
  omega
theorem putF_le {f : Str} {v : V} {fs : List (Str × V)} {n : Nat} (h : fs.length ≤ n) : (putF f v fs).length ≤ n + 1 := by
  have := putF_len f v fs
  omega
/-- the built-ins' names are not the module's -/
structure Bi (mg : Str → Option Value) : Prop where
  len : mg "len" = none
  sum : mg "sum" = none
  all : mg "all" = none
  any : mg "any" = none
  max : mg "max" = none
  min : mg "min" = none
  abs : mg "abs" = none
  int : mg "int" = none
  bool : mg "bool" = none
  tuple : mg "tuple" = none
  list : mg "list" = none
  dict : mg "dict" = none
  str : mg "str" = none
  isinstance : mg "isinstance" = none
  sorted : mg "sorted" = none
  range : mg "range" = none
  zip : mg "zip" = none
  enumerate : mg "enumerate" = none
section
variable {K : PySem.W.Frag} {h : Heap} {mg : Str → Option Value}
theorem raw_mk (X : K.In h) (G : h.Ns mainGlobals mg) {x : Str} {st : Stmt} {f : Addr} {od an : Option Addr} {sl : Array (Option Value)} {oc kV dc pm cd ct : Value}
    (a : PySem.W.nsIn K mainGlobals x = some (some (.ref f))) (l : K.lookup f = some ⟨oc, od, .func (PySem.W.fnOf x x (defArgs st) (defBody st) (defScope st) .none kV dc pm an cd ct), sl⟩) (c : PySem.W.codeIn K cd x = true) (k : PySem.W.keepIn K (.ref f) = true) : Raw K mg x st :=
  ⟨f, _, fun_mk l c k, PySem.W.mg_of X G a⟩
theorem rawC_mk (X : K.In h) (G : h.Ns mainGlobals mg) {x qi : Str} {st : Stmt} {C f : Addr} {od an : Option Addr} {sl : Array (Option Value)} {oc kV dc pm cd ct : Value}
    (a : PySem.W.nsIn K mainGlobals x = some (some (.ref C))) (i : PySem.W.findIn K (.ref C) "__init__" = some (some (.ref f))) (n : PySem.W.isFn K (.ref f) = true)
    (l : K.lookup f = some ⟨oc, od, .func (PySem.W.fnOf "__init__" qi (defArgs st) (defBody st) (defScope st) .none kV dc pm an cd ct), sl⟩) (c : PySem.W.codeIn K cd qi = true) (k : PySem.W.keepIn K (.ref f) = true)
    (m : PySem.W.makesIn K C = true) (kc : PySem.W.keepIn K (.ref C) = true) : RawC K mg x qi st C :=
  ⟨f, _, fun_mk l c k, ⟨m, i, n, kc⟩, PySem.W.mg_of X G a⟩
end
/-! ### tests -/
theorem ite_dec {c : Prop} [Decidable c] {A B : Prop} (h1 : c → A) (h2 : ¬ c → B) : if decide c = true then A else B := by
  by_cases h : c
  · rw [if_pos (decide_eq_true h)]
    exact h1 h
  · rw [if_neg (by rw [decide_eq_true_eq]; exact h)]
    exact h2 h
theorem ite_yes {b : Bool} {A B : Prop} (h : b = true) (h1 : A) : if b = true then A else B := by
  rw [if_pos h]
  exact h1
theorem ite_no {b : Bool} {A B : Prop} (h : b = false) (h1 : B) : if b = true then A else B := by
  rw [if_neg (by rw [h]; decide)]
  exact h1
theorem ite_b {b : Bool} {A B : Prop} (h1 : b = true → A) (h2 : b = false → B) : if b = true then A else B := by
  cases b with
  | true => exact iteT (h1 rfl)
  | false => exact iteF (h2 rfl)
/-- all but what stands at a is as it was -/
def Kp (a : Addr) (H H' : Hp) : Prop := ∀ b o, b ≠ a → H b = some o → H' b = some o
theorem Kp.refl {a : Addr} (H : Hp) : Kp a H H := fun _ _ _ h => h
theorem Kp.trans {a : Addr} {H H1 H2 : Hp} (x : Kp a H H1) (y : Kp a H1 H2) : Kp a H H2 := fun b o n h => y b o n (x b o n h)
theorem Kp.of {a : Addr} {H H1 : Hp} (x : Same H H1) : Kp a H H1 := fun b o _ h => x b o h
theorem Kp.new {a p : Addr} {H H1 : Hp} {o : HO} (x : Kp a H H1) (h : H1 p = none) : Kp a H (upd H1 p o) := fun b u n e => by
  have q := x b u n e
  rw [upd_ne (ne_of_none q h)]
  exact q
theorem Same.new {H H' : Hp} {p : Addr} {o : HO} (s : Same H H') (h : H' p = none) : Same H (upd H' p o) := fun b u e => by
  have q := s b u e
  rw [upd_ne (ne_of_none q h)]
  exact q
theorem Same.new0 {H : Hp} {p : Addr} {o : HO} (h : H p = none) : Same H (upd H p o) := fun b u e => by
  rw [upd_ne (ne_of_none e h)]
  exact e
/-- an object that H does not know may change -/
theorem Same.mut {H H' : Hp} {p : Addr} {o : HO} (e : Same H H') (h : H p = none) : Same H (upd H' p o) := fun a u ha => by
  rw [upd_ne (ne_of_none ha h)]
  exact e a u ha
theorem Kp.mut {a : Addr} {H H' : Hp} {p : Addr} {o : HO} (e : Kp a H H') (h : H p = none) : Kp a H (upd H' p o) := fun b u n hb => by
  rw [upd_ne (ne_of_none hb h)]
  exact e b u n hb
theorem Kp.at {a : Addr} {H H' : Hp} {o : HO} (e : Kp a H H') : Kp a H (upd H' a o) := fun b u n hb => by
  rw [upd_ne n]
  exact e b u n hb
theorem Same.seqT {K : PySem.W.Frag} {H H' : Hp} {a : Addr} {xs : List V} (e : Same H H') (h : SqT K H a xs) : SqT K H' a xs := Evl.ex_t e h
theorem sqL {K : PySem.W.Frag} {H : Hp} {a : Addr} {xs : List V} (h : H a = some (.lst xs)) : SqL K H a xs := Or.inl (Or.inl h)
theorem sqT {K : PySem.W.Frag} {H : Hp} {a : Addr} {xs : List V} (h : H a = some (.tup xs)) : SqT K H a xs := Or.inl (Or.inl h)
theorem szl {n : Nat} (h : n ≤ 16000000) : n ≤ sizeLine := Nat.le_trans h (by decide)
theorem szlt {n : Nat} (h : n < 16000000) : n < sizeLine := Nat.lt_of_lt_of_le h (by decide)
end MyB

/-! one step of a reading, by its head. -/
namespace MyR
open PySem L2 MyB
def mkT (xs : List V) (H : Hp) (Q : VK) : Prop := xs.length ≤ sizeLine ∧ ∀ p, H p = none → Q (.ref p) (upd H p (.tup xs))
def mkL (xs : List V) (H : Hp) (Q : VK) : Prop := xs.length ≤ sizeLine ∧ ∀ p, H p = none → Q (.ref p) (upd H p (.lst xs))
section
variable {σ : St} {H : Hp} {Q : VK} {D : Ends} {ta tb tc te : TE} {t u : TS} {x y v : V} {K : PySem.W.Frag}
theorem r_var {i : Nat} (h : σ[i]? = some (some v)) (k : Q v H) : tVar i σ H Q := ⟨v, h, k⟩
theorem r_c (k : Q v H) : tC v σ H Q := k
theorem r_op {r : R2} (k : ta σ H fun x H1 => tb σ H1 fun y H2 => r x y H2 Q) : tOp r ta tb σ H Q := k
theorem r_un {r : V → Hp → VK → Prop} (k : ta σ H fun x H1 => r x H1 Q) : tUn r ta σ H Q := k
theorem r_I0 {g : Int → Int → V} {i j : Int} (k : Q (g i j) H) : rI0 g (.int i) (.int j) H Q := ⟨i, j, rfl, rfl, k⟩
theorem r_I {C : Int → Int → Prop} {g : Int → Int → V} {i j : Int} (c : C i j) (k : Q (g i j) H) : rI C g (.int i) (.int j) H Q := ⟨i, j, rfl, rfl, c, k⟩
theorem r_U {g : Int → V} {i : Int} (k : Q (g i) H) : rU g (.int i) H Q := ⟨i, rfl, k⟩
theorem r_eqI {i j : Int} (k : Q (.bl (decide (i = j))) H) : rEq (.int i) (.int j) H Q := by
  refine ⟨rfl, ?_⟩
  have e : decide (V.int i = V.int j) = decide (i = j) := by
    rw [dec_int]
    rfl
  rw [e]
  exact k
theorem r_neI {i j : Int} (k : Q (.bl (!decide (i = j))) H) : rNe (.int i) (.int j) H Q := by
  refine ⟨rfl, ?_⟩
  have e : decide (V.int i = V.int j) = decide (i = j) := by
    rw [dec_int]
    rfl
  rw [e]
  exact k
theorem r_eqB {i j : Bool} (k : Q (.bl (i == j)) H) : rEq (.bl i) (.bl j) H Q := ⟨rfl, by rw [dec_bl]; exact k⟩
theorem r_neB {i j : Bool} (k : Q (.bl (!(i == j))) H) : rNe (.bl i) (.bl j) H Q := ⟨rfl, by rw [dec_bl]; exact k⟩
theorem r_test {R : Bool → Hp → Prop} (k : te σ H fun x H1 => ∃ c, x = .bl c ∧ R c H1) : tTest te σ H R := k
theorem r_tB {R : Bool → Hp → Prop} (k : te σ H fun x H1 => ∃ c, x = .bl c ∧ R c H1) : tB te σ H R := k
theorem r_not {tt : TT} {R : Bool → Hp → Prop} (k : tt σ H fun c H1 => R (!c) H1) : tNot tt σ H R := k
theorem r_and {tt uu : TT} {R : Bool → Hp → Prop} (k : tt σ H fun c H1 => if c = true then uu σ H1 R else R false H1) : tAnd tt uu σ H R := k
theorem r_or {tt uu : TT} {R : Bool → Hp → Prop} (k : tt σ H fun c H1 => if c = true then R true H1 else uu σ H1 R) : tOr tt uu σ H R := k
theorem r_yes {R : Bool → Hp → Prop} (k : R true H) : tYes σ H R := k
theorem r_bl {c : Bool} {R : Bool → Prop} (k : R c) : ∃ d, V.bl c = V.bl d ∧ R d := ⟨c, rfl, k⟩
theorem r_andV (k : ta σ H fun x H1 => ∃ c, x = .bl c ∧ if c = true then tb σ H1 Q else Q (.bl false) H1) : tAndV ta tb σ H Q := k
theorem r_orV (k : ta σ H fun x H1 => ∃ c, x = .bl c ∧ if c = true then Q (.bl true) H1 else tb σ H1 Q) : tOrV ta tb σ H Q := k
theorem r_notV (k : ta σ H fun x H1 => ∃ c, x = .bl c ∧ Q (.bl (!c)) H1) : tNotV ta σ H Q := k
theorem r_chain {r r' : R2} (k : ta σ H fun x H1 => tb σ H1 fun y H2 => r x y H2 fun z H3 => ∃ k, z = .bl k ∧ (if k = true then tc σ H3 fun w' H4 => r' y w' H4 Q else Q (.bl false) H3)) : tChain r r' ta tb tc σ H Q := k
theorem r_if {tt : TT} (k : tt σ H fun c H1 => if c = true then ta σ H1 Q else tb σ H1 Q) : tIf tt ta tb σ H Q := k
theorem r_seq (k : t { D with nx := u D } σ H) : tSeq t u D σ H := k
theorem r_next (k : D.nx σ H) : tNext D σ H := k
theorem r_ifS {tt : TT} (k : tt σ H fun b H1 => if b = true then t D σ H1 else u D σ H1) : tIfS tt t u D σ H := k
theorem r_asg {g : TG} (k : te σ H fun x H1 => g x σ H1 D.nx) : tAsg te g D σ H := k
theorem r_ret (k : te σ H D.rt) : tRet te D σ H := k
theorem r_drop (k : te σ H fun _ H1 => D.nx σ H1) : tDrop te D σ H := k
theorem r_aug {i : Nat} {f : Int → Int → Int} {a : Int} (h : σ[i]? = some (some (.int a))) (k : te σ H fun y H1 => ∃ b, y = .int b ∧ D.nx (σ.set i (some (.int (f a b)))) H1) : tAug i te (ipI f) D σ H := by
  refine ⟨_, h, ?_⟩
  have e : (fun y H1 => ∃ b, y = V.int b ∧ D.nx (σ.set i (some (.int (f a b)))) H1) = fun y H1 => ipI f (.int a) y H1 fun z H2 => D.nx (σ.set i (some z)) H2 := by
    funext y H1
    apply propext
    constructor
    · rintro ⟨b, e, q⟩
      exact ⟨a, b, rfl, e, q⟩
    · rintro ⟨i', b, e1, e2, q⟩
      cases e1
      exact ⟨b, e2, q⟩
  rw [← e]
  exact k
theorem r_name {i : Nat} {R : St → Hp → Prop} (k : R (σ.set i (some v)) H) : gName i v σ H R := k
theorem r_sub {to ti : TE} {g : TSet} {R : St → Hp → Prop} (k : to σ H fun o H1 => ti σ H1 fun i H2 => g o i v H2 fun H3 => R σ H3) : gSub to ti g v σ H R := k
theorem r_gTup {n : Nat} {g : TGs} {R : St → Hp → Prop} {a : Addr} {xs : List V} (h : SqT K H a xs) (e : xs.length = n) (k : g xs σ H R) : gTup K n g (.ref a) σ H R := ⟨a, xs, rfl, h, e, k⟩
theorem r_gCons {g : TG} {gs : TGs} {R : St → Hp → Prop} {xs : List V} (k : g x σ H fun σ' H' => gs xs σ' H' R) : gCons g gs (x :: xs) σ H R := ⟨x, xs, rfl, k⟩
theorem r_gNil {R : St → Hp → Prop} (k : R σ H) : gNil [] σ H R := ⟨rfl, k⟩
theorem r_cons {tr : TA} {R : List V → Hp → Prop} (k : te σ H fun x H1 => tr σ H1 fun xs H2 => R (x :: xs) H2) : tCons te tr σ H R := k
theorem r_nil {R : List V → Hp → Prop} (k : R [] H) : tNil σ H R := k
theorem r_cb {r : List V → Hp → VK → Prop} {tr : TA} (k : tr σ H fun vs H1 => r vs H1 Q) : tCB r tr σ H Q := k
theorem r_call {sp : Sp} {E : XK} {tr : TA} (k : tr σ H fun vs H1 => sp vs H1 Q E) : tCall sp [] E tr σ H Q := by
  have e : (fun vs H1 => sp vs H1 Q E) = fun vs H1 => sp (vs ++ []) H1 Q E := by
    funext vs H1
    rw [List.append_nil]
  show tr σ H fun vs H1 => sp (vs ++ []) H1 Q E
  rw [← e]
  exact k
theorem r_make {C : Addr} {sp : Sp} {E : XK} {tr : TA} (k : tr σ H fun vs H1 => ∀ x dx, H1 x = none → H1 dx = none → dx ≠ x → sp (.ref x :: vs) (upd (upd H1 dx (.own x)) x (.ins C dx [])) (fun v H2 => v = .non ∧ Q (.ref x) H2) E) : tMake C sp [] E tr σ H Q := by
  have e : (fun vs H1 => ∀ x dx, H1 x = none → H1 dx = none → dx ≠ x → sp (.ref x :: vs) (upd (upd H1 dx (.own x)) x (.ins C dx [])) (fun v H2 => v = .non ∧ Q (.ref x) H2) E) =
      fun vs H1 => ∀ x dx, H1 x = none → H1 dx = none → dx ≠ x → sp (.ref x :: (vs ++ [])) (upd (upd H1 dx (.own x)) x (.ins C dx [])) (fun v H2 => v = .non ∧ Q (.ref x) H2) E := by
    funext vs H1
    rw [List.append_nil]
  show tr σ H fun vs H1 => ∀ x dx, H1 x = none → H1 dx = none → dx ≠ x → sp (.ref x :: (vs ++ [])) (upd (upd H1 dx (.own x)) x (.ins C dx [])) (fun v H2 => v = .non ∧ Q (.ref x) H2) E
  rw [← e]
  exact k
theorem r_fld {f : Str} (k : te σ H fun x H1 => ∃ a C dx fs v, x = .ref a ∧ H1 a = some (.ins C dx fs) ∧ Cls K C ∧ NoAttr K C f ∧ fs.lookup f = some v ∧ Q v H1) : tFld K te f σ H Q := k
/-- a new tuple, a new list: a heap of its own name -/
theorem r_tup {tr : TA} (k : tr σ H fun xs H1 => mkT xs H1 Q) : tTup tr σ H Q := k
theorem r_lst {tr : TA} (k : tr σ H fun xs H1 => mkL xs H1 Q) : tLst tr σ H Q := k
theorem r_mkT {xs : List V} (hl : xs.length ≤ sizeLine) (k : ∀ p H', H p = none → Same H H' → H' p = some (.tup xs) → Q (.ref p) H') : mkT xs H Q := ⟨hl, fun p hp => k p _ hp (Same.new0 hp) upd_same⟩
theorem r_mkL {xs : List V} (hl : xs.length ≤ sizeLine) (k : ∀ p H', H p = none → Same H H' → H' p = some (.lst xs) → Q (.ref p) H') : mkL xs H Q := ⟨hl, fun p hp => k p _ hp (Same.new0 hp) upd_same⟩
theorem r_ixL {p : Addr} {xs : List V} {i : Int} (h : SqL K H p xs) (a : atI xs i = some v) (k : Q v H) : rIxL K (.ref p) (.int i) H Q := ⟨p, xs, i, v, rfl, rfl, h, a, k⟩
theorem r_ixT {p : Addr} {xs : List V} {i : Int} (h : SqT K H p xs) (a : atI xs i = some v) (k : Q v H) : rIxT K (.ref p) (.int i) H Q := ⟨p, xs, i, v, rfl, rfl, h, a, k⟩
theorem r_setL {p : Addr} {xs : List V} {i : Int} {j : Nat} {R : Hp → Prop} (h : H p = some (.lst xs)) (a : ixN xs.length i = some j) (k : R (upd H p (.lst (xs.set j v)))) : rSetL (.ref p) (.int i) v H R := ⟨p, xs, i, j, rfl, rfl, h, a, k⟩
theorem r_isi {c : V} {tv uv : Value} {b : Bool} (h1 : ClsV c uv) (h2 : TyX K H x tv) (h3 : PySem.W.kitOne K tv uv = some b) (k : Q (.bl b) H) : rIsi K [x, c] H Q := ⟨x, c, tv, uv, b, rfl, h1, h2, h3, k⟩
theorem r_sum {a : Addr} {ns : List Int} (h : SqL K H a (ns.map V.int)) (k : Q (.int ns.sum) H) : rSum K [V.ref a] H Q := ⟨a, ns, rfl, h, k⟩
theorem r_all {a : Addr} {bs : List Bool} (h : SqL K H a (bs.map V.bl)) (k : Q (.bl (bs.all id)) H) : rAll K [V.ref a] H Q := ⟨a, bs, rfl, h, k⟩
theorem r_par {i j : Nat} {tr : TA} (k : tr σ H fun vs H1 => ∃ v w, vs = [v, w] ∧ D.nx ((σ.set i (some v)).set j (some w)) H1) : tPar i j tr D σ H := k
theorem r_par2 {R : V → V → Prop} (k : R x y) : ∃ v w, ([x, y] : List V) = [v, w] ∧ R v w := ⟨x, y, rfl, k⟩
theorem r_par3 {i j l : Nat} {tr : TA} (k : tr σ H fun vs H1 => ∃ u v w, vs = [u, v, w] ∧ D.nx (((σ.set i (some u)).set j (some v)).set l (some w)) H1) : tPar3 i j l tr D σ H := k
theorem r_rng1 {tr : TA} {R : It → Hp → Prop} (k : tr σ H fun vs H1 => ∃ j : Int, vs = [.int j] ∧ -(2 ^ 62) ≤ j ∧ j < 2 ^ 62 ∧ R (Itr 0 j.toNat) H1) : iRng1 tr σ H R := k
theorem r_rng2 {tr : TA} {R : It → Hp → Prop} (k : tr σ H fun vs H1 => ∃ i j : Int, vs = [.int i, .int j] ∧ (-(2 ^ 62) ≤ i ∧ i < 2 ^ 62 ∧ -(2 ^ 62) ≤ j ∧ j < 2 ^ 62) ∧ R (Itr i (j - i).toNat) H1) : iRng2 tr σ H R := k
theorem r_for {wi : TI} {g : TG} {tb : TS} (k : wi σ H fun J H1 => ∃ W : Nat → Nat → St → Hp → Prop, (∃ m, W 0 m σ H1) ∧ ∀ i m σ H, W i m σ H →
  (J.stop i H ∧ D.nx σ H) ∨ (J.go i H ∧ ∃ N : St → Hp → Prop, (∀ σ' H', N σ' H' → ∃ m', m' < m ∧ W (i + 1) m' σ' H') ∧ ∀ x H', J.yld i H x H' → g x σ H' fun σ2 H2 => tb { D with nx := N, ct := N, bk := D.nx } σ2 H2)) : tFor wi g tb D σ H := k
theorem r_iList {R : It → Hp → Prop} (k : te σ H fun x H1 => ∃ a, x = .ref a ∧ (∃ xs, SqL K H1 a xs) ∧ R (Itl K a) H1) : iList K te σ H R := k
theorem r_iTup {R : It → Hp → Prop} (k : te σ H fun x H1 => ∃ a, x = .ref a ∧ (∃ xs, SqT K H1 a xs) ∧ R (Itt K a) H1) : iTup K te σ H R := k
theorem r_fldS {f : Str} {tv : TE} (k : tv σ H fun y H1 => ta σ H1 fun x H2 => ∃ a C dx fs, x = .ref a ∧ H2 a = some (.ins C dx fs) ∧ Cls K C ∧ NoAttr K C f ∧ fs.length < 1000 ∧
  D.nx σ (upd H2 a (.ins C dx (putF f y fs)))) : sFld K ta tv f D σ H := k
theorem r_sl {r : V → Option Int → Option Int → Hp → VK → Prop} {tl th : TO} (k : te σ H fun x H1 => tl σ H1 fun l H2 => th σ H2 fun u H3 => r x l u H3 Q) : tSl r te tl th σ H Q := k
theorem r_noPart {R : Option Int → Hp → Prop} (k : R none H) : tNoPart σ H R := k
theorem r_part {R : Option Int → Hp → Prop} (k : te σ H fun x H1 => ∃ i, x = .int i ∧ R (some i) H1) : tPart te σ H R := k
theorem r_theInt {i : Int} {R : Int → Prop} (k : R i) : ∃ j, V.int i = V.int j ∧ R j := ⟨i, rfl, k⟩
theorem r_slL {a : Addr} {xs : List V} {lo hi : Option Int} (h : SqL K H a xs) (k : ∀ p H', H p = none → Same H H' → H' p = some (.lst (cutV xs lo hi)) → Q (.ref p) H') : rSlL K (.ref a) lo hi H Q := ⟨a, xs, rfl, h, fun p hp => k p _ hp (Same.new0 hp) upd_same⟩
theorem r_slT {a : Addr} {xs : List V} {lo hi : Option Int} (h : SqT K H a xs) (n : ¬ (HT.sIx xs.length 0 lo = 0 ∧ HT.sIx xs.length xs.length hi = xs.length)) (k : ∀ p H', H p = none → Same H H' → H' p = some (.tup (cutV xs lo hi)) → Q (.ref p) H') : rSlT K (.ref a) lo hi H Q := ⟨a, xs, rfl, h, n, fun p hp => k p _ hp (Same.new0 hp) upd_same⟩
theorem r_append {l : Addr} {xs : List V} (h : H l = some (.lst xs)) (z : xs.length < sizeLine) (k : Q .non (upd H l (.lst (xs ++ [v])))) : rAppend (.ref l) [v] H Q := ⟨l, xs, v, rfl, rfl, h, z, k⟩
theorem r_lc {wi : TI} {g : TG} {tt : TT} {vs : List Nat} (k : wi σ H fun J H1 => ∀ D, H1 D = none → ∃ W : Nat → Nat → Hp → Prop, (∃ m, W 0 m (upd H1 D (.lst []))) ∧ ∀ i m H, W i m H →
  (J.stop i H ∧ Q (.ref D) H) ∨ (J.go i H ∧ ∃ Nx : Hp → Prop, (∀ H', Nx H' → ∃ m', m' < m ∧ W (i + 1) m' H') ∧ ∀ x H', J.yld i H x H' → g x (wipe σ vs) H' fun σ2 H2 => wipe σ2 vs = wipe σ vs ∧ tt σ2 H2 fun b H3 =>
    if b = true then te σ2 H3 fun y H4 => ∃ acc, H4 D = some (.lst acc) ∧ acc.length < sizeLine ∧ Nx (upd H4 D (.lst (acc ++ [y]))) else Nx H3)) : tLc wi g tt te vs σ H Q := k
theorem r_list1 {a : Addr} {xs : List V} {R : Addr → Prop} (h : SqL K H a xs) (k : R a) : ∃ b, V.ref a = V.ref b ∧ (∃ xs, SqL K H b xs) ∧ R b := ⟨a, rfl, ⟨xs, h⟩, k⟩
theorem r_tup1 {a : Addr} {xs : List V} {R : Addr → Prop} (h : SqT K H a xs) (k : R a) : ∃ b, V.ref a = V.ref b ∧ (∃ xs, SqT K H b xs) ∧ R b := ⟨a, rfl, ⟨xs, h⟩, k⟩
theorem r_bm {T : String} {r : V → List V → Hp → VK → Prop} {to : TE} {tr : TA} (k : to σ H fun x H1 => tyV K T x H1 ∧ tr σ H1 fun xs H2 => r x xs H2 Q) : tBM K T r to tr σ H Q := k
theorem r_isN (k : Q (.bl (decide (x = .non))) H) : tIsN (tC x) σ H Q := k
end

/-! ### built-ins' readings by name -/
def qLen (K : PySem.W.Frag) : List V → Hp → VK → Prop := fun xs H Q => ∃ p ys, xs = [.ref p] ∧ (SqL K H p ys ∨ SqT K H p ys) ∧ Q (.int ys.length) H
def qAbs : List V → Hp → VK → Prop := fun xs H Q => ∃ i, xs = [.int i] ∧ Q (.int (if i < 0 then -i else i)) H
def qInt : List V → Hp → VK → Prop := fun xs H Q => (∃ i, xs = [.int i] ∧ Q (.int i) H) ∨ ∃ k, xs = [.bl k] ∧ Q (.int (if k = true then 1 else 0)) H
def qMax : List V → Hp → VK → Prop := fun xs H Q => ∃ i j, xs = [.int i, .int j] ∧ Q (.int (if j > i then j else i)) H
def qMin : List V → Hp → VK → Prop := fun xs H Q => ∃ i j, xs = [.int i, .int j] ∧ Q (.int (if j < i then j else i)) H
def qTup (K : PySem.W.Frag) : List V → Hp → VK → Prop := fun xs H Q => ∃ p ys, xs = [.ref p] ∧ ((SqL K H p ys ∧ ∀ l, H l = none → Q (.ref l) (upd H l (.tup ys))) ∨ (SqT K H p ys ∧ Q (.ref p) H))
section
variable {X : Cx}
theorem q_len : CallR X (.builtin "len") (qLen X.K) := call_len_seq
theorem q_abs : CallR X (.builtin "abs") qAbs := call_abs
theorem q_int : CallR X (.type "int") qInt := call_int1
theorem q_max (hc : X.calm = true) : CallR X (.builtin "max") qMax := call_max2 hc
theorem q_min (hc : X.calm = true) : CallR X (.builtin "min") qMin := call_min2 hc
theorem q_tup : CallR X (.type "tuple") (qTup X.K) := call_tuple_of
end
section
variable {H : Hp} {Q : VK} {K : PySem.W.Frag}
theorem r_lenL {p : Addr} {xs : List V} (h : SqL K H p xs) (k : Q (.int xs.length) H) : qLen K [V.ref p] H Q := ⟨p, xs, rfl, .inl h, k⟩
theorem r_lenT {p : Addr} {xs : List V} (h : SqT K H p xs) (k : Q (.int xs.length) H) : qLen K [V.ref p] H Q := ⟨p, xs, rfl, .inr h, k⟩
theorem r_abs {i : Int} (k : Q (.int (if i < 0 then -i else i)) H) : qAbs [V.int i] H Q := ⟨i, rfl, k⟩
theorem r_int {i : Int} (k : Q (.int i) H) : qInt [V.int i] H Q := .inl ⟨i, rfl, k⟩
theorem r_intB {b : Bool} (k : Q (.int (if b = true then 1 else 0)) H) : qInt [V.bl b] H Q := .inr ⟨b, rfl, k⟩
theorem r_max {i j : Int} (k : Q (.int (max i j)) H) : qMax [V.int i, V.int j] H Q := by
  refine ⟨i, j, rfl, ?_⟩
  have e : (if j > i then j else i) = max i j := by
    split <;> omega
  rw [e]
  exact k
theorem r_min {i j : Int} (k : Q (.int (min i j)) H) : qMin [V.int i, V.int j] H Q := by
  refine ⟨i, j, rfl, ?_⟩
  have e : (if j < i then j else i) = min i j := by
    split <;> omega
  rw [e]
  exact k
theorem r_tupL {p : Addr} {xs : List V} (h : SqL K H p xs) (k : ∀ q H', H q = none → Same H H' → H' q = some (.tup xs) → Q (.ref q) H') : qTup K [V.ref p] H Q := ⟨p, xs, rfl, .inl ⟨h, fun q hq => k q _ hq (Same.new0 hq) upd_same⟩⟩
theorem r_tupT {p : Addr} {xs : List V} (h : SqT K H p xs) (k : Q (.ref p) H) : qTup K [V.ref p] H Q := ⟨p, xs, rfl, .inr ⟨h, k⟩⟩
end
theorem new_same {H H1 : Hp} {p : Addr} {o : HO} (n : H p = none) (e : upd H p o = H1) : Same H H1 := by
  rw [← e]
  exact Same.new0 n
theorem new_at {H H1 : Hp} {p : Addr} {o : HO} (e : upd H p o = H1) : H1 p = some o := by
  rw [← e]
  exact upd_same
theorem tyL {K : PySem.W.Frag} {H : Hp} {p : Addr} {xs : List V} (h : SqL K H p xs) : tyV K "list" (.ref p) H := .inl ⟨rfl, xs, h⟩
theorem at_nat {α : Type} {xs : List α} {i : Int} {v : α} (h0 : 0 ≤ i) (h : xs[i.toNat]? = some v) : atI xs i = some v := by
  have e : ((i.toNat : Nat) : Int) = i := Int.toNat_of_nonneg h0
  rw [← e]
  exact atI_nat h
theorem ixN_int {n : Nat} {i : Int} (h0 : 0 ≤ i) (h1 : i < n) : ixN n i = some i.toNat := by
  unfold ixN
  rw [if_pos h0, if_pos h1]
end MyR

/-! comprehensions over any walk. -/
namespace MyR
open PySem L2 MyB
/-- tuples stay -/
def TupsK (H H' : Hp) : Prop := ∀ b xs, H b = some (.tup xs) → H' b = some (.tup xs)
theorem TupsK.refl (H : Hp) : TupsK H H := fun _ _ h => h
theorem TupsK.of {H H' : Hp} (s : Same H H') : TupsK H H' := fun b xs h => s b _ h
theorem TupsK.trans {H H1 H2 : Hp} (a : TupsK H H1) (b : TupsK H1 H2) : TupsK H H2 := fun x xs h => b x xs (a x xs h)
theorem TupsK.lst {H : Hp} {D : Addr} {acc zs : List V} (h : H D = some (.lst acc)) : TupsK H (upd H D (.lst zs)) := fun b xs e => by
  rw [upd_ne (ne_of e h (by intro z; cases z))]
  exact e
theorem TupsK.kp {a : Addr} {H H' : Hp} {xs : List V} (h : H a = some (.lst xs)) (s : Kp a H H') : TupsK H H' := fun b ys e => s b _ (ne_of e h (by intro z; cases z)) e
theorem get_snoc {α : Type} {ys : List α} {y z : α} {j : Nat} (h : (ys ++ [y])[j]? = some z) : ys[j]? = some z ∨ (j = ys.length ∧ z = y) := by
  by_cases c : j < ys.length
  · rw [List.getElem?_append_left c] at h
    exact .inl h
  · rw [List.getElem?_append_right (by omega)] at h
    have e : j - ys.length = 0 := by
      cases q : j - ys.length with
      | zero => rfl
      | succ m =>
        rw [q] at h
        cases h
    rw [e] at h
    exact .inr ⟨by omega, (Option.some.inj h).symm⟩
section
variable {J : It} {n : Nat} {G : Hp → Prop} {Y : Nat → Hp → V → Hp → Prop} {g : TG} {tt : TT} {te : TE} {vs : List Nat} {σ : St} {H1 : Hp} {D : Addr} {Qd : Hp → Prop}
theorem lc_map (w : Walk J n G Y) (hD : H1 D = none) (hn : n ≤ 16000000) (hG : ∀ H, Same H1 H → G H) (R : Nat → V → Hp → Prop) (mono : ∀ i v H H', TupsK H H' → R i v H → R i v H')
    (hs : ∀ i x H H', i < n → Same H1 H → Y i H x H' → ∀ Add : V → Hp → Prop, (∀ y H4, Same H H4 → R i y H4 → Add y H4) → g x (wipe σ vs) H' fun σ2 H2 => wipe σ2 vs = wipe σ vs ∧ te σ2 H2 Add)
    (hd : ∀ H ys, Same H1 H → H D = some (.lst ys) → ys.length = n → (∀ i y, ys[i]? = some y → R i y H) → Qd H) :
    ∃ W : Nat → Nat → Hp → Prop, (∃ m, W 0 m (upd H1 D (.lst []))) ∧ ∀ i m H, W i m H →
      (J.stop i H ∧ Qd H) ∨ (J.go i H ∧ ∃ Nx : Hp → Prop, (∀ H', Nx H' → ∃ m', m' < m ∧ W (i + 1) m' H') ∧ ∀ x H', J.yld i H x H' → g x (wipe σ vs) H' fun σ2 H2 => wipe σ2 vs = wipe σ vs ∧ tYes σ2 H2 fun b H3 =>
        if b = true then te σ2 H3 fun y H4 => ∃ acc, H4 D = some (.lst acc) ∧ acc.length < sizeLine ∧ Nx (upd H4 D (.lst (acc ++ [y]))) else Nx H3) := by
  refine lc_it w (tt := tYes) (fun i H => Same H1 H ∧ ∃ ys, H D = some (.lst ys) ∧ ys.length = i ∧ ∀ j y, ys[j]? = some y → R j y H) ⟨Same.new0 hD, [], upd_same, rfl, fun j y e => by simp at e⟩ (fun i H _ p => hG H p.1) ?_ ?_
  · rintro i x H H' hi ⟨s1, ys, e1, e2, e3⟩ hy
    have key := hs i x H H' hi s1 hy (fun y H4 => ∃ acc, H4 D = some (.lst acc) ∧ acc.length < sizeLine ∧ (Same H1 (upd H4 D (.lst (acc ++ [y]))) ∧ ∃ ys, (upd H4 D (.lst (acc ++ [y]))) D = some (.lst ys) ∧ ys.length = i + 1 ∧ ∀ j y', ys[j]? = some y' → R j y' (upd H4 D (.lst (acc ++ [y]))))) ?_
    · exact key
    · intro y H4 s4 r
      have e4 : H4 D = some (.lst ys) := s4 _ _ e1
      refine ⟨ys, e4, szlt (by omega), Same.mut (s1.trans s4) hD, ys ++ [y], upd_same, by rw [List.length_append, e2]; rfl, fun j y' h => ?_⟩
      rcases get_snoc h with h | ⟨rfl, rfl⟩
      · exact mono _ _ _ _ ((TupsK.of s4).trans (TupsK.lst e4)) (e3 j y' h)
      · rw [e2]
        exact mono _ _ _ _ (TupsK.lst e4) r
  · rintro H ⟨s1, ys, e1, e2, e3⟩
    exact hd H ys s1 e1 e2 e3
theorem lc_filter (w : Walk J n G Y) (hD : H1 D = none) (hn : n ≤ 16000000) (hG : ∀ H, Same H1 H → G H) (f : Nat → Bool) (R : Nat → V → Hp → Prop) (mono : ∀ i v H H', TupsK H H' → R i v H → R i v H')
    (hs : ∀ i x H H', i < n → Same H1 H → Y i H x H' → ∀ (Add : V → Hp → Prop) (Nx : Hp → Prop), (f i = true → ∀ y H4, Same H H4 → R i y H4 → Add y H4) → (f i = false → ∀ H4, Same H H4 → Nx H4) → g x (wipe σ vs) H' fun σ2 H2 => wipe σ2 vs = wipe σ vs ∧ tt σ2 H2 fun b H3 => if b = true then te σ2 H3 Add else Nx H3)
    (hd : ∀ H ys, Same H1 H → H D = some (.lst ys) → Paired (fun i y => R i y H) ((List.range n).filter f) ys → Qd H) :
    ∃ W : Nat → Nat → Hp → Prop, (∃ m, W 0 m (upd H1 D (.lst []))) ∧ ∀ i m H, W i m H →
      (J.stop i H ∧ Qd H) ∨ (J.go i H ∧ ∃ Nx : Hp → Prop, (∀ H', Nx H' → ∃ m', m' < m ∧ W (i + 1) m' H') ∧ ∀ x H', J.yld i H x H' → g x (wipe σ vs) H' fun σ2 H2 => wipe σ2 vs = wipe σ vs ∧ tt σ2 H2 fun b H3 =>
        if b = true then te σ2 H3 fun y H4 => ∃ acc, H4 D = some (.lst acc) ∧ acc.length < sizeLine ∧ Nx (upd H4 D (.lst (acc ++ [y]))) else Nx H3) := by
  refine lc_it w (fun i H => Same H1 H ∧ ∃ ys, H D = some (.lst ys) ∧ Paired (fun j y => R j y H) ((List.range i).filter f) ys) ⟨Same.new0 hD, [], upd_same, .nil⟩ (fun i H _ p => hG H p.1) ?_ ?_
  · rintro i x H H' hi ⟨s1, ys, e1, e3⟩ hy
    have el : ys.length ≤ i := by
      rw [← e3.length]
      have := List.length_filter_le f (List.range i)
      rw [List.length_range] at this
      exact this
    have key := hs i x H H' hi s1 hy (fun y H4 => ∃ acc, H4 D = some (.lst acc) ∧ acc.length < sizeLine ∧ (Same H1 (upd H4 D (.lst (acc ++ [y]))) ∧ ∃ ys, (upd H4 D (.lst (acc ++ [y]))) D = some (.lst ys) ∧ Paired (fun j y' => R j y' (upd H4 D (.lst (acc ++ [y])))) ((List.range (i + 1)).filter f) ys))
      (fun H3 => Same H1 H3 ∧ ∃ ys, H3 D = some (.lst ys) ∧ Paired (fun j y => R j y H3) ((List.range (i + 1)).filter f) ys) ?_ ?_
    · exact key
    · intro hf y H4 s4 r
      have e4 : H4 D = some (.lst ys) := s4 _ _ e1
      refine ⟨ys, e4, szlt (by omega), Same.mut (s1.trans s4) hD, ys ++ [y], upd_same, ?_⟩
      rw [List.range_succ, List.filter_append]
      have ef : [i].filter f = [i] := by simp [hf]
      rw [ef]
      have a1 : Paired (fun j y' => R j y' (upd H4 D (.lst (ys ++ [y])))) ((List.range i).filter f) ys := Paired.mapP e3 fun a b z => mono _ _ _ _ ((TupsK.of s4).trans (TupsK.lst e4)) z
      exact paired_snoc a1 (mono _ _ _ _ (TupsK.lst e4) r)
    · intro hf H4 s4
      refine ⟨s1.trans s4, ys, s4 _ _ e1, ?_⟩
      rw [List.range_succ, List.filter_append]
      have ef : [i].filter f = [] := by simp [hf]
      rw [ef, List.append_nil]
      exact Paired.mapP e3 fun a b z => mono _ _ _ _ (TupsK.of s4) z
  · rintro H ⟨s1, ys, e1, e3⟩
    exact hd H ys s1 e1 e3
where
  paired_snoc {α β : Type} {F : α → β → Prop} : ∀ {l : List α} {m : List β} {a : α} {b : β}, Paired F l m → F a b → Paired F (l ++ [a]) (m ++ [b])
    | _, _, _, _, .nil, h => .cons h .nil
    | _, _, _, _, .cons r t, h => .cons r (paired_snoc t h)
end
theorem walk_zipT {K : PySem.W.Frag} {a b : Addr} {xs ys : List V} {n : Nat} (hn : n = min xs.length ys.length) : Walk (RZ.ItzT K a b) n (fun H => SqT K H a xs ∧ SqT K H b ys) (YPair (fun i => xs[i]?) (fun i => ys[i]?)) := by
  subst hn
  refine ⟨fun i _ hi q => ?_, fun _ q => ⟨xs, ys, q.1, q.2, by omega⟩, fun i H v H' _ q y => ?_⟩
  · have h1 : i < xs.length := by omega
    have h2 : i < ys.length := by omega
    exact ⟨xs, ys, xs[i], ys[i], q.1, q.2, by simp [h1], by simp [h2]⟩
  · obtain ⟨T, x, z, h1, h2, h3, h4, h5⟩ := y
    exact ⟨T, x, z, h1, h2, h3, h4 xs q.1, h5 ys q.2⟩
end MyR
namespace MyR
open PySem L2 MyB
/-- all but lists stays -/
def NLK (H H' : Hp) : Prop := ∀ b o, (∀ xs, o ≠ .lst xs) → H b = some o → H' b = some o
theorem NLK.refl (H : Hp) : NLK H H := fun _ _ _ h => h
theorem NLK.of {H H' : Hp} (s : Same H H') : NLK H H' := fun b o _ h => s b o h
theorem NLK.trans {H H1 H2 : Hp} (a : NLK H H1) (b : NLK H1 H2) : NLK H H2 := fun x o n h => b x o n (a x o n h)
theorem NLK.lst {H : Hp} {D : Addr} {acc zs : List V} (h : H D = some (.lst acc)) : NLK H (upd H D (.lst zs)) := fun b o n e => by
  rw [upd_ne (ne_of e h (fun z => n acc z))]
  exact e
theorem NLK.kp {a : Addr} {H H' : Hp} {xs : List V} (h : H a = some (.lst xs)) (s : Kp a H H') : NLK H H' := fun b o n e => s b o (ne_of e h (fun z => n xs z)) e
theorem NLK.tups {H H' : Hp} (s : NLK H H') : TupsK H H' := fun b xs h => s b _ (fun _ z => by cases z) h
/-- an int (its number), or a thing that is none -/
def KindI (K : PySem.W.Frag) (H : Hp) (x : V) (r : Option Int) : Prop := (∃ n, x = .int n ∧ r = some n) ∨
  (r = none ∧ ∃ (t : Value) (b1 b2 : Bool), TyX K H x t ∧ PySem.W.kitOne K t (.type "int") = some b1 ∧ PySem.W.kitOne K t (.type "bool") = some b2 ∧ (b1 && !b2) = false)
theorem KindI.int {K : PySem.W.Frag} {H : Hp} (n : Int) : KindI K H (.int n) (some n) := .inl ⟨n, rfl, rfl⟩
def inB (r : Option Int) (l m : Int) : Bool := match r with
  | some n => decide (l ≤ n) && decide (n ≤ m)
  | none => false
theorem inB_yes {n l m : Int} (h1 : l ≤ n) (h2 : n ≤ m) : inB (some n) l m = true := by
  show (decide (l ≤ n) && decide (n ≤ m)) = true
  rw [decide_eq_true h1, decide_eq_true h2]
  rfl
end MyR

/-! the rules that name the written part, K a letter of its own (within a comprehension the readings must not lean on its block). -/
namespace MyK
open PySem L2 MyB MyR
section
variable {X : Cx} {K : PySem.W.Frag}
theorem ix_list (h : X.K = K) : IxR X (rIxL K) := by subst h; exact L2.ix_list
theorem ix_tup (h : X.K = K) : IxR X (rIxT K) := by subst h; exact L2.ix_tup
theorem sl_list (h : X.K = K) : SlR X (rSlL K) := by subst h; exact L2.sl_list
theorem sl_tup (h : X.K = K) : SlR X (rSlT K) := by subst h; exact L2.sl_tup
theorem sl_tupA (h : X.K = K) : SlR X (rSlA K) := by subst h; exact L2.sl_tupA
theorem q_len (h : X.K = K) : CallR X (.builtin "len") (qLen K) := by subst h; exact MyR.q_len
theorem q_tup (h : X.K = K) : CallR X (.type "tuple") (qTup K) := by subst h; exact MyR.q_tup
theorem cr_sum (h : X.K = K) (hc : X.calm = true) : CallR X (.builtin "sum") (rSum K) := by subst h; exact L2.cr_sum hc
theorem cr_all (h : X.K = K) (hc : X.calm = true) : CallR X (.builtin "all") (rAll K) := by subst h; exact L2.cr_all hc
theorem cr_any (h : X.K = K) (hc : X.calm = true) : CallR X (.builtin "any") (rAny K) := by subst h; exact L2.cr_any hc
theorem call_isi (h : X.K = K) : CallR X (.builtin "isinstance") (rIsi K) := by subst h; exact L2.call_isi
theorem cr_sortedTI (h : X.K = K) : CallR X (.builtin "sorted") (MyS.rSortedTI K) := by subst h; exact MyS.cr_sortedTI
theorem op_ltT (h : X.K = K) (hu : X.A.units < cLine) : OpR X (compareOp .Lt) (rLtT K) := by subst h; exact L2.op_ltT hu
theorem op_eqD (h : X.K = K) (hu : X.A.units + 64 < cLine) : OpR X (compareOp .Eq) (rEqD K) := by subst h; exact L2.op_eqD hu
theorem op_neD (h : X.K = K) (hu : X.A.units + 64 < cLine) : OpR X (compareOp .NotEq) (rNeD K) := by subst h; exact L2.op_neD hu
theorem op_catT (h : X.K = K) : OpR X (binaryOp .Add) (rCatT K) := by subst h; exact L2.op_catT
theorem op_in_seq (h : X.K = K) : OpR X (compareOp .In) (rIn K false) := by subst h; exact L2.op_in_seq
theorem pe_fld {e : Expr} {f : Str} {pos : Pos} {ta : TE} (h : X.K = K) (he : PE X e ta) (hb : attributeBase e f X.env (eval e X.env) = eval e X.env) : PE X (.Attribute e f pos) (tFld K ta f) := by subst h; exact L2.pe_fld he hb
theorem pg_tup {es : List Expr} {k : Nat} {t : TGs} {n : Nat} {pos : Pos} (h' : X.K = K) (hc : X.calm = true) (h : PGs X es t)
    (hn : (assignEach es X.env).length = n := by rfl) (hst : (assignEach es X.env).findIdx? (·.1) = none := by rfl) : PG X (.Tuple es k pos) (gTup K n t) := by subst h'; exact L2.pg_tup hc h hn hst
theorem pi_list {tg l : Expr} {tl : TE} (h : X.K = K) (hl : PE X l tl) : PI X tg l (iList K tl) := by subst h; exact L2.pi_list hl
theorem pi_tup {tg l : Expr} {tl : TE} (h : X.K = K) (hl : PE X l tl) : PI X tg l (iTup K tl) := by subst h; exact L2.pi_tup hl
theorem pi_zip {elts : List Expr} {kk : Nat} {tpos p pos : Pos} {e e2 : Expr} {ta : TA} (h : X.K = K) (hg : Gl X "zip") (hm : X.mg "zip" = none) (ha : PA X [e, e2] ta)
    (hs : starEach [e, e2] X.env = (false, eval e X.env) :: starEach [e2] X.env := by rfl) (hpl : (backTo pos (starEach [e2] X.env)).any (·.1) = false := by rfl) : PI X (.Tuple elts kk tpos) (.Call (.Name "zip" p) [e, e2] [] pos) (RZ.iZipA K ta) := by subst h; exact RZ.pi_zipA hg hm ha hs hpl
theorem pi_enum {e : Expr} {ta : TA} {p pos tpos : Pos} {elts : List Expr} {kk : Nat} (h : X.K = K) (hg : Gl X "enumerate") (hm : X.mg "enumerate" = none) (ha : PA X [e] ta) (hs : starEach [e] X.env = [(false, eval e X.env)] := by rfl) :
    PI X (.Tuple elts kk tpos) (.Call (.Name "enumerate" p) [e] [] pos) (iEnum K ta) := by subst h; exact L2.pi_enum hg hm ha hs
theorem r_enum {σ : L2.St} {H : Hp} {ta : TA} {R : It → Hp → Prop} (k : ta σ H fun vs H1 => ∃ a xs, vs = [.ref a] ∧ SqL K H1 a xs ∧ R (Ite K a) H1) : iEnum K ta σ H R := k
theorem r_zip {σ : L2.St} {H : Hp} {ta : TA} {R : It → Hp → Prop} (k : ta σ H fun vs H1 => ∃ a b xs ys, vs = [.ref a, .ref b] ∧ ((SqL K H1 a xs ∧ SqL K H1 b ys ∧ R (Itz K a b) H1) ∨ (SqT K H1 a xs ∧ SqT K H1 b ys ∧ R (RZ.ItzT K a b) H1))) : RZ.iZipA K ta σ H R := k
theorem r_slA {a : Addr} {xs : List V} {lo hi : Option Int} {Q : VK} {H : Hp} (h : H a = some (.tup xs)) (k : ∀ p H', Same H H' → H' p = some (.tup (cutV xs lo hi)) → Q (.ref p) H') : rSlA K (.ref a) lo hi H Q :=
  ⟨a, xs, rfl, sqT h, fun c => k a H (Same.refl H) (by unfold cutV; rw [c.1, c.2, List.drop_zero, Nat.sub_zero, List.take_length]; exact h), fun _ p hp => k p _ (Same.new0 hp) upd_same⟩
theorem r_ltT {a b : Addr} {ns ms : List Int} {Q : VK} {H : Hp} (h1 : SqT K H a (ns.map V.int)) (h2 : SqT K H b (ms.map V.int)) (k : Q (.bl (HT.lexLt ns ms)) H) : rLtT K (.ref a) (.ref b) H Q := ⟨a, b, ns, ms, rfl, rfl, h1, h2, k⟩
theorem r_catT {a b : Addr} {xs ys : List V} {Q : VK} {H : Hp} (h1 : SqT K H a xs) (h2 : SqT K H b ys) (nx : xs ≠ []) (ny : ys ≠ []) (hl : xs.length + ys.length ≤ sizeLine) (k : ∀ p H', H p = none → Same H H' → H' p = some (.tup (xs ++ ys)) → Q (.ref p) H') : rCatT K (.ref a) (.ref b) H Q :=
  ⟨a, b, xs, ys, rfl, rfl, h1, h2, nx, hl, fun e => absurd e ny, fun _ p hp => k p _ hp (Same.new0 hp) upd_same⟩
end
end MyK

/-! a dict from pairs of floors to numbers, as a list of groups; sorted groups. -/
namespace MyD
open PySem L2 MyB MyR MyS
abbrev Grp := Int × Int × Int
def enc (x : Grp) : List Key × V := ([.inl x.1, .inl x.2.1], .int x.2.2)
abbrev pr (x : Grp) : Int × Int := (x.1, x.2.1)
theorem enc_key {x : Grp} {s w : Int} : (enc x).1 = [.inl s, .inl w] ↔ x.1 = s ∧ x.2.1 = w := by
  simp [enc]
def hasG (L : List Grp) (s w : Int) : Bool := L.any fun x => decide (x.1 = s ∧ x.2.1 = w)
def putG (L : List Grp) (s w m : Int) : List Grp :=
  if hasG L s w = true then L.map fun x => if x.1 = s ∧ x.2.1 = w then (x.1, x.2.1, m) else x else L ++ [(s, w, m)]
theorem any_enc (s w : Int) : ∀ L : List Grp, ((L.map enc).any fun kv => decide (kv.1 = [.inl s, .inl w])) = hasG L s w
  | [] => rfl
  | x :: L => by
    rw [List.map_cons, List.any_cons]
    show _ = (decide (x.1 = s ∧ x.2.1 = w) || hasG L s w)
    rw [any_enc s w L]
    congr 1
    exact decide_eq_decide.mpr enc_key
theorem putK_enc (L : List Grp) (s w m : Int) : putK (L.map enc) [.inl s, .inl w] (.int m) = (putG L s w m).map enc := by
  unfold putK putG
  rw [any_enc]
  by_cases c : hasG L s w = true
  · rw [if_pos c, if_pos c, List.map_map, List.map_map]
    apply List.map_congr_left
    intro x _
    show (if (enc x).1 = [Sum.inl s, Sum.inl w] then ((enc x).1, V.int m) else enc x) = enc (if x.1 = s ∧ x.2.1 = w then (x.1, x.2.1, m) else x)
    by_cases e : x.1 = s ∧ x.2.1 = w
    · rw [if_pos e, if_pos (enc_key.mpr e)]
      rfl
    · rw [if_neg e, if_neg (fun q => e (enc_key.mp q))]
  · rw [if_neg c, if_neg c, List.map_append]
    rfl
theorem putG_len (L : List Grp) (s w m : Int) : (putG L s w m).length ≤ L.length + 1 := by
  unfold putG
  split
  · rw [List.length_map]
    omega
  · rw [List.length_append]
    exact Nat.le_refl _
theorem putG_all {P : Grp → Prop} {L : List Grp} {s w m : Int} (h : ∀ x ∈ L, P x) (hn : P (s, w, m)) : ∀ x ∈ putG L s w m, P x := by
  unfold putG
  intro x hx
  split at hx
  · obtain ⟨y, hy, rfl⟩ := List.mem_map.mp hx
    by_cases e : y.1 = s ∧ y.2.1 = w
    · rw [if_pos e, e.1, e.2]
      exact hn
    · rw [if_neg e]
      exact h y hy
  · rcases List.mem_append.mp hx with hx | hx
    · exact h x hx
    · rw [List.mem_singleton.mp hx]
      exact hn
theorem putG_nodup {L : List Grp} {s w m : Int} (h : (L.map pr).Nodup) : ((putG L s w m).map pr).Nodup := by
  unfold putG
  by_cases c : hasG L s w = true
  · rw [if_pos c, List.map_map]
    have e : (pr ∘ fun x : Grp => if x.1 = s ∧ x.2.1 = w then (x.1, x.2.1, m) else x) = pr := by
      funext x
      show pr (if x.1 = s ∧ x.2.1 = w then (x.1, x.2.1, m) else x) = pr x
      split <;> rfl
    rw [e]
    exact h
  · rw [if_neg c, List.map_append]
    refine List.nodup_append.mpr ⟨h, List.nodup_cons.mpr ⟨List.not_mem_nil, List.nodup_nil⟩, ?_⟩
    intro a ha b hb e
    rw [List.map_cons, List.map_nil] at hb
    have hb' := List.mem_singleton.mp hb
    obtain ⟨x, hx, rfl⟩ := List.mem_map.mp ha
    rw [hb'] at e
    refine c (List.any_eq_true.mpr ⟨x, hx, decide_eq_true ?_⟩)
    exact ⟨congrArg Prod.fst e, congrArg Prod.snd e⟩
theorem valV_enc : ∀ {L : List Grp} {i : Nat} {x : Grp}, (L.map pr).Nodup → L[i]? = some x → valV (L.map enc) [.inl x.1, .inl x.2.1] = some (.int x.2.2)
  | [], _, _, _, h => by simp at h
  | y :: L, 0, x, _, h => by
    have e : y = x := by simpa using h
    subst e
    rw [List.map_cons]
    exact valV_pos (p := enc y) rfl
  | y :: L, i + 1, x, nd, h => by
    have h' : L[i]? = some x := by simpa using h
    rw [List.map_cons] at nd
    obtain ⟨n1, n2⟩ := List.nodup_cons.mp nd
    rw [List.map_cons, valV_neg (p := enc y)]
    · exact valV_enc n2 h'
    · intro q
      obtain ⟨e1, e2⟩ := enc_key.mp q
      refine n1 (List.mem_map.mpr ⟨x, List.mem_of_getElem? h', ?_⟩)
      show (x.1, x.2.1) = (y.1, y.2.1)
      rw [e1, e2]
/-! ### what a tuple of ints holds -/
def unI : V → Int
  | .int n => n
  | _ => 0
def kH (H : Hp) : V → List Int
  | .ref t => match H t with
    | some (.tup vs) => vs.map unI
    | _ => []
  | _ => []
theorem kH_at {H : Hp} {t : Addr} {ns : List Int} (h : H t = some (.tup (ns.map V.int))) : kH H (.ref t) = ns := by
  show (match H t with | some (.tup vs) => vs.map unI | _ => []) = ns
  rw [h]
  show (ns.map V.int).map unI = ns
  rw [List.map_map]
  have e : unI ∘ V.int = id := rfl
  rw [e, List.map_id]
abbrev gl (x : Grp) : List Int := [x.1, x.2.1, x.2.2]
abbrev gv (x : Grp) : List V := (gl x).map V.int
theorem gl_inj {x y : Grp} (h : gl x = gl y) : x = y := by
  obtain ⟨a, b, c⟩ := x
  obtain ⟨a', b', c'⟩ := y
  simpa [gl] using h
def ascP (x y : Grp) : Prop := x.1 < y.1 ∨ (x.1 = y.1 ∧ x.2.1 < y.2.1)
/-- a list of refs to groups, sorted: the groups, ascending -/
theorem sorted_groups {H : Hp} {L0 : List Grp} {xs ys : List V} (hl : xs.length = L0.length) (hx : ∀ (i : Nat) (y : V), xs[i]? = some y → ∃ t x, y = V.ref t ∧ L0[i]? = some x ∧ H t = some (.tup (gv x))) (nd : (L0.map pr).Nodup)
    (hs : ys.Pairwise fun x y => ltL (kH H y) (kH H x) = false) (hp : ys.Perm xs) :
    ∃ (L : List Grp) (as : List Addr), L.Perm L0 ∧ L.Pairwise ascP ∧ ys = as.map V.ref ∧ Paired (fun a x => H a = some (.tup (gv x))) as L := by
  -- the groups of xs, by kH
  have e0 : xs.map (kH H) = L0.map gl := by
    apply List.ext_getElem?
    intro i
    rw [List.getElem?_map, List.getElem?_map]
    cases h : xs[i]? with
    | none =>
      have : L0[i]? = none := by
        rw [List.getElem?_eq_none_iff] at h ⊢
        omega
      rw [this]
      rfl
    | some y =>
      obtain ⟨t, x, rfl, e, ht⟩ := hx i y h
      rw [e]
      show some (kH H (.ref t)) = some (gl x)
      rw [kH_at (ns := gl x) ht]
  have key : ∀ (ys : List V), (∀ y ∈ ys, ∃ t x, y = V.ref t ∧ H t = some (.tup (gv x))) → ∃ (L : List Grp) (as : List Addr), ys.map (kH H) = L.map gl ∧ ys = as.map V.ref ∧ Paired (fun a x => H a = some (.tup (gv x))) as L := by
    intro ys
    induction ys with
    | nil => exact fun _ => ⟨[], [], rfl, rfl, .nil⟩
    | cons y ys ih =>
      intro h
      obtain ⟨t, x, rfl, ht⟩ := h y List.mem_cons_self
      obtain ⟨L, as, e1, rfl, q⟩ := ih fun z hz => h z (List.mem_cons_of_mem _ hz)
      refine ⟨x :: L, t :: as, ?_, rfl, .cons ht q⟩
      rw [List.map_cons, List.map_cons, e1, kH_at (ns := gl x) ht]
  obtain ⟨L, as, e1, e2, q⟩ := key ys fun y hy => by
    obtain ⟨i, hi⟩ := List.getElem?_of_mem (hp.mem_iff.mp hy)
    obtain ⟨t, x, e, _, ht⟩ := hx i y hi
    exact ⟨t, x, e, ht⟩
  have pm : (L.map gl).Perm (L0.map gl) := by
    rw [← e0, ← e1]
    exact hp.map _
  have pL : L.Perm L0 := perm_of_map L L0 pm
  refine ⟨L, as, pL, ?_, e2, q⟩
  have s1 : (L.map gl).Pairwise fun a b => ltL b a = false := by
    rw [← e1]
    exact List.pairwise_map.mpr hs
  have s2 : L.Pairwise fun x y => ltL (gl y) (gl x) = false := List.pairwise_map.mp s1
  have s3 : L.Pairwise fun x y => pr x ≠ pr y := List.pairwise_map.mp ((pL.map pr).nodup_iff.mpr nd)
  have s4 := List.Pairwise.and s2 s3
  refine s4.imp fun {x y} h => ?_
  obtain ⟨h1, h2⟩ := h
  have h1' : (if y.1 = x.1 then (if y.2.1 = x.2.1 then (if y.2.2 = x.2.2 then false else decide (y.2.2 < x.2.2)) else decide (y.2.1 < x.2.1)) else decide (y.1 < x.1)) = false := h1
  have h2' : ¬ (x.1 = y.1 ∧ x.2.1 = y.2.1) := fun z => h2 (Prod.ext z.1 z.2)
  by_cases c : y.1 = x.1
  · rw [if_pos c] at h1'
    have c2 : ¬ y.2.1 = x.2.1 := fun z => h2' ⟨c.symm, z.symm⟩
    rw [if_neg c2, decide_eq_false_iff_not] at h1'
    exact .inr ⟨c.symm, by omega⟩
  · rw [if_neg c, decide_eq_false_iff_not] at h1'
    exact .inl (by omega)
where
  perm_of_map : ∀ (L M : List Grp), (L.map gl).Perm (M.map gl) → L.Perm M := fun L M h => by
    have e : ∀ K : List Grp, (K.map gl).map (fun l => (l.getD 0 0, l.getD 1 0, l.getD 2 0)) = K := fun K => by
      rw [List.map_map]
      have q : ((fun l : List Int => (l.getD 0 0, l.getD 1 0, l.getD 2 0)) ∘ gl) = id := rfl
      rw [q, List.map_id]
    have h2 := h.map fun l => (l.getD 0 0, l.getD 1 0, l.getD 2 0)
    rw [e, e] at h2
    exact h2
end MyD

/-! equal data; lists of numbers told by a function. -/
namespace MyD
open PySem L2 MyB MyR
theorem r_eqD {K : PySem.W.Frag} {H : Hp} {Q : VK} {x y : V} {d : PyData} (h1 : Dp K H x d) (h2 : Dp K H y d) (sh : SeqAt.shaped d = true) (k : Q (.bl true) H) : rEqD K x y H Q :=
  ⟨d, d, h1, h2, sh, sh, by rw [SeqAt.eqv_refl d (SeqAt.canLay_of_shaped sh)]; exact k⟩
theorem r_neD {K : PySem.W.Frag} {H : Hp} {Q : VK} {x y : V} {d : PyData} (h1 : Dp K H x d) (h2 : Dp K H y d) (sh : SeqAt.shaped d = true) (k : Q (.bl false) H) : rNeD K x y H Q :=
  ⟨d, d, h1, h2, sh, sh, by rw [SeqAt.eqv_refl d (SeqAt.canLay_of_shaped sh)]; exact k⟩
def gD1 (x : Grp) : PyData := .tuple [.int x.1, .int x.2.1, .int x.2.2]
def gD (L : List Grp) : PyData := .tuple (L.map gD1)
theorem gD_can : ∀ L : List Grp, PyData.canLayAll0 (L.map gD1) = true
  | [] => rfl
  | x :: L => by
    rw [List.map_cons]
    show (PyData.canLay0 (gD1 x) && PyData.canLayAll0 (L.map gD1)) = true
    rw [gD_can L]
    rfl
theorem gD_depth : ∀ L : List Grp, PyData.depthAll (L.map gD1) ≤ 5
  | [] => by simp [PyData.depthAll]
  | x :: L => by
    have h := gD_depth L
    rw [List.map_cons]
    have e : PyData.depthAll (gD1 x :: L.map gD1) = max (PyData.depth (gD1 x)) (PyData.depthAll (L.map gD1)) := by rw [PyData.depthAll]
    have e2 : PyData.depth (gD1 x) ≤ 5 := by simp [gD1, PyData.depth, PyData.depthAll]
    omega
theorem gD_shaped (L : List Grp) : SeqAt.shaped (gD L) = true := by
  unfold SeqAt.shaped
  have h1 : PyData.canLay0 (gD L) = true := by
    show PyData.canLayAll0 (L.map gD1) = true
    exact gD_can L
  have h2 : PyData.depth (gD L) ≤ 64 := by
    have h := gD_depth L
    unfold gD
    rw [PyData.depth]
    omega
  rw [h1, decide_eq_true h2]
  rfl
theorem dpAll_groups {K : PySem.W.Frag} {H : Hp} {as : List Addr} {L : List Grp} (h : Paired (fun a x => H a = some (.tup (gv x))) as L) : DpAll K H (as.map V.ref) (L.map gD1) := by
  induction h with
  | nil => exact .nil
  | @cons a x as L r t ih => exact .cons (.tup (sqT r) (.cons (.int _) (.cons (.int _) (.cons (.int _) .nil)))) ih
def tD (u d : Int) (f : Bool) : PyData := .tuple [.int u, .int d, .bool f]
theorem tD_shaped (u d : Int) (f : Bool) : SeqAt.shaped (tD u d f) = true := by
  unfold SeqAt.shaped
  have h2 : PyData.depth (tD u d f) ≤ 64 := by simp [tD, PyData.depth, PyData.depthAll]
  rw [decide_eq_true h2, Bool.and_true]
  rfl
theorem dp_triple {K : PySem.W.Frag} {H : Hp} {t : Addr} {u d : Int} {f : Bool} (h : H t = some (.tup [.int u, .int d, .bl f])) : Dp K H (.ref t) (tD u d f) :=
  .tup (sqT h) (.cons (.int _) (.cons (.int _) (.cons (.bl _) .nil)))
/-! ### lists told by a function of the place -/
def fnL (n : Nat) (f : Int → V) : List V := (List.range n).map fun (i : Nat) => f (i : Int)
theorem fnL_len (n : Nat) (f : Int → V) : (fnL n f).length = n := by simp [fnL]
theorem fnL_get {n : Nat} {f : Int → V} {j : Nat} (h : j < n) : (fnL n f)[j]? = some (f (j : Int)) := by simp [fnL, h]
theorem fnL_congr {n : Nat} {f g : Int → V} (h : ∀ i : Int, 0 ≤ i → i < n → f i = g i) : fnL n f = fnL n g := by
  unfold fnL
  apply List.map_congr_left
  intro i hi
  exact h i (by omega) (by have := List.mem_range.mp hi; omega)
theorem fnL_set {n : Nat} {f : Int → V} {j : Int} {v : V} (h0 : 0 ≤ j) (h : j < n) : (fnL n f).set j.toNat v = fnL n fun i => if i = j then v else f i := by
  apply List.ext_getElem?
  intro i
  rw [List.getElem?_set]
  by_cases e : j.toNat = i
  · rw [if_pos e, if_pos (by rw [fnL_len]; omega)]
    rw [fnL_get (by omega), if_pos (by omega)]
  · rw [if_neg e]
    by_cases c : i < n
    · rw [fnL_get c, fnL_get c, if_neg (by omega)]
    · have e1 : (fnL n f)[i]? = none := by
        rw [List.getElem?_eq_none_iff, fnL_len]
        omega
      have e2 : (fnL n fun i => if i = j then v else f i)[i]? = none := by
        rw [List.getElem?_eq_none_iff, fnL_len]
        omega
      rw [e1, e2]
theorem fnL_at {n : Nat} {f : Int → V} {j : Int} (h0 : 0 ≤ j) (h : j < n) : atI (fnL n f) j = some (f j) := by
  refine at_nat h0 ?_
  rw [fnL_get (by omega)]
  congr 2
  omega
theorem fnL_rep (n : Nat) (v : V) : (List.replicate n [v]).flatten = fnL n fun _ => v := by
  unfold fnL
  rw [List.map_const', List.length_range]
  induction n with
  | zero => rfl
  | succ n ih => rw [List.replicate_succ, List.flatten_cons, ih, List.replicate_succ]; rfl
end MyD

/-! sum of a tuple, max of three, list(range(n)), any. -/
namespace MyK
open PySem L2 MyB MyR MyD
def rSumT (K : PySem.W.Frag) : List V → Hp → VK → Prop := fun vs H Q => ∃ (a : Addr) (ns : List Int), vs = [V.ref a] ∧ SqT K H a (ns.map V.int) ∧ Q (.int ns.sum) H
open PySem.Spec PySem.Calls PyProof.Rows PyProof.V in
theorem sum_rawT {prog : Program} {w : World} {A : Around} {E : Value → Shared → Prop} {s : Shared} {l : Addr} {its : List Value} {ns : List Int} {Q : Value → Shared → Prop} (hh : A.handled = none) (hl : s.heap.IsTuple l its.toArray) (hi : IntsAre its ns)
    (h : ∀ h' tk t', (∀ b o, s.heap.get? b = some o → h'.get? b = some o) → Q (.int ns.sum t') { s with heap := h', toks := tk }) : wpAny (model prog w) A (call (.builtin "sum") [.ref l]) Q E s := by
  obtain ⟨xs, e⟩ := hi.allInts.items
  have hn : numsOf (intItems xs).toList = ns := by rw [← e]; exact hi.numsOf
  rw [nums_intItems] at hn
  rw [e] at hl
  refine PySem.W.ktm_sumG hh hl fun h' tk t' hk => ?_
  have := h h' tk t' hk
  rw [preSum_eq, List.take_of_length_le (by simp), hn]
  exact this
section
variable {X : Cx} {K : PySem.W.Frag}
theorem cr_sumT (h : X.K = K) (hc : X.calm = true) : CallR X (.builtin "sum") (rSumT K) := by
  subst h
  intro pins s σ H vs us Q I r h
  obtain ⟨a, ns, rfl, hs, q⟩ := h
  obtain ⟨its, rv, hl, _⟩ := I.tuple hs
  rw [Vals.ref1 r]
  exact sum_rawT (I.ok.hd hc) hl rv.ints fun h' tk t' hk => ⟨.int _, H, I.kept hk, ⟨_, rfl⟩, q⟩
def qMax3 : List V → Hp → VK → Prop := fun xs H Q => ∃ i j k, xs = [.int i, .int j, .int k] ∧ Q (.int (max (max i j) k)) H
theorem q_max3 (hc : X.calm = true) : CallR X (.builtin "max") qMax3 := by
  intro pins s σ H vs us Q I r h
  obtain ⟨i, j, k, rfl, q⟩ := h
  refine call_max3Nu hc pins s σ H _ us Q I r ⟨.int i, .int j, .int k, .int (max (max i j) k), rfl, ?_, q⟩
  have e2 : ∀ a b : Int, nuMax2 (.int a) (.int b) = some (.int (max a b)) := fun a b => by
    show some (if decide (a < b) = true then V.int b else V.int a) = some (.int (max a b))
    by_cases c : a < b
    · rw [if_pos (decide_eq_true c)]
      congr 2
      omega
    · rw [if_neg (by simpa using c)]
      congr 2
      omega
  show (nuMax2 (.int i) (.int j)).bind (fun m => nuMax2 m (.int k)) = _
  rw [e2]
  exact e2 _ _
end
section
variable {σ : L2.St} {H : Hp} {Q : VK} {K : PySem.W.Frag}
theorem r_sumT {a : Addr} {ns : List Int} (h : SqT K H a (ns.map V.int)) (k : Q (.int ns.sum) H) : rSumT K [V.ref a] H Q := ⟨a, ns, rfl, h, k⟩
theorem r_max3 {i j k : Int} (q : Q (.int (max (max i j) k)) H) : qMax3 [V.int i, V.int j, V.int k] H Q := ⟨i, j, k, rfl, q⟩
theorem r_any {a : Addr} {bs : List Bool} (h : SqL K H a (bs.map V.bl)) (k : Q (.bl (bs.any id)) H) : rAny K [V.ref a] H Q := ⟨a, bs, rfl, h, k⟩
def kRg (n : Int) (H : Hp) (Q : VK) : Prop := RgOk 0 n ∧ ∀ q, H q = none → Q (.ref q) (upd H q (.lst (rgV 0 n)))
theorem r_listRg {ta : TE} (k : ta σ H fun x H1 => ∃ n, x = .int n ∧ kRg n H1 Q) : tLstRg (tRg1 ta) σ H Q := k
theorem rgV_fnL {n : Int} : rgV 0 n = fnL n.toNat fun i => .int i := by
  unfold rgV fnL
  rw [Int.sub_zero]
  apply List.map_congr_left
  intro i _
  rw [Int.zero_add]
theorem r_kRg {n : Int} (h0 : 0 ≤ n) (h1 : n ≤ 1000000) (k : ∀ q H', H q = none → Same H H' → H' q = some (.lst (fnL n.toNat fun i => .int i)) → Q (.ref q) H') : kRg n H Q :=
  ⟨RgOk.of_le (Int.le_refl _) (by omega) (by omega) h0, fun q hq => k q _ hq (Same.new0 hq) (by rw [upd_same, rgV_fnL])⟩
end
end MyK

/-! == and != of instances by the text's own __eq__; isinstance of a class above. -/
namespace MyO
open PySem PySem.Spec PyProof.Rows L2 MyB
open PySem.W (Frag InstAt findIn isFn Looks looks_findIn looks_subIn notFirst ifBound_K subIn)
section
variable {prog : Program} {w : World} {A : Around} {E : Value → Shared → Prop} {s : Shared} {K : Frag} {x C L f : Addr} {h₀ : Heap} {m : Str → Option Value} {ox : Obj} {od : Option Obj} {b tb : Value}
theorem ifBound_slot {M : Model} {args : List Value} {name : Str} {id : String} {Q : Option Value → Shared → Prop} (X : K.In s.heap) (I : InstAt s.heap x ox C od) (hs : findIn K (.ref C) name = some (some (.builtin id))) (hb : ∀ self, bindSpecial (.builtin id) self = pure (.builtin id, [self]))
    (h : wpAny M A (call (.builtin id) (.ref x :: args)) (fun v => Q (some v)) E s) : wpAny M A (callSpecialIfBound? (.ref x) name args) Q E s := by
  simp only [callSpecialIfBound?, bindSpecialIfBound?]
  refine wpAny_holding (wpAny_bind (wpAny_bind (wpAny_bind (I.type.here ((looks_findIn X hs).here ?_)))))
  simp only [hb]
  refine wpAny_bind (wpAny_askSetting (wpAny_ite ?_))
  have fin : wpAny M A (call (.builtin id) ([.ref x] ++ args) >>= fun v => pure (some v)) Q E s := wpAny_bind (wpAny_mono h (fun v s' h' => wpAny_pure h') fun _ _ h' => h')
  split
  · exact wpAny_bind (wpAny_pure (wpAny_pure fin))
  · exact wpAny_tryCatch (wpAny_bind (wpAny_pure (wpAny_pure fin)))
theorem chk_ne {M : Model} {Q : Unit → Shared → Prop} (X : K.In s.heap) (I : InstAt s.heap x ox C od) (hsub : subIn K (.ref C) (.type "object") = some true) (hq : Q () s) : wpAny M A (checkBuiltinCall "object.__ne__" ⟨[.ref x, b], []⟩) Q E s := by
  have ha := F.cmpArgs_ne (.ref x) b
  simp only [checkBuiltinCall, F.cmpKind_ne, F.cmpSplit_ne]
  have L : Looks M s.heap (isInstance (.ref x) (.type "object")) true := I.type.andThen (looks_subIn X hsub)
  refine wpAny_bind (L.here ?_)
  cases hsig : Manifest.signature? "object.__ne__" with
  | none => exact wpAny_pure hq
  | some sig =>
    simp only [argsOk, hsig] at ha
    have h2 : Bind.checkArgs "object.__ne__" sig ⟨[.ref x, b], []⟩ = pure () := ha
    show wpAny M A (Bind.checkArgs "object.__ne__" sig ⟨[.ref x, b], []⟩) Q E _
    rw [h2]
    exact wpAny_pure hq
theorem entry_ne {Q : Fin → Shared → Prop} (X : K.In s.heap) (I : InstAt s.heap x ox C od) (hs : findIn K (.ref C) "__eq__" = some (some (.ref f))) (hf : isFn K (.ref f) = true) (hu : A.units < cLine)
    (hcall : wpAny (model prog w) A (call (.ref f) [.ref x, b]) (fun v s' => ∃ r, v = .bool r ∧ Q (.done (.ret (.bool (!r)))) s') E s) :
    wpAny (model prog w) A (Builtin.«object.__ne__» ⟨[.ref x, b], []⟩) Q E s := by
  unfold Builtin.«object.__ne__»
  repeat (first
    | with_reducible refine wpAny_cRoomFor hu ?_
    | (refine wpAny_bind (m := callSpecialIfBound? (.ref x) (Str.ofString "__eq__") [b])
        (ifBound_K X I hs hf (wpAny_mono hcall (fun r s' hr => by
          obtain ⟨b, rfl, hq⟩ := hr
          repeat (first | exact hq | exact wpAny_pure hq | exact wpAny_truthy_bool hq | (refine wpAny_bind (m := truthy (.bool _)) (wpAny_truthy_bool ?_)) | wp_step)) fun _ _ e => e)))
    | wp_step)
theorem cmp_ne {Q : Value → Shared → Prop} (hu : A.units + 1 < cLine) (FF : Fr h₀ L s.heap m) (X₀ : K.In h₀) (I : InstAt s.heap x ox C od) (hb : Looks (model prog w) s.heap (typeOf b) tb) (hn : notFirst K C tb = true)
    (hne : findIn K (.ref C) "__ne__" = some (some (.builtin "object.__ne__"))) (hsub : subIn K (.ref C) (.type "object") = some true) (hs : findIn K (.ref C) "__eq__" = some (some (.ref f))) (hf : isFn K (.ref f) = true)
    (h : wpAny (model prog w) A.in1 (call (.ref f) [.ref x, b]) (fun v s' => ∃ r, v = .bool r ∧ Q (.bool (!r)) s') E s) : wpAny (model prog w) A (richCompare .NotEq (.ref x) b) Q E s := by
  have X := X₀.keeps FF.keep
  have one : wpAny (model prog w) A (tryCompare (.ref x) (cmpInfo .NotEq).2.1 b) (fun r s' => ∃ v, r = some v ∧ Q v s') E s := by
    unfold tryCompare
    refine wpAny_bind (ifBound_slot X I hne F.cmp_object.ne.bind (wpAny_call (codeAny_call_builtin F.cmp_object.ne.plain F.cmpEntry_ne (chk_ne X I hsub
      (entry_ne (A := A.in1) X I hs hf hu (wpAny_mono h (fun v s' hv => ?_) fun _ _ e => e))))))
    obtain ⟨r, rfl, hq⟩ := hv
    first | exact ⟨r, rfl, wpAny_pure ⟨_, rfl, hq⟩⟩ | exact ⟨r, rfl, wpAny_pure (wpAny_pure ⟨_, rfl, hq⟩)⟩
  unfold richCompare
  simp only [oneThing_ref]
  refine wpAny_holding (wpAny_bind (wpAny_cRoomFor (Nat.lt_of_succ_lt hu) ?_))
  refine wpAny_bind (I.type.here (wpAny_bind (hb.here ?_)))
  split
  · rename_i q
    have e : subIn K tb (.ref C) = some false := by
      rcases Bool.or_eq_true_iff.mp hn with e | e
      · rw [beq_iff_eq.mp e] at q; simp at q
      · exact beq_iff_eq.mp e
    refine wpAny_bind ((looks_subIn X e).here ?_)
    simp only [Bool.false_eq_true, if_false]
    refine wpAny_bind (wpAny_mono one (fun r s' z => ?_) fun _ _ e => e)
    obtain ⟨v, rfl, hq⟩ := z
    exact wpAny_pure hq
  · refine wpAny_bind (wpAny_pure ?_)
    simp only [Bool.false_eq_true, if_false]
    refine wpAny_bind (wpAny_mono one (fun r s' z => ?_) fun _ _ e => e)
    obtain ⟨v, rfl, hq⟩ := z
    exact wpAny_pure hq
end
/-- the class at C (or one above it) has its own __eq__, and no own __ne__ -/
def EqOf (P : Program) (w : World) (K : Frag) (mg : Str → Option Value) (base : Heap) (k : Nat) (C : Addr) (sp : Sp) : Prop :=
  ∃ f fd, FnOk P w K mg base CX0 k f fd ["self", "other"] sp ∧ findIn K (.ref C) "__eq__" = some (some (.ref f)) ∧ isFn K (.ref f) = true ∧ Binds K fd ["self", "other"] [] ∧
    findIn K (.ref C) "__ne__" = some (some (.builtin "object.__ne__")) ∧ subIn K (.ref C) (.type "object") = some true
/-- x == y or x != y: the own __eq__ says r -/
def rOwnB (K : Frag) (C : Addr) (sp : Sp) (g : Bool → Bool) : R2 := fun x y H Q => ∃ a dx fs b C' dy gs, x = .ref a ∧ y = .ref b ∧ H a = some (.ins C dx fs) ∧ H b = some (.ins C' dy gs) ∧ notFirst K C (.ref C') = true ∧
  sp [.ref a, .ref b] H (fun v H' => ∃ r, v = .bl r ∧ Q (.bl (g r)) H') E0
section
variable {X : Cx} {k : Nat} {C f : Addr} {fd : FuncData} {sp : Sp}
theorem call_own {A : Around} {pins : List (Addr × Obj)} {σ : L2.St} {H : Hp} {s : Shared} {a b : Addr} {Q : VK} (F : FnOk X.prog X.w X.K X.mg X.base CX0 k f fd ["self", "other"] sp) (hb : Binds X.K fd ["self", "other"] []) (hr : Room k A) (hfr : A.frames = X.A.frames) (I : Inv X pins σ H s)
    (hsp : sp [.ref a, .ref b] H Q E0) : wpAny (model X.prog X.w) A (call (.ref f) [.ref a, .ref b]) (fun v s' => ∃ z H', Inv X pins σ H' s' ∧ RelV z v ∧ Q z H') X.xe s := by
  have e0 : Env0 X.prog X.w X.K X.mg X.base A X.stack s H := by
    have e := I.env0
    exact ⟨by rw [hfr]; exact e.frames, e.mod, e.bs, e.bsz, e.funs, e.frf, e.hok, e.bare⟩
  have hl := F.len _ _ _ _ hsp
  have r2 : Vals [V.ref a, V.ref b] [Value.ref a, Value.ref b] := .cons rfl (.cons rfl .nil)
  refine wpAny_call (codeAny_mono (F.run A X.stack s H ⟨[.ref a, .ref b], []⟩ [.ref a, .ref b] [.ref a, .ref b] _ E0 hr e0 (by
    have := hb s [.ref a, .ref b] I.kIn (by simpa using hl)
    simpa using this) r2 hsp) fun r s' hq => ?_)
  cases r with
  | error e => exact pass0 pins σ H s e s' I hq
  | ok fl =>
    cases fl with
    | ret w =>
      obtain ⟨z, H', I', rz, q⟩ := I.after hq
      exact ⟨z, H', I', rz, q⟩
    | next => exact False.elim hq
    | brk => exact False.elim hq
    | cont => exact False.elim hq
theorem op_eqO (D : EqOf X.prog X.w X.K X.mg X.base k C sp) (hr : Room k X.A) : OpR X (compareOp .Eq) (rOwnB X.K C sp id) := by
  intro pins s σ H x y v u Q I rx ry h
  obtain ⟨f, fd, F, hs, hf, hb, hne, hsub⟩ := D
  obtain ⟨a, dx, fs, b, C', dy, gs, rfl, rfl, ha, hb', hn, q⟩ := h
  cases (show v = Value.ref a from rx)
  cases (show u = Value.ref b from ry)
  obtain ⟨mA, J, _⟩ := ins_get I.hok ha
  obtain ⟨mB, J', _⟩ := ins_get I.hok hb'
  obtain ⟨od, J, _⟩ := J.look
  obtain ⟨od', J', _⟩ := J'.look
  obtain ⟨m, hF⟩ := I.fr
  show wpAny (model X.prog X.w) X.A (richCompare .Eq (.ref a) (.ref b)) (EP X pins σ Q) X.xe s
  refine PySem.W.cmp_K (op := .Eq) (tb := .ref C') hr.units0 hF I.ok.mod.kin J J'.type hn hs hf ?_
  refine wpAny_mono (call_own F hb hr rfl I q) (fun w' s' z => ?_) fun _ _ x => x
  obtain ⟨z, H', I', rz, r, rfl, q⟩ := z
  cases rz
  exact ⟨.bl r, H', I', rfl, q⟩
theorem op_neO (D : EqOf X.prog X.w X.K X.mg X.base k C sp) (hr : Room (k + 1) X.A) : OpR X (compareOp .NotEq) (rOwnB X.K C sp not) := by
  intro pins s σ H x y v u Q I rx ry h
  obtain ⟨f, fd, F, hs, hf, hb, hne, hsub⟩ := D
  obtain ⟨a, dx, fs, b, C', dy, gs, rfl, rfl, ha, hb', hn, q⟩ := h
  cases (show v = Value.ref a from rx)
  cases (show u = Value.ref b from ry)
  obtain ⟨mA, J, _⟩ := ins_get I.hok ha
  obtain ⟨mB, J', _⟩ := ins_get I.hok hb'
  obtain ⟨od, J, _⟩ := J.look
  obtain ⟨od', J', _⟩ := J'.look
  obtain ⟨m, hF⟩ := I.fr
  show wpAny (model X.prog X.w) X.A (richCompare .NotEq (.ref a) (.ref b)) (EP X pins σ Q) X.xe s
  refine cmp_ne (tb := .ref C') (by have := hr.units; omega) hF I.ok.mod.kin J J'.type hn hne hsub hs hf ?_
  refine wpAny_mono (call_own F hb hr.in1 rfl I q) (fun w' s' z => ?_) fun _ _ x => x
  obtain ⟨z, H', I', rz, r, rfl, q⟩ := z
  cases rz
  exact ⟨r, rfl, .bl (!r), H', I', rfl, q⟩
/-- isinstance(x, C') of an instance of C -/
theorem call_isCC {C C' : Addr} {b : Bool} (c : C8.InsC X.K C) (me : PySem.W.kitOne X.K (.ref C) (.ref C') = some b) : CallR X (.builtin "isinstance") (fun xs H Q => ∃ a dx fs, xs = [.ref a, .ref C'] ∧ H a = some (.ins C dx fs) ∧ Q (.bl b) H) := by
  intro pins s σ H xs us Q I r h
  obtain ⟨a, dx, fs, rfl, ha, q⟩ := h
  obtain ⟨u, w', rfl, ru, rw'⟩ := vals2 r
  cases rw'
  exact isinst_ok I ru (TyOf.ins ha c.cl c.ha c.hn c.htk c.hm) me fun tk => ⟨.bl b, H, I.tok _, rfl, q⟩
/-- isinstance(x, C') of an instance of any class of the text -/
theorem call_isX {K : Frag} (hK : X.K = K) : CallR X (.builtin "isinstance") (fun xs H Q => ∃ a C C' dx fs b, xs = [.ref a, .ref C'] ∧ H a = some (.ins C dx fs) ∧ C8.InsC K C ∧ PySem.W.kitOne K (.ref C) (.ref C') = some b ∧ Q (.bl b) H) := by
  subst hK
  intro pins s σ H xs us Q I r h
  obtain ⟨a, C, C', dx, fs, b, rfl, ha, c, me, q⟩ := h
  exact call_isCC c me pins s σ H _ us Q I r ⟨a, dx, fs, rfl, ha, q⟩
end
/-- the text's own __eq__, as the top has left it -/
def RawE (K : Frag) (qi : Str) (st : Stmt) (C : Addr) : Prop := ∃ f fd, Fun K "__eq__" qi st f fd ∧ findIn K (.ref C) "__eq__" = some (some (.ref f)) ∧ isFn K (.ref f) = true ∧
  findIn K (.ref C) "__ne__" = some (some (.builtin "object.__ne__")) ∧ subIn K (.ref C) (.type "object") = some true
theorem rawE_mk {K : Frag} {qi : Str} {st : Stmt} {C f : Addr} {od an : Option Addr} {sl : Array (Option Value)} {oc kV dc pm cd ct : Value}
    (i : findIn K (.ref C) "__eq__" = some (some (.ref f))) (n : isFn K (.ref f) = true)
    (l : K.lookup f = some ⟨oc, od, .func (PySem.W.fnOf "__eq__" qi (defArgs st) (defBody st) (defScope st) .none kV dc pm an cd ct), sl⟩) (c : PySem.W.codeIn K cd qi = true) (k : PySem.W.keepIn K (.ref f) = true)
    (e : findIn K (.ref C) "__ne__" = some (some (.builtin "object.__ne__"))) (b : subIn K (.ref C) (.type "object") = some true) : RawE K qi st C := ⟨f, _, fun_mk l c k, i, n, e, b⟩
theorem RawE.ok {P : Program} {w : World} {K : Frag} {mg : Str → Option Value} {base : Heap} {k : Nat} {C : Addr} {qi : Str} {st : Stmt} {N : List Str} {sp : Sp} (R : RawE K qi st C) (S : FnScope N ["self", "other"] (defScope st))
    (bind : ∀ (kV doc pm : Value) (an : Option Addr) (cdv ct : Value) (us : List Value), us.length = 2 → bindArgs (PySem.W.fnOf "__eq__" qi (defArgs st) (defBody st) (defScope st) .none kV doc pm an cdv ct) ⟨us, []⟩ = pure ((["self", "other"] : List Str).zip us))
    (len : ∀ vs H Q E, sp vs H Q E → vs.length = 2)
    (hbody : ∀ (f : Addr) (cdv : Value) (A : Around) (outer : List Env) (s : Shared) (H : Hp) (vs : List V) (Q : VK) (E : XK), Room k (A.deeper (envOfC qi (defScope st) s.heap.objs.size f cdv)) → sp vs H Q E →
      ∃ t, PSs (cxOf CX0 P w K mg base N qi (defScope st) f cdv A outer s H E).nox (defBody st) t ∧ t { nx := fun _ H' => Q .non H', rt := Q } (start N vs) H) : EqOf P w K mg base (k + 1) C sp := by
  obtain ⟨f, fd, F, i, n, e, b⟩ := R
  exact ⟨f, fd, F.ok S len (hbody f), i, n, F.binds bind, e, b⟩
end MyO

/-! == and != by an own __eq__ with a thing of any type; the class below asked first. -/
namespace MyO
open PySem PySem.Spec PyProof.Rows L2 MyB
open PySem.W (Frag InstAt findIn isFn Looks looks_findIn looks_subIn notFirst ifBound_K subIn)
/-- things whose type is looked up: ints, texts, tuples, instances -/
inductive TyS (K : Frag) (H : Hp) : V → Value → Prop where
  | int (i : Int) : TyS K H (.int i) (.type "int")
  | str (x : Str) : TyS K H (.str x) (.type "str")
  | tup {a : Addr} {xs : List V} (e : H a = some (.tup xs)) : TyS K H (.ref a) (.type "tuple")
  | ins {a C dx : Addr} {fs : List (Str × V)} (e : H a = some (.ins C dx fs)) (c : C8.InsC K C) : TyS K H (.ref a) (.ref C)
theorem TyS.ty {K : Frag} {H : Hp} {y : V} {t : Value} (h : TyS K H y t) : TyOf K H y t := by
  cases h with
  | int i => exact .int i
  | str x => exact .str x
  | tup e => exact .tup e
  | ins e c => exact .ins e c.cl c.ha c.hn c.htk c.hm
section
variable {X : Cx} {pins : List (Addr × Obj)} {σ : L2.St} {H : Hp} {s : Shared}
theorem looks_ty {y : V} {u t : Value} (I : Inv X pins σ H s) (ry : RelV y u) (h : TyS X.K H y t) : Looks (model X.prog X.w) s.heap (typeOf u) t := by
  cases h with
  | int i =>
    obtain ⟨tk, e⟩ := (show ∃ t, u = Value.int i t from ry)
    cases e
    exact Looks.of_pure rfl
  | str x =>
    obtain ⟨tk, e⟩ := (show ∃ t, u = Value.str x t from ry)
    cases e
    exact Looks.of_pure rfl
  | @tup a xs e =>
    cases (show u = Value.ref a from ry)
    obtain ⟨_, _, _, o, h1, h2, _⟩ := (show ObjOk X.prog X.w H s.heap a (.tup xs) from I.hok a _ e)
    exact fun A Q E s k q => wpAny_typeOf_ref (k _ _ h1) (by rw [h2]; exact q)
  | @ins a C dx fs e c =>
    cases (show u = Value.ref a from ry)
    obtain ⟨mA, J, _⟩ := ins_get I.hok e
    obtain ⟨od, J, _⟩ := J.look
    exact J.type
end
section
variable {prog : Program} {w : World} {A : Around} {E : Value → Shared → Prop} {s : Shared} {K : Frag} {x y C C' L f : Addr} {h₀ : Heap} {m : Str → Option Value} {ox oy : Obj} {od oe : Option Obj}
/-- x == y, y of a class below x's: y's __eq__ is asked first -/
theorem cmp_refl {Q : Value → Shared → Prop} (hu : A.units < cLine) (FF : Fr h₀ L s.heap m) (X₀ : K.In h₀) (I : InstAt s.heap x ox C od) (J : InstAt s.heap y oy C' oe) (hne : C' ≠ C) (hsub : subIn K (.ref C') (.ref C) = some true)
    (hs : findIn K (.ref C') "__eq__" = some (some (.ref f))) (hf : isFn K (.ref f) = true)
    (h : wpAny (model prog w) A (call (.ref f) [.ref y, .ref x]) (fun v s' => ∃ r, v = .bool r ∧ Q (.bool r) s') E s) : wpAny (model prog w) A (richCompare .Eq (.ref x) (.ref y)) Q E s := by
  have X := X₀.keeps FF.keep
  have one : wpAny (model prog w) A (tryCompare (.ref y) (cmpInfo .Eq).2.2 (.ref x)) (fun r s' => ∃ v, r = some v ∧ Q v s') E s := by
    unfold tryCompare
    refine wpAny_bind (ifBound_K X J hs hf (wpAny_mono h (fun v s' hv => ?_) fun _ _ e => e))
    obtain ⟨r, rfl, hq⟩ := hv
    exact wpAny_pure ⟨_, rfl, hq⟩
  unfold richCompare
  simp only [oneThing_ref]
  refine wpAny_holding (wpAny_bind (wpAny_cRoomFor hu ?_))
  refine wpAny_bind (I.type.here (wpAny_bind (J.type.here ?_)))
  split
  · refine wpAny_bind ((looks_subIn X hsub).here ?_)
    simp only [if_true]
    refine wpAny_bind (wpAny_mono one (fun r s' z => ?_) fun _ _ e => e)
    obtain ⟨v, rfl, hq⟩ := z
    exact wpAny_bind (wpAny_rule (wpAny_pure hq))
  · rename_i q
    exact absurd (by simpa using q) (fun z : C = C' => hne z.symm)
end
/-- x == y or x != y, y of any type that TyS tells: the own __eq__ says r -/
def rOwnG (K : Frag) (C : Addr) (sp : Sp) (g : Bool → Bool) : R2 := fun x y H Q => ∃ a dx fs t, x = .ref a ∧ H a = some (.ins C dx fs) ∧ TyS K H y t ∧ notFirst K C t = true ∧
  sp [.ref a, y] H (fun v H' => ∃ r, v = .bl r ∧ Q (.bl (g r)) H') E0
/-- x == y, y of the class C' below x's -/
def rOwnR (K : Frag) (C' : Addr) (sp : Sp) : R2 := fun x y H Q => ∃ a dx fs b C dy gs, x = .ref a ∧ y = .ref b ∧ H a = some (.ins C dx fs) ∧ H b = some (.ins C' dy gs) ∧ C' ≠ C ∧ subIn K (.ref C') (.ref C) = some true ∧
  sp [.ref b, .ref a] H (fun v H' => ∃ r, v = .bl r ∧ Q (.bl r) H') E0
section
variable {X : Cx} {k : Nat} {C f : Addr} {fd : FuncData} {sp : Sp}
theorem call_ownV {A : Around} {pins : List (Addr × Obj)} {σ : L2.St} {H : Hp} {s : Shared} {a : Addr} {y : V} {u : Value} {Q : VK} (F : FnOk X.prog X.w X.K X.mg X.base CX0 k f fd ["self", "other"] sp) (hb : Binds X.K fd ["self", "other"] []) (hr : Room k A) (hfr : A.frames = X.A.frames) (I : Inv X pins σ H s)
    (ry : RelV y u) (hsp : sp [.ref a, y] H Q E0) : wpAny (model X.prog X.w) A (call (.ref f) [.ref a, u]) (fun v s' => ∃ z H', Inv X pins σ H' s' ∧ RelV z v ∧ Q z H') X.xe s := by
  have e0 : Env0 X.prog X.w X.K X.mg X.base A X.stack s H := by
    have e := I.env0
    exact ⟨by rw [hfr]; exact e.frames, e.mod, e.bs, e.bsz, e.funs, e.frf, e.hok, e.bare⟩
  have hl := F.len _ _ _ _ hsp
  have r2 : Vals [V.ref a, y] [Value.ref a, u] := .cons rfl (.cons ry .nil)
  refine wpAny_call (codeAny_mono (F.run A X.stack s H ⟨[.ref a, u], []⟩ [.ref a, u] [.ref a, y] _ E0 hr e0 (by
    have := hb s [.ref a, u] I.kIn (by simpa using hl)
    simpa using this) r2 hsp) fun r s' hq => ?_)
  cases r with
  | error e => exact pass0 pins σ H s e s' I hq
  | ok fl =>
    cases fl with
    | ret w =>
      obtain ⟨z, H', I', rz, q⟩ := I.after hq
      exact ⟨z, H', I', rz, q⟩
    | next => exact False.elim hq
    | brk => exact False.elim hq
    | cont => exact False.elim hq
theorem op_eqG2 {K : Frag} (hK : X.K = K) (D : EqOf X.prog X.w X.K X.mg X.base k C sp) (hr : Room k X.A) : OpR X (compareOp .Eq) (rOwnG K C sp id) := by
  subst hK
  intro pins s σ H x y v u Q I rx ry h
  obtain ⟨f, fd, F, hs, hf, hb, hne, hsub⟩ := D
  obtain ⟨a, dx, fs, t, rfl, ha, ty, hn, q⟩ := h
  cases (show v = Value.ref a from rx)
  obtain ⟨mA, J, _⟩ := ins_get I.hok ha
  obtain ⟨od, J, _⟩ := J.look
  obtain ⟨m, hF⟩ := I.fr
  show wpAny (model X.prog X.w) X.A (richCompare .Eq (.ref a) u) (EP X pins σ Q) X.xe s
  refine PySem.W.cmp_K (op := .Eq) (tb := t) hr.units0 hF I.ok.mod.kin J (looks_ty I ry ty) hn hs hf ?_
  refine wpAny_mono (call_ownV F hb hr rfl I ry q) (fun w' s' z => ?_) fun _ _ x => x
  obtain ⟨z, H', I', rz, r, rfl, q⟩ := z
  cases rz
  exact ⟨.bl r, H', I', rfl, q⟩
theorem op_neG2 {K : Frag} (hK : X.K = K) (D : EqOf X.prog X.w X.K X.mg X.base k C sp) (hr : Room (k + 1) X.A) : OpR X (compareOp .NotEq) (rOwnG K C sp not) := by
  subst hK
  intro pins s σ H x y v u Q I rx ry h
  obtain ⟨f, fd, F, hs, hf, hb, hne, hsub⟩ := D
  obtain ⟨a, dx, fs, t, rfl, ha, ty, hn, q⟩ := h
  cases (show v = Value.ref a from rx)
  obtain ⟨mA, J, _⟩ := ins_get I.hok ha
  obtain ⟨od, J, _⟩ := J.look
  obtain ⟨m, hF⟩ := I.fr
  show wpAny (model X.prog X.w) X.A (richCompare .NotEq (.ref a) u) (EP X pins σ Q) X.xe s
  refine cmp_ne (tb := t) (by have := hr.units; omega) hF I.ok.mod.kin J (looks_ty I ry ty) hn hne hsub hs hf ?_
  refine wpAny_mono (call_ownV F hb hr.in1 rfl I ry q) (fun w' s' z => ?_) fun _ _ x => x
  obtain ⟨z, H', I', rz, r, rfl, q⟩ := z
  cases rz
  exact ⟨r, rfl, .bl (!r), H', I', rfl, q⟩
theorem op_eqR {K : Frag} (hK : X.K = K) (D : EqOf X.prog X.w X.K X.mg X.base k C sp) (hr : Room k X.A) : OpR X (compareOp .Eq) (rOwnR K C sp) := by
  subst hK
  intro pins s σ H x y v u Q I rx ry h
  obtain ⟨f, fd, F, hs, hf, hb, hne, hsub⟩ := D
  obtain ⟨a, dx, fs, b, C0, dy, gs, rfl, rfl, ha, hb', hnC, hsC, q⟩ := h
  cases (show v = Value.ref a from rx)
  cases (show u = Value.ref b from ry)
  obtain ⟨mA, J, _⟩ := ins_get I.hok ha
  obtain ⟨mB, J', _⟩ := ins_get I.hok hb'
  obtain ⟨od, J, _⟩ := J.look
  obtain ⟨od', J', _⟩ := J'.look
  obtain ⟨m, hF⟩ := I.fr
  show wpAny (model X.prog X.w) X.A (richCompare .Eq (.ref a) (.ref b)) (EP X pins σ Q) X.xe s
  refine cmp_refl hr.units0 hF I.ok.mod.kin J J' hnC hsC hs hf ?_
  refine wpAny_mono (call_ownV F hb hr rfl I (show RelV (V.ref a) (Value.ref a) from rfl) q) (fun w' s' z => ?_) fun _ _ x => x
  obtain ⟨z, H', I', rz, r, rfl, q⟩ := z
  cases rz
  exact ⟨r, rfl, .bl r, H', I', rfl, q⟩
/-- isinstance(x, C') of anything whose type is told -/
theorem call_isV {K : Frag} (hK : X.K = K) : CallR X (.builtin "isinstance") (fun xs H Q => ∃ x C' t b, xs = [x, .ref C'] ∧ TyOf K H x t ∧ PySem.W.kitOne K t (.ref C') = some b ∧ Q (.bl b) H) := by
  subst hK
  intro pins s σ H xs us Q I r h
  obtain ⟨x, C', t, b, rfl, ty, me, q⟩ := h
  obtain ⟨u, w', rfl, ru, rw'⟩ := vals2 r
  cases rw'
  exact isinst_ok I ru ty me fun tk => ⟨.bl b, H, I.tok _, rfl, q⟩
end
end MyO

/-! {k: v for ..} whose keys are tuples (or ints, texts): the new dict filled by DPut. -/
namespace MyC
open PySem PySem.Spec PyProof.Rows L2 MyB
theorem set_put {X : Cx} {pins : List (Addr × Obj)} {σ : L2.St} {H H' : Hp} {s : Shared} {E : Value → Shared → Prop} {D : Addr} {y v : V} {u r : Value} {Q : Unit → Shared → Prop} (hu : X.A.units + 1 < cLine) (I : Inv X pins σ H s) (g : DPut H D y v H')
    (ry : RelV y u) (rv : RelV v r) (h : ∀ s', Inv X pins σ H' s' → Q () s') : wpAny (model X.prog X.w) X.A (dictSet D u r) Q E s := by
  rcases g with ⟨kvs, k, e, rfl, l, rfl⟩ | ⟨kvs, k, b, e, rfl, eb, l, rfl⟩
  · exact d_dictSet I e l ry rv h
  · cases (show u = Value.ref b from ry)
    obtain ⟨z, hd, xs, rel, dd⟩ := dt_of I.hok e
    have room : (tupleKind (mixKind X.prog X.w)).room X.A := show X.A.units < cLine by omega
    have hz : xs.length ≤ sizeLine := by rw [← Paired.length rel]; exact z
    have hl : (putK kvs k v).length ≤ sizeLine := by have := length_putK kvs k v; omega
    refine wpAny_dictSet_heap (hsz := hz) room (key_of I.hok eb) dd fun h' new sb => h _ ?_
    obtain ⟨q, es, ep, hq, h2, h3, h4, _, h5⟩ := new
    refine d_write I (by rw [e]; exact True.intro) sb ⟨q, hq⟩ ⟨hl, hd, _, (rel.put k eb rv).keeps fun c ys ec => ?_, q, es, ep, hq, h2, h3, h4, h5⟩
    rw [upd_ne (ne_of ec e (fun z => nomatch z))]
    exact ec
section
variable {X : Cx}
/-- the reading of such a comprehension -/
def tDcT (wi : TI) (g : TG) (tt : TT) (tk tv : TE) (vs : List Nat) : TE := fun σ H Q => wi σ H fun J H1 => ∀ D, H1 D = none → ∃ W : Nat → Nat → Hp → Prop, (∃ m, W 0 m (upd H1 D (.dT []))) ∧ ∀ i m H, W i m H →
  (J.stop i H ∧ Q (.ref D) H) ∨ (J.go i H ∧ ∃ Nx : Hp → Prop, (∀ H', Nx H' → ∃ m', m' < m ∧ W (i + 1) m' H') ∧ ∀ x H', J.yld i H x H' → g x (wipe σ vs) H' fun σ2 H2 => wipe σ2 vs = wipe σ vs ∧ tt σ2 H2 fun b H3 =>
    if b = true then tk σ2 H3 fun y H4 => tv σ2 H4 fun z H5 => ∃ H6, DPut H5 D y z H6 ∧ Nx H6 else Nx H3)
variable {kx vx tg iter : Expr} {ifs : List Expr} {scope : Scope} {own : List (Str × Nat)} {pos : Pos} {wi : TI} {g : TG} {tt : TT} {tk tv : TE}
theorem pe_dcT (hu : X.A.units + 1 < cLine) (hc : X.calm = true) (hN : X.N.Nodup) (hi : PI X tg iter wi) (ok : BlkOk X.N X.env.scope scope own)
    (hg : ∀ (s : Shared) (H : Hp) (C : Addr) (cl : List (Str × Addr)) (fp : List Addr), PG (X.blk s H scope (compEnvC scope cl C X.env) fp) tg g) (ht : ∀ (s : Shared) (H : Hp) (C : Addr) (cl : List (Str × Addr)) (fp : List Addr), PTs (X.blk s H scope (compEnvC scope cl C X.env) fp) ifs tt)
    (hk : ∀ (s : Shared) (H : Hp) (C : Addr) (cl : List (Str × Addr)) (fp : List Addr), PE (X.blk s H scope (compEnvC scope cl C X.env) fp) kx tk)
    (he : ∀ (s : Shared) (H : Hp) (C : Addr) (cl : List (Str × Addr)) (fp : List Addr), PE (X.blk s H scope (compEnvC scope cl C X.env) fp) vx tv) (hs : ∀ x, foldedSetIterable iter X.env x = pure x := by intro _; rfl) :
    PE X (.DictComp kx vx [⟨tg, iter, ifs, 0⟩] scope pos) (tDcT wi g tt tk tv (own.map (·.2))) := by
  refine ⟨fun pins s σ H Q I h => ?_⟩
  rw [arm_eval_DictComp]
  have closed : ∀ y ∈ scope.names, y.2 = .free → ∃ c, X.env.cells.lookup y.1 = some c := fun y hy e => (ok.free y hy e).elim (fun k => I.ok.has _ (.inl k)) fun k => I.ok.has _ (.inr k)
  refine wpAny_comprehension_free rfl hs (closure_ok closed) ok.kind (fun y hy e => by rw [ok.uniq y hy, e]) (thn (hi.run pins s σ H _ I h) fun _ _ hx => thn hx fun itv sA hA => ?_)
  obtain ⟨it, fp, tn, J, HA, rfl, IA, T, stA, fpA, q⟩ := hA
  refine wpAny_newObj_type (newEnv_comp ?_)
  -- the new dict stands at the heap's end
  obtain ⟨D, hD⟩ : ∃ D, sA.heap.objs.size = D := ⟨_, rfl⟩
  rw [hD]
  have fresh : HA D = none := IA.hok.fresh (Nat.le_of_eq hD)
  obtain ⟨W, ⟨m0, w0⟩, turn⟩ := q D fresh
  obtain ⟨sB, eB⟩ : ∃ sB : Shared, ({ sA with heap := sA.heap.push { cls := .type "dict", data := .dict #[] } } : Shared) = sB := ⟨_, rfl⟩
  have hB : sB.heap = sA.heap.push { cls := .type "dict", data := .dict #[] } := by rw [← eB]
  have IB : Inv X pins σ (upd HA D (.dT [])) sB := by
    subst eB
    refine IA.laid (t' := sA.toks) (fun b o e => Heap.get?_push_of_some _ e) (Nat.le_of_eq hD) ?_
    subst hD
    exact dt_empty sA.heap IA.big
  have fpB : ∀ b ∈ fp, FpOk X pins (upd HA D (.dT [])) b ∧ b < sB.heap.objs.size := fun b hb => by
    obtain ⟨o, e, _⟩ := T.obj _ _ stA b hb
    have lt := Heap.lt_size e
    refine ⟨⟨?_, (fpA b hb).2⟩, ?_⟩
    · rw [upd_ne (by rw [← hD]; exact Nat.ne_of_lt lt)]
      exact (fpA b hb).1
    · rw [hB, Heap.size_push]
      exact Nat.lt_succ_of_lt lt
  have stB : tn 0 sB.heap := T.keep _ _ _ stA fun b _ o e => by rw [hB]; exact Heap.get?_push_of_some _ e
  have start := block_start IB ok hN fpB
  have pG := hg sB (upd HA D (.dT [])) sB.heap.objs.size (cellsFrom (sB.heap.objs.size + 1) scope.names (cloFrom X.env.cells scope.names [])) fp
  have pT := ht sB (upd HA D (.dT [])) sB.heap.objs.size (cellsFrom (sB.heap.objs.size + 1) scope.names (cloFrom X.env.cells scope.names [])) fp
  have pK := hk sB (upd HA D (.dT [])) sB.heap.objs.size (cellsFrom (sB.heap.objs.size + 1) scope.names (cloFrom X.env.cells scope.names [])) fp
  have pV := he sB (upd HA D (.dT [])) sB.heap.objs.size (cellsFrom (sB.heap.objs.size + 1) scope.names (cloFrom X.env.cells scope.names [])) fp
  rw [eB]
  obtain ⟨ce, hce⟩ : ∃ ce, compEnvC scope (cellsFrom (sB.heap.objs.size + 1) scope.names (cloFrom X.env.cells scope.names [])) sB.heap.objs.size X.env = ce := ⟨_, rfl⟩
  show codeAny _ _ (.compStart (.DictComp kx vx [⟨tg, iter, ifs, 0⟩] scope pos) 0 (.ref it) (.ref D) (compEnvC scope (cellsFrom (sB.heap.objs.size + 1) scope.names (cloFrom X.env.cells scope.names [])) sB.heap.objs.size X.env)) (compPost (model X.prog X.w) X.A X.xe none (EP X pins σ Q) (.ref D) sB.heap.objs.size) { sB with heap := pushCells (sB.heap.push { cls := .type "dict", data := .dict #[] }) scope.names }
  rw [hce] at start pG pT pK pV ⊢
  have locs : ce.locals = sB.heap.objs.size := by
    rw [← hce]
    rfl
  have none0 : ∀ b ∈ fp, (upd HA D (.dT [])) b = none := fun b hb => (fpB b hb).1.1
  obtain ⟨HB, eHB⟩ : ∃ HB, upd HA D (.dT []) = HB := ⟨_, rfl⟩
  rw [eHB] at IB start pG pT pK pV w0 none0 fpB
  obtain ⟨sC, eC⟩ : ∃ sC : Shared, ({ sB with heap := pushCells (sB.heap.push { cls := .type "dict", data := .dict #[] }) scope.names } : Shared) = sC := ⟨_, rfl⟩
  rw [eC] at start ⊢
  have stC : tn 0 sC.heap := T.keep _ _ _ stB fun b _ o e => by
    rw [← eC]
    exact pushCells_keeps _ _ _ _ (Heap.get?_push_of_some _ e)
  -- what walks the iterator in the block's context
  have held : ∀ {σ' : L2.St} {H' : Hp} {s' : Shared}, Inv (X.blk sB HB scope ce fp) [] σ' H' s' → (∀ b ∈ fp, H' b = none) → ∀ b ∈ fp, FpOk (X.blk sB HB scope ce fp) [] H' b := fun {σ' H' s'} J hn b hb =>
    ⟨hn b hb, (J.ok.exf b hb).1, J.ok.exfs b hb, .inl hb, fun x c e => (J.ok.exf b hb).2 x c e, fun p hp => absurd (show p ∈ ([] : List (Addr × Obj)) ++ [] from hp) (by simp)⟩
  refine codeAny_compStart_dict ?loop (T.self X.A 0 _ _ _ stC ?loop)
  refine compLoop_anyD (fun n s' => ∃ i H', Inv (X.blk sB HB scope ce fp) [] (wipe σ (own.map (·.2))) H' s' ∧ tn i s'.heap ∧ (∀ b ∈ fp, H' b = none) ∧ W i n H') ?_ m0 ⟨0, HB, start, stC, none0, w0⟩
  rintro n s5 ⟨i, H5, I5, st5, n5, w5⟩
  rcases turn i n H5 w5 with ⟨stop, qq⟩ | ⟨go, Nx, hNx, step⟩
  · -- the iterator is through
    refine thnF (T.done (X.blk sB HB scope ce fp) rfl rfl rfl hc i [] s5 _ H5 (fun _ _ => False) I5 (held I5 n5) st5 stop) fun r s6 z => ?_
    obtain ⟨rfl, I6⟩ := z
    have I7 : Inv X pins σ H5 s6 := IB.call' (ch := fp) I6.os I6.base I6.hok I6.bare fun b hb => ⟨(fpB b hb).1.2.2.2.1, (fpB b hb).1.2.1, (fpB b hb).1.2.2.2.2.1, (fpB b hb).1.2.2.2.2.2⟩
    have free : H5 sB.heap.objs.size = none := by
      have z : H5 ce.locals = none := I6.free
      rwa [locs] at z
    obtain ⟨m, hn, _⟩ := I6.loc
    have hn : s6.heap.Ns ce.locals m := hn
    rw [locs] at hn
    obtain ⟨f0, f1, f2, f3, f4, f5⟩ := IB.fpOk (Nat.le_refl _) free
    exact ⟨m, hn, fun h2 sb => ⟨.ref D, H5, I7.turned (t' := s6.toks) (fun b o hb e => (sb.2 b hb).trans e) f0 f1 f3 f4 f5, rfl, qq⟩⟩
  · -- one more item
    refine thnF (T.item (X.blk sB HB scope ce fp) rfl rfl rfl hc i [] s5 _ H5 (fun _ _ => False) I5 (held I5 n5) st5 go) fun r s6 z => ?_
    obtain ⟨u, rfl, z⟩ := z
    refine thnF z fun _ s7 z7 => ?_
    obtain ⟨x, H7, I7, r7, y7, st7, n7⟩ := z7
    refine thnF (pG.run _ s7 _ H7 x u _ (I7.pinned (held I7 n7) (T.obj _ _ st7)) r7 (step x H7 y7)) fun _ s8 z8 => ?_
    obtain ⟨σ8, H8, I8, w8, q8⟩ := z8
    have close : ∀ {s' : Shared} {H' : Hp}, Inv (X.blk sB HB scope ce fp) ([] ++ pinsAt fp s7.heap) σ8 H' s' → Nx H' → ∃ m, m < n ∧ ∃ i H', Inv (X.blk sB HB scope ce fp) [] (wipe σ (own.map (·.2))) H' s' ∧ tn i s'.heap ∧ (∀ b ∈ fp, H' b = none) ∧ W i m H' := fun {s' H'} J nx => by
      obtain ⟨m', lt, w'⟩ := hNx H' nx
      have pinned : ∀ b ∈ fp, ∀ o, s7.heap.get? b = some o → s'.heap.get? b = some o ∧ H' b = none := fun b hb o e =>
        have z := J.pin (b, o) (List.mem_append_right _ (List.mem_append_right _ (mem_pinsAt hb e)))
        ⟨z.1, z.2.1⟩
      refine ⟨m', lt, i + 1, H', (J.unpinned (pins := [])).weak (by rw [← w8, wipe_length]) (fun j v e => (wipe_some (w8 ▸ e)).1), T.keep _ _ _ st7 fun b hb o e => (pinned b hb o e).1, fun b hb => ?_, w'⟩
      obtain ⟨o, e, _⟩ := T.obj _ _ st7 b hb
      exact (pinned b hb o e).2
    refine thnF (pT.run _ s8 σ8 H8 _ I8 q8) fun b s9 z9 => ?_
    obtain ⟨H9, I9, q9⟩ := z9
    cases b with
    | false => exact close I9 (by simpa using q9)
    | true =>
      simp only [if_true] at q9 ⊢
      refine thnF (pK.run _ s9 σ8 H9 _ I9 q9) fun kv s10 z10 => ?_
      obtain ⟨yk, H10, I10, r10, q10⟩ := z10
      refine thnF (pV.run _ s10 σ8 H10 _ I10 q10) fun vv s11 z11 => ?_
      obtain ⟨yv, H11, I11, r11, H12, put, nx⟩ := z11
      exact set_put (X := X.blk sB HB scope ce fp) hu I11 put r10 r11 fun s12 I12 => close I12 nx
end
end MyC

/-! dicts of pairs of floors: pairs that are apart; a dict comprehension over a tuple. -/
namespace MyD
open PySem PySem.Spec PyProof.Rows L2 MyB
theorem hasG_no {L : List Grp} {s w : Int} (h : ∀ x ∈ L, pr x ≠ (s, w)) : hasG L s w = false := by
  unfold hasG
  rw [List.any_eq_false]
  intro x hx
  have := h x hx
  simp only [decide_eq_true_eq]
  exact fun z => this (Prod.ext z.1 z.2)
theorem putG_no {L : List Grp} {s w m : Int} (h : ∀ x ∈ L, pr x ≠ (s, w)) : putG L s w m = L ++ [(s, w, m)] := by
  unfold putG
  rw [hasG_no h, if_neg (by decide)]
theorem valV_no {L : List Grp} {s w : Int} (h : ∀ x ∈ L, pr x ≠ (s, w)) : valV (L.map enc) [.inl s, .inl w] = none := by
  have e := valV_any (κ := List Key) [Sum.inl s, Sum.inl w] (L.map enc)
  rw [any_enc, hasG_no h] at e
  cases c : valV (L.map enc) [.inl s, .inl w] with
  | none => rfl
  | some v =>
    rw [c] at e
    cases e
theorem apart {M : List Grp} (nd : (M.map pr).Nodup) {i : Nat} {x : Grp} (h : M[i]? = some x) : ∀ y ∈ M.take i, pr y ≠ pr x := by
  intro y hy e
  obtain ⟨j, hj⟩ := List.getElem?_of_mem hy
  have hji : j < i := by
    have := (List.getElem?_eq_some_iff.mp hj).1
    rw [List.length_take] at this
    omega
  rw [List.getElem?_take, if_pos hji] at hj
  have e1 : (M.map pr)[j]? = some (pr y) := by rw [List.getElem?_map, hj]; rfl
  have e2 : (M.map pr)[i]? = some (pr x) := by rw [List.getElem?_map, h]; rfl
  rw [e] at e1
  exact List.pairwise_iff_getElem.mp nd j i (List.getElem?_eq_some_iff.mp e1).1 (List.getElem?_eq_some_iff.mp e2).1 hji ((List.getElem?_eq_some_iff.mp e1).2.trans (List.getElem?_eq_some_iff.mp e2).2.symm)
/-- the number under a pair, 0 where there is none -/
def getG (L : List Grp) (s w : Int) : Int := ((L.find? fun x => decide (x.1 = s ∧ x.2.1 = w)).map fun x => x.2.2).getD 0
theorem valV_find (s w : Int) : ∀ L : List Grp, valV (L.map enc) [.inl s, .inl w] = (L.find? fun x => decide (x.1 = s ∧ x.2.1 = w)).map fun x => V.int x.2.2
  | [] => rfl
  | x :: L => by
    rw [List.map_cons, List.find?_cons]
    by_cases c : x.1 = s ∧ x.2.1 = w
    · rw [valV_pos (enc_key.mpr c), decide_eq_true c]
      rfl
    · rw [valV_neg (fun z => c (enc_key.mp z)), decide_eq_false c, valV_find s w L]
theorem valV_has {L : List Grp} {s w : Int} (h : hasG L s w = true) : valV (L.map enc) [.inl s, .inl w] = some (.int (getG L s w)) := by
  rw [valV_find]
  unfold hasG at h
  unfold getG
  cases c : L.find? fun x => decide (x.1 = s ∧ x.2.1 = w) with
  | none =>
    rw [List.find?_eq_none] at c
    obtain ⟨x, hx, e⟩ := List.any_eq_true.mp h
    exact absurd e (c x hx)
  | some x => rfl
theorem valV_or (L : List Grp) (s w : Int) : (valV (L.map enc) [.inl s, .inl w]).getD (.int 0) = .int (getG L s w) := by
  rw [valV_find]
  unfold getG
  cases L.find? fun x => decide (x.1 = s ∧ x.2.1 = w) <;> rfl
theorem hasG_put {L : List Grp} {s w m a b : Int} (h : hasG L a b = true) : hasG (putG L s w m) a b = true := by
  unfold hasG at h ⊢
  obtain ⟨x, hx, e⟩ := List.any_eq_true.mp h
  have e : x.1 = a ∧ x.2.1 = b := by simpa using e
  refine List.any_eq_true.mpr ?_
  unfold putG
  split
  · by_cases c : x.1 = s ∧ x.2.1 = w
    · exact ⟨(x.1, x.2.1, m), List.mem_map.mpr ⟨x, hx, if_pos c⟩, by simpa using e⟩
    · exact ⟨x, List.mem_map.mpr ⟨x, hx, if_neg c⟩, by simpa using e⟩
  · exact ⟨x, List.mem_append_left _ hx, by simpa using e⟩
/-- one pair of a move: want, many go from floor a to floor b -/
def mvG (L : List Grp) (a b : Int) (x : Int × Int) : List Grp := putG (putG L a x.1 (getG L a x.1 - x.2)) b x.1 (getG (putG L a x.1 (getG L a x.1 - x.2)) b x.1 + x.2)
def mvAll (L : List Grp) (a b : Int) (A : List (Int × Int)) : List Grp := A.foldl (fun L x => mvG L a b x) L
theorem mvAll_snoc {L : List Grp} {a b : Int} {A : List (Int × Int)} {x : Int × Int} : mvAll L a b (A ++ [x]) = mvG (mvAll L a b A) a b x := by
  unfold mvAll
  rw [List.foldl_append]
  rfl
theorem mvAll_has {L : List Grp} {a b s w : Int} : ∀ {A : List (Int × Int)}, hasG L s w = true → hasG (mvAll L a b A) s w = true := by
  intro A
  induction A generalizing L with
  | nil => exact fun h => h
  | cons x A ih => exact fun h => ih (L := mvG L a b x) (hasG_put (hasG_put h))
theorem mvAll_len {L : List Grp} {a b : Int} : ∀ {A : List (Int × Int)}, (mvAll L a b A).length ≤ L.length + 2 * A.length := by
  intro A
  induction A generalizing L with
  | nil => exact Nat.le_refl _
  | cons x A ih =>
    have h := ih (L := mvG L a b x)
    have h1 := putG_len L a x.1 (getG L a x.1 - x.2)
    have h2 := putG_len (putG L a x.1 (getG L a x.1 - x.2)) b x.1 (getG (putG L a x.1 (getG L a x.1 - x.2)) b x.1 + x.2)
    have h3 : (mvG L a b x).length ≤ L.length + 2 := Nat.le_trans h2 (by omega)
    show (mvAll (mvG L a b x) a b A).length ≤ _
    rw [List.length_cons]
    omega
theorem mvAll_nodup {L : List Grp} {a b : Int} : ∀ {A : List (Int × Int)}, (L.map pr).Nodup → ((mvAll L a b A).map pr).Nodup := by
  intro A
  induction A generalizing L with
  | nil => exact fun h => h
  | cons x A ih => exact fun h => ih (L := mvG L a b x) (putG_nodup (putG_nodup h))
/-- a dict comprehension with tuple keys over a tuple that stays -/
theorem dcT_tup {K : PySem.W.Frag} {a : Addr} {xs : List V} {g : TG} {tt : TT} {tk tv : TE} {vs : List Nat} {σ : L2.St} {H1 : Hp} {D : Addr} {Qd : Hp → Prop} (Pv : Nat → Hp → Prop) (h0 : Pv 0 (upd H1 D (.dT []))) (hl : ∀ i H, i ≤ xs.length → Pv i H → SqT K H a xs)
    (hs : ∀ i x H, xs[i]? = some x → Pv i H → g x (wipe σ vs) H fun σ2 H2 => wipe σ2 vs = wipe σ vs ∧ tt σ2 H2 fun b H3 =>
      if b = true then tk σ2 H3 fun y H4 => tv σ2 H4 fun z H5 => ∃ H6, DPut H5 D y z H6 ∧ Pv (i + 1) H6 else Pv (i + 1) H3) (hd : ∀ H, Pv xs.length H → Qd H) :
    ∃ W : Nat → Nat → Hp → Prop, (∃ m, W 0 m (upd H1 D (.dT []))) ∧ ∀ i m H, W i m H →
      ((Itt K a).stop i H ∧ Qd H) ∨ ((Itt K a).go i H ∧ ∃ Nx : Hp → Prop, (∀ H', Nx H' → ∃ m', m' < m ∧ W (i + 1) m' H') ∧ ∀ x H', (Itt K a).yld i H x H' → g x (wipe σ vs) H' fun σ2 H2 => wipe σ2 vs = wipe σ vs ∧ tt σ2 H2 fun b H3 =>
        if b = true then tk σ2 H3 fun y H4 => tv σ2 H4 fun z H5 => ∃ H6, DPut H5 D y z H6 ∧ Nx H6 else Nx H3) := by
  refine ⟨fun i m H => m = xs.length - i ∧ i ≤ xs.length ∧ Pv i H, ⟨_, rfl, Nat.zero_le _, h0⟩, ?_⟩
  rintro i m H ⟨rfl, hi, p⟩
  have q := hl i H hi p
  rcases Nat.lt_or_ge i xs.length with lt | ge
  · refine .inr ⟨⟨xs, xs[i], q, by simp [lt]⟩, Pv (i + 1), fun H' p' => ⟨xs.length - (i + 1), by omega, rfl, lt, p'⟩, fun x H' y => ?_⟩
    obtain ⟨rfl, y⟩ := y
    exact hs i x _ (y xs q) p
  · obtain rfl : i = xs.length := by omega
    exact .inl ⟨⟨xs, q, Nat.le_refl _⟩, hd H p⟩
end MyD

/-! dict(xs) of a list of pairs ((a, b), n), no (a, b) twice. -/
namespace MyC
open PySem PySem.Spec PyProof.Rows L2 MyB MyD
abbrev Ent := List Key × Addr × Value
theorem entries_of {X : Cx} {pins : List (Addr × Obj)} {σ : L2.St} {H : Hp} {s : Shared} (I : Inv X pins σ H s) {ts : List Addr} {L : List Grp} (h : Paired (fun t (x : Grp) => ∃ q, H t = some (.tup [.ref q, .int x.2.2]) ∧ H q = some (.tup [.int x.1, .int x.2.1])) ts L) :
    ∃ ps : List Ent, KT H (L.map enc) ps ∧ ps.length = ts.length ∧ ∀ (j : Nat) (p : Ent), ps[j]? = some p → ∃ t, ts[j]? = some t ∧ IsTup s.heap t #[.ref p.2.1, p.2.2] := by
  induction h with
  | nil => exact ⟨[], .nil, rfl, fun j p e => by simp at e⟩
  | @cons t x ts L r rest ih =>
    obtain ⟨ps, kt, hl, hp⟩ := ih
    obtain ⟨q, h1, h2⟩ := r
    obtain ⟨its, rv, ht, _⟩ := I.tuple (sqT h1)
    obtain ⟨u, y, ei, ru, ry⟩ := vals2 rv
    subst ei
    cases (show u = Value.ref q from ru)
    refine ⟨([.inl x.1, .inl x.2.1], q, y) :: ps, .cons ⟨rfl, h2, ry⟩ kt, by rw [List.length_cons, List.length_cons, hl], fun j p e => ?_⟩
    cases j with
    | zero =>
      have e' := Option.some.inj (show some (([.inl x.1, .inl x.2.1], q, y) : Ent) = some p from e)
      subst e'
      exact ⟨t, rfl, ht⟩
    | succ j =>
      obtain ⟨t', e1, e2⟩ := hp j p (by simpa using e)
      exact ⟨t', by simpa using e1, e2⟩
theorem storedAll_nd : ∀ {ps acc : List Ent}, ((acc ++ ps).map (·.1)).Nodup → storedAllH acc ps = acc ++ ps
  | [], acc, _ => by
    rw [List.append_nil]
    rfl
  | p :: ps, acc, h => by
    have hn : atKey acc p.1 = none := by
      unfold atKey
      have : acc.find? (fun x => decide (x.1 = p.1)) = none := by
        rw [List.find?_eq_none]
        intro x hx e
        have e : x.1 = p.1 := by simpa using e
        rw [List.map_append, List.nodup_append] at h
        exact h.2.2 x.1 (List.mem_map_of_mem hx) p.1 (List.mem_map_of_mem List.mem_cons_self) e
      rw [this]
      rfl
    show storedAllH (storedH acc p.1 p.2.1 p.2.2) ps = _
    rw [storedH_new hn, storedAll_nd (by simpa using h)]
    simp
theorem kt_mem {H : Hp} {kvs : List (List Key × V)} {ps : List Ent} (h : KT H kvs ps) : ∀ p ∈ ps, H p.2.1 = some (.tup (p.1.map kV)) := by
  unfold KT at h
  induction h with
  | nil => exact fun p hp => (List.not_mem_nil hp).elim
  | cons r t ih =>
    intro p hp
    rcases List.mem_cons.mp hp with rfl | hp
    · obtain ⟨e1, e2, _⟩ := r
      rw [← e1]
      exact e2
    · exact ih p hp
theorem kt_keys {H : Hp} {kvs : List (List Key × V)} {ps : List Ent} (h : KT H kvs ps) : ps.map (·.1) = kvs.map (·.1) := by
  unfold KT at h
  induction h with
  | nil => rfl
  | cons r t ih => rw [List.map_cons, List.map_cons, ih, r.1]
theorem enc_keys_nd {L : List Grp} (h : (L.map pr).Nodup) : ((L.map enc).map (·.1)).Nodup := by
  rw [List.map_map]
  refine List.pairwise_map.mpr ((List.pairwise_map.mp h).imp fun {x y} n e => n ?_)
  have e : [Sum.inl x.1, Sum.inl x.2.1] = ([Sum.inl y.1, Sum.inl y.2.1] : List Key) := e
  simp at e
  exact Prod.ext e.1 e.2
theorem call_dictL {X : Cx} {K : PySem.W.Frag} (hK : X.K = K) (hcalm : X.calm = true) (hu : X.A.units + 2 < cLine) : CallR X (.type "dict") (fun xs H Q => ∃ (a : Addr) (ts : List Addr) (L : List Grp), xs = [.ref a] ∧ H a = some (.lst (ts.map V.ref)) ∧
    Paired (fun t (x : Grp) => ∃ q, H t = some (.tup [.ref q, .int x.2.2]) ∧ H q = some (.tup [.int x.1, .int x.2.1])) ts L ∧ (L.map pr).Nodup ∧ ∀ p, H p = none → Q (.ref p) (upd H p (.dT (L.map enc)))) := by
  subst hK
  intro pins s σ H xs us Q I r q
  obtain ⟨a, ts, L, rfl, hq, hp, nd, q⟩ := q
  obtain ⟨u, rfl, rx⟩ := vals1 r
  cases rx
  obtain ⟨its, rv, pl, hz⟩ := I.list (sqL hq)
  have ei := refs_at rv
  subst ei
  rw [List.length_map] at hz
  obtain ⟨ps, kt, hl, hps⟩ := entries_of I hp
  obtain ⟨o, n, ho, hc, hd, hdat⟩ := pl
  have size : ∀ {b : Addr} {ob : Obj}, s.heap.get? b = some ob → b ≠ s.heap.objs.size := fun e => Nat.ne_of_lt (Heap.lt_size e)
  have items : PairItems s.heap (ts.map Value.ref).toArray (fun j => ts.getD j 0) (ps.map fun p => (Value.ref p.2.1, p.2.2)) := by
    refine ⟨by simp [hl], fun j k v e => ?_⟩
    rw [List.getElem?_map] at e
    obtain ⟨p, hp, e⟩ := Option.map_eq_some_iff.mp e
    obtain ⟨t, ht, tup⟩ := hps j p hp
    injection e with e1 e2
    subst e1 e2
    have eg : ts.getD j 0 = t := by rw [List.getD_eq_getElem?_getD, ht]; rfl
    show (ts.map Value.ref).toArray[j]? = some (.ref (ts.getD j 0)) ∧ PairAt s.heap (ts.getD j 0) _ _
    rw [eg]
    exact ⟨by simp [ht], .inl tup⟩
  refine call_dict_pairsH (knd := tupleKind (mixKind X.prog X.w)) (ps := ps) (PairArg.list a (ts.map Value.ref).toArray (fun j => ts.getD j 0) (ps.map fun p => (Value.ref p.2.1, p.2.2))) (I.ok.hd hcalm) (show X.A.in1.in1.units < cLine from hu) ⟨⟨o, n, ho, hc, hd, hdat⟩, items⟩
    ⟨by simp, fun i key v e => ?_⟩ (fun h' hk x hx => ?_) (by simp [hl]; exact hz) fun h' tk hd' hk => ?_
  · have e : (ps.map fun p => (Value.ref p.2.1, p.2.2))[i]? = some (key, v) := e
    rw [List.getElem?_map] at e
    obtain ⟨p, hp, e⟩ := Option.map_eq_some_iff.mp e
    injection e with e1 e2
    subst e1 e2
    exact ⟨p.1, p.2.1, hp, rfl⟩
  · obtain ⟨ob, it, n, h1, h2, h3, h4⟩ := key_of I.hok (kt_mem kt x hx)
    exact ⟨ob, it, n, hk _ _ (size h1) (by simp) h1, h2, h3, h4⟩
  · have e : storedAllH [] ps = ps := by
      rw [storedAll_nd (by rw [List.nil_append, kt_keys kt]; exact enc_keys_nd nd), List.nil_append]
    rw [e] at hd'
    obtain ⟨ob, es, ep, g1, g2, g3, g4, _, g5⟩ := hd'
    have hm : (s.heap.objs.size == sysModules) = false := beq_eq_false_iff_ne.mpr (Nat.ne_of_gt I.big)
    have fresh := I.hok.fresh (Nat.le_refl s.heap.objs.size)
    have hlen : (L.map enc).length ≤ sizeLine := by
      have := Paired.length hp
      rw [List.length_map]
      omega
    exact ⟨.ref s.heap.objs.size, upd H s.heap.objs.size (.dT (L.map enc)), I.laid (t' := tk) (fun b ob e => hk b ob (by simp) e) (Nat.le_refl _)
      (show ObjOk X.prog X.w _ _ _ (.dT (L.map enc)) from ⟨hlen, hm, ps, kt.keeps fun c ys ec => by rw [upd_ne (ne_of_none ec fresh)]; exact ec, ob, es, ep, g1, g2, g3, g4, g5⟩), rfl, q _ fresh⟩
end MyC

/-! the abstract layer: immutable things as values, mutable ones by number. -/
namespace Ab
open PySem PySem.Spec PyProof.Rows L2 MyB MyR MyD
inductive AV where
  | non | bl (b : Bool) | int (i : Int) | str (x : Str) | ty (n : String) | gl (a : Addr)
  | tup (xs : List AV) | ob (C : Addr) (fs : List (Str × AV)) | rf (n : Nat) | kl (xs : List AV)
/-- where the mutable things stand -/
abbrev Th := Nat → Option Addr
def Untr (θ : Th) (a : Addr) : Prop := ∀ n, θ n ≠ some a
/-- a list that nobody changes -/
def KL (K : PySem.W.Frag) (θ : Th) (H : Hp) (a : Addr) (vs : List V) : Prop := (Untr θ a ∧ ∃ o, H a = some (.frz o (.lst vs))) ∨ SqL K (fun _ => none) a vs
theorem KL.sq {K : PySem.W.Frag} {θ : Th} {H : Hp} {a : Addr} {vs : List V} (h : KL K θ H a vs) : SqL K H a vs := by
  rcases h with ⟨_, o, h⟩ | h
  · exact .inl (.inr ⟨o, h⟩)
  · rcases h with h | h
    · rcases h with h | ⟨o, h⟩ <;> cases h
    · exact .inr h
mutual
inductive Rep (K : PySem.W.Frag) (θ : Th) (H : Hp) : AV → V → Prop
  | non : Rep K θ H .non .non
  | bl {b} : Rep K θ H (.bl b) (.bl b)
  | int {i} : Rep K θ H (.int i) (.int i)
  | str {x} : Rep K θ H (.str x) (.str x)
  | ty {n} : Rep K θ H (.ty n) (.ty n)
  | gl {a} : Rep K θ H (.gl a) (.ref a)
  | tup {a vs xs} : Untr θ a → H a = some (.tup vs) → Reps K θ H xs vs → Rep K θ H (.tup xs) (.ref a)
  | ob {a C dx gs fs} : Untr θ a → H a = some (.ins C dx gs) → RepF K θ H fs gs → Rep K θ H (.ob C fs) (.ref a)
  | rf {n a} : θ n = some a → Rep K θ H (.rf n) (.ref a)
  | kl {a vs xs} : KL K θ H a vs → Reps K θ H xs vs → Rep K θ H (.kl xs) (.ref a)
inductive Reps (K : PySem.W.Frag) (θ : Th) (H : Hp) : List AV → List V → Prop
  | nil : Reps K θ H [] []
  | cons {x v xs vs} : Rep K θ H x v → Reps K θ H xs vs → Reps K θ H (x :: xs) (v :: vs)
inductive RepF (K : PySem.W.Frag) (θ : Th) (H : Hp) : List (Str × AV) → List (Str × V) → Prop
  | nil {gs} : RepF K θ H [] gs
  | cons {f x v fs gs} : gs.lookup f = some v → Rep K θ H x v → RepF K θ H fs gs → RepF K θ H ((f, x) :: fs) gs
end
def pt {α : Type} (η : Nat → Option α) (n : Nat) (o : α) : Nat → Option α := fun m => if m = n then some o else η m
theorem pt_same {α : Type} {η : Nat → Option α} {n : Nat} {o : α} : pt η n o n = some o := by unfold pt; rw [if_pos rfl]
theorem pt_ne {α : Type} {η : Nat → Option α} {n m : Nat} {o : α} (h : m ≠ n) : pt η n o m = η m := by unfold pt; rw [if_neg h]
theorem pt_pt {α : Type} {η : Nat → Option α} {n : Nat} {o u : α} : pt (pt η n o) n u = pt η n u := by
  funext b; unfold pt; split <;> rfl
structure Ext (θ : Th) (H : Hp) (θ' : Th) (H' : Hp) : Prop where
  mono : ∀ n a, θ n = some a → θ' n = some a
  fresh : ∀ n a, θ' n = some a → θ n = some a ∨ H a = none
  keep : ∀ b o, H b = some o → Untr θ b → H' b = some o
  stay : ∀ b o, H b = some o → ∃ o', H' b = some o'
section
variable {K : PySem.W.Frag} {θ θ' θ1 : Th} {H H' H1 : Hp}
theorem Ext.refl : Ext θ H θ H := ⟨fun _ _ h => h, fun _ _ h => .inl h, fun _ _ h _ => h, fun _ o h => ⟨o, h⟩⟩
theorem Ext.untr (e : Ext θ H θ' H') {b : Addr} {o : HO} (h : H b = some o) (u : Untr θ b) : Untr θ' b := fun n z => by
  rcases e.fresh n b z with q | q
  · exact u n q
  · rw [h] at q; cases q
theorem Ext.trans (e : Ext θ H θ1 H1) (f : Ext θ1 H1 θ' H') : Ext θ H θ' H' := by
  refine ⟨fun n a h => f.mono n a (e.mono n a h), fun n a h => ?_, fun b o h u => f.keep b o (e.keep b o h u) (e.untr h u), fun b o h => ?_⟩
  · rcases f.fresh n a h with q | q
    · exact e.fresh n a q
    · cases z : H a with
      | none => exact .inr rfl
      | some o =>
        obtain ⟨o', q'⟩ := e.stay a o z
        rw [q] at q'; cases q'
  · obtain ⟨o1, q⟩ := e.stay b o h
    exact f.stay b o1 q
theorem Ext.same (s : Same H H') : Ext θ H θ H' := ⟨fun _ _ h => h, fun _ _ h => .inl h, fun b o h _ => s b o h, fun b o h => ⟨o, s b o h⟩⟩
theorem KL.ext (e : Ext θ H θ' H') {a : Addr} {vs : List V} (h : KL K θ H a vs) : KL K θ' H' a vs := by
  rcases h with ⟨u, o, q⟩ | h
  · exact .inl ⟨e.untr q u, o, e.keep _ _ q u⟩
  · exact .inr h
/-- what may be tracked from now on: a list, a dict -/
def MutK (u : HO) : Prop := (∃ xs, u = .lst xs) ∨ (∃ k, u = .dK k) ∨ ∃ k, u = .dT k
theorem untr_pt {n : Nat} {p a : Addr} (u : Untr θ a) (h : a ≠ p) : Untr (pt θ n p) a := fun m z => by
  by_cases c : m = n
  · subst c
    rw [pt_same] at z
    exact h (Option.some.inj z).symm
  · rw [pt_ne c] at z
    exact u m z
theorem mutK_tup {p a : Addr} {u : HO} {vs : List V} (m : MutK u) (hp : H p = some u) (h : H a = some (.tup vs)) : a ≠ p := by
  rintro rfl
  rw [hp] at h
  cases h
  rcases m with ⟨_, z⟩ | ⟨_, z⟩ | ⟨_, z⟩ <;> cases z
theorem mutK_ins {p a C dx : Addr} {u : HO} {fs : List (Str × V)} (m : MutK u) (hp : H p = some u) (h : H a = some (.ins C dx fs)) : a ≠ p := by
  rintro rfl
  rw [hp] at h
  cases h
  rcases m with ⟨_, z⟩ | ⟨_, z⟩ | ⟨_, z⟩ <;> cases z
theorem mutK_frz {p a : Addr} {u w : HO} {o : Obj} (m : MutK u) (hp : H p = some u) (h : H a = some (.frz o w)) : a ≠ p := by
  rintro rfl
  rw [hp] at h
  cases h
  rcases m with ⟨_, z⟩ | ⟨_, z⟩ | ⟨_, z⟩ <;> cases z
mutual
theorem Rep.track {n : Nat} {p : Addr} {u : HO} (hn : θ n = .none) (m : MutK u) (hp : H p = some u) : ∀ {x : AV} {v : V}, Rep K θ H x v → Rep K (pt θ n p) H x v
  | _, _, .non => .non
  | _, _, .bl => .bl
  | _, _, .int => .int
  | _, _, .str => .str
  | _, _, .ty => .ty
  | _, _, .gl => .gl
  | _, _, .tup u h r => .tup (untr_pt u (mutK_tup m hp h)) h (Reps.track hn m hp r)
  | _, _, .ob u h r => .ob (untr_pt u (mutK_ins m hp h)) h (RepF.track hn m hp r)
  | _, _, .rf h => .rf ((pt_ne (by rintro rfl; rw [hn] at h; cases h)).trans h)
  | _, _, .kl h r => .kl (by
      rcases h with ⟨u, o, q⟩ | h
      · exact .inl ⟨untr_pt u (mutK_frz m hp q), o, q⟩
      · exact .inr h) (Reps.track hn m hp r)
theorem Reps.track {n : Nat} {p : Addr} {u : HO} (hn : θ n = .none) (m : MutK u) (hp : H p = some u) : ∀ {xs : List AV} {vs : List V}, Reps K θ H xs vs → Reps K (pt θ n p) H xs vs
  | _, _, .nil => .nil
  | _, _, .cons a b => .cons (Rep.track hn m hp a) (Reps.track hn m hp b)
theorem RepF.track {n : Nat} {p : Addr} {u : HO} (hn : θ n = .none) (m : MutK u) (hp : H p = some u) : ∀ {fs : List (Str × AV)} {gs : List (Str × V)}, RepF K θ H fs gs → RepF K (pt θ n p) H fs gs
  | _, _, .nil => .nil
  | _, _, .cons l a b => .cons l (Rep.track hn m hp a) (RepF.track hn m hp b)
end
mutual
theorem Rep.ext (e : Ext θ H θ' H') : ∀ {x : AV} {v : V}, Rep K θ H x v → Rep K θ' H' x v
  | _, _, .non => .non
  | _, _, .bl => .bl
  | _, _, .int => .int
  | _, _, .str => .str
  | _, _, .ty => .ty
  | _, _, .gl => .gl
  | _, _, .tup u h r => .tup (e.untr h u) (e.keep _ _ h u) (Reps.ext e r)
  | _, _, .ob u h r => .ob (e.untr h u) (e.keep _ _ h u) (RepF.ext e r)
  | _, _, .rf h => .rf (e.mono _ _ h)
  | _, _, .kl h r => .kl (h.ext e) (Reps.ext e r)
theorem Reps.ext (e : Ext θ H θ' H') : ∀ {xs : List AV} {vs : List V}, Reps K θ H xs vs → Reps K θ' H' xs vs
  | _, _, .nil => .nil
  | _, _, .cons a b => .cons (Rep.ext e a) (Reps.ext e b)
theorem RepF.ext (e : Ext θ H θ' H') : ∀ {fs : List (Str × AV)} {gs : List (Str × V)}, RepF K θ H fs gs → RepF K θ' H' fs gs
  | _, _, .nil => .nil
  | _, _, .cons l a b => .cons l (Rep.ext e a) (RepF.ext e b)
end
theorem Reps.len {xs : List AV} {vs : List V} (h : Reps K θ H xs vs) : xs.length = vs.length := by
  induction xs generalizing vs with
  | nil => cases h; rfl
  | cons x xs ih => cases h with | cons a b => simp [ih b]
theorem Reps.at {xs : List AV} {vs : List V} (h : Reps K θ H xs vs) {i : Nat} {x : AV} (e : xs[i]? = some x) : ∃ v, vs[i]? = some v ∧ Rep K θ H x v := by
  induction xs generalizing vs i with
  | nil => simp at e
  | cons y xs ih =>
    cases h with
    | cons a b =>
      cases i with
      | zero => simp at e; subst e; exact ⟨_, rfl, a⟩
      | succ i => simpa using ih b (by simpa using e)
theorem Reps.back {xs : List AV} {vs : List V} (h : Reps K θ H xs vs) {i : Nat} {v : V} (e : vs[i]? = some v) : ∃ x, xs[i]? = some x ∧ Rep K θ H x v := by
  induction xs generalizing vs i with
  | nil => cases h; simp at e
  | cons y xs ih =>
    cases h with
    | cons a b =>
      cases i with
      | zero => simp at e; subst e; exact ⟨_, rfl, a⟩
      | succ i => simpa using ih b (by simpa using e)
theorem Reps.app {xs ys : List AV} {vs ws : List V} (h : Reps K θ H xs vs) (g : Reps K θ H ys ws) : Reps K θ H (xs ++ ys) (vs ++ ws) := by
  induction xs generalizing vs with
  | nil => cases h; exact g
  | cons x xs ih => cases h with | cons a b => exact .cons a (ih b)
theorem Reps.set {xs : List AV} {vs : List V} (h : Reps K θ H xs vs) {i : Nat} {x : AV} {v : V} (g : Rep K θ H x v) : Reps K θ H (xs.set i x) (vs.set i v) := by
  induction xs generalizing vs i with
  | nil => cases h; exact .nil
  | cons y xs ih =>
    cases h with
    | cons a b =>
      cases i with
      | zero => exact .cons g b
      | succ i => exact .cons a (ih b)
theorem Reps.take {xs : List AV} {vs : List V} (h : Reps K θ H xs vs) (n : Nat) : Reps K θ H (xs.take n) (vs.take n) := by
  induction xs generalizing vs n with
  | nil => cases h; simp; exact .nil
  | cons y xs ih =>
    cases h with
    | cons a b =>
      cases n with
      | zero => simp; exact .nil
      | succ n => exact .cons a (ih b n)
theorem Reps.drop {xs : List AV} {vs : List V} (h : Reps K θ H xs vs) (n : Nat) : Reps K θ H (xs.drop n) (vs.drop n) := by
  induction xs generalizing vs n with
  | nil => cases h; simp; exact .nil
  | cons y xs ih =>
    cases h with
    | cons a b =>
      cases n with
      | zero => exact .cons a b
      | succ n => simpa using ih b n
theorem Reps.rev {xs : List AV} {vs : List V} (h : Reps K θ H xs vs) : Reps K θ H xs.reverse vs.reverse := by
  induction xs generalizing vs with
  | nil => cases h; exact .nil
  | cons x xs ih =>
    cases h with
    | cons a b => rw [List.reverse_cons, List.reverse_cons]; exact (ih b).app (.cons a .nil)
theorem Reps.ints {ns : List Int} : ∀ {vs : List V}, Reps K θ H (ns.map AV.int) vs → vs = ns.map V.int := by
  induction ns with
  | nil => intro vs h; cases h; rfl
  | cons n ns ih => intro vs h; cases h with | cons a b => cases a; rw [ih b]; rfl
theorem Reps.ofInts {ns : List Int} : Reps K θ H (ns.map AV.int) (ns.map V.int) := by
  induction ns with
  | nil => exact .nil
  | cons n ns ih => exact .cons .int ih
theorem Reps.bools {ns : List Bool} : ∀ {vs : List V}, Reps K θ H (ns.map AV.bl) vs → vs = ns.map V.bl := by
  induction ns with
  | nil => intro vs h; cases h; rfl
  | cons n ns ih => intro vs h; cases h with | cons a b => cases a; rw [ih b]; rfl
theorem RepF.get {fs : List (Str × AV)} {gs : List (Str × V)} (h : RepF K θ H fs gs) {f : Str} {x : AV} (e : fs.lookup f = some x) : ∃ v, gs.lookup f = some v ∧ Rep K θ H x v := by
  induction fs with
  | nil => simp at e
  | cons p fs ih =>
    obtain ⟨g, y⟩ := p
    cases h with
    | cons l a b =>
      rw [List.lookup_cons] at e
      by_cases q : f = g
      · subst q
        simp at e
        subst e
        exact ⟨_, l, a⟩
      · have q' : (f == g) = false := by simpa using q
        rw [q'] at e
        exact ih b (by simpa using e)
end
/-! ### the mutable things -/
inductive AO where
  | lst (xs : List AV) | dK (kvs : List (Key × AV)) | dT (kvs : List (List Key × AV)) | fz (o : AO) (od : Obj) (u : HO) | ins (C : Addr) (fs : List (Str × AV))
abbrev Eta := Nat → Option AO
inductive RepK {κ : Type} (K : PySem.W.Frag) (θ : Th) (H : Hp) : List (κ × AV) → List (κ × V) → Prop
  | nil : RepK K θ H [] []
  | cons {k x v xs vs} : Rep K θ H x v → RepK K θ H xs vs → RepK K θ H ((k, x) :: xs) ((k, v) :: vs)
/-- the fields are those that are told -/
def InsOk (fs : List (Str × AV)) (gs : List (Str × V)) : Prop := gs.length ≤ fs.length ∧ ∀ g, fs.lookup g = none → gs.lookup g = none
def RepO (K : PySem.W.Frag) (θ : Th) (H : Hp) (a : Addr) : AO → Prop
  | .lst xs => ∃ vs, H a = some (.lst vs) ∧ Reps K θ H xs vs
  | .dK kvs => ∃ vs, H a = some (.dK vs) ∧ RepK K θ H kvs vs
  | .dT kvs => ∃ vs, H a = some (.dT vs) ∧ RepK K θ H kvs vs
  | .fz (.dK kvs) o u => ∃ vs, u = .dK vs ∧ H a = some (.frz o (.dK vs)) ∧ RepK K θ H kvs vs
  | .fz (.dT kvs) o u => ∃ vs, u = .dT vs ∧ H a = some (.frz o (.dT vs)) ∧ RepK K θ H kvs vs
  | .fz _ _ _ => False
  | .ins C fs => ∃ dx gs, H a = some (.ins C dx gs) ∧ InsOk fs gs ∧ RepF K θ H fs gs
/-- what is known besides, and lasts -/
structure KG where
  k : PySem.W.Frag
  G : Th → Hp → Prop
  mono : ∀ θ H θ' H', Ext θ H θ' H' → G θ H → G θ' H'
instance : Coe KG PySem.W.Frag := ⟨KG.k⟩
abbrev KG.top (K : PySem.W.Frag) : KG := ⟨K, fun _ _ => True, fun _ _ _ _ _ _ => trivial⟩
structure RelH (K : KG) (θ : Th) (η : Eta) (H : Hp) : Prop where
  «at» : ∀ n o, η n = some o → ∃ a, θ n = some a ∧ RepO K θ H a o
  inj : ∀ n m a, θ n = some a → θ m = some a → n = m
  live : ∀ n a, θ n = some a → ∃ o, H a = some o ∧ ∀ xs, o ≠ .tup xs
  top : ∃ N, ∀ n, N ≤ n → θ n = none
  gh : K.G θ H
section
variable {K : PySem.W.Frag} {θ θ' θ1 : Th} {H H' H1 : Hp} {η η' : Eta}
theorem RepK.ext {κ : Type} (e : Ext θ H θ' H') {xs : List (κ × AV)} {vs : List (κ × V)} (h : RepK K θ H xs vs) : RepK K θ' H' xs vs := by
  induction h with
  | nil => exact .nil
  | cons a b ih => exact .cons (a.ext e) ih
/-- an object is represented as before where its own cell is kept -/
theorem RepO.ext (e : Ext θ H θ' H') {a : Addr} (h : H' a = H a) {o : AO} (w : RepO K θ H a o) : RepO K θ' H' a o := by
  cases o with
  | lst xs => obtain ⟨vs, q, r⟩ := w; exact ⟨vs, h.trans q, r.ext e⟩
  | dK kvs => obtain ⟨vs, q, r⟩ := w; exact ⟨vs, h.trans q, r.ext e⟩
  | dT kvs => obtain ⟨vs, q, r⟩ := w; exact ⟨vs, h.trans q, r.ext e⟩
  | ins C fs => obtain ⟨dx, gs, q, l, r⟩ := w; exact ⟨dx, gs, h.trans q, l, r.ext e⟩
  | fz o od u =>
    cases o with
    | dK kvs => obtain ⟨vs, z, q, r⟩ := w; exact ⟨vs, z, h.trans q, r.ext e⟩
    | dT kvs => obtain ⟨vs, z, q, r⟩ := w; exact ⟨vs, z, h.trans q, r.ext e⟩
    | lst xs => exact w
    | ins C fs => exact w
    | fz o a b => exact w
theorem RepO.notTup {a : Addr} {o : AO} (h : RepO K θ H a o) : ∃ u, H a = some u ∧ ∀ xs, u ≠ .tup xs := by
  cases o with
  | lst xs => obtain ⟨vs, q, _⟩ := h; exact ⟨_, q, fun _ z => by cases z⟩
  | dK xs => obtain ⟨vs, q, _⟩ := h; exact ⟨_, q, fun _ z => by cases z⟩
  | dT xs => obtain ⟨vs, q, _⟩ := h; exact ⟨_, q, fun _ z => by cases z⟩
  | ins C fs => obtain ⟨dx, gs, q, _⟩ := h; exact ⟨_, q, fun _ z => by cases z⟩
  | fz o od u =>
    cases o with
    | dK xs => obtain ⟨vs, _, q, _⟩ := h; exact ⟨_, q, fun _ z => by cases z⟩
    | dT xs => obtain ⟨vs, _, q, _⟩ := h; exact ⟨_, q, fun _ z => by cases z⟩
    | lst xs => exact h.elim
    | ins C fs => exact h.elim
    | fz o a b => exact h.elim
theorem RepO.notTup' {a : Addr} {o : AO} (h : RepO K θ H a o) {u : HO} (hp : H a = some u) : ∀ xs, u ≠ .tup xs := by
  obtain ⟨w, e, n⟩ := h.notTup
  rw [hp] at e
  cases e
  exact n
/-- a tuple is never tracked -/
theorem RelH.untrT {K : KG} (R : RelH K θ η H) {a : Addr} {xs : List V} (h : H a = some (.tup xs)) : Untr θ a := fun n z => by
  obtain ⟨o, e, nt⟩ := R.live n a z
  rw [h] at e
  cases e
  exact nt _ rfl
theorem RelH.untr {K : KG} (R : RelH K θ η H) {a : Addr} (h : H a = none) : Untr θ a := fun n z => by
  obtain ⟨o, e, _⟩ := R.live n a z
  rw [h] at e; cases e
/-- what is tracked stays as it is -/
theorem RelH.keep {K : KG} (R : RelH K θ η H) (e : Ext θ H θ H') (k : ∀ n a o, θ n = some a → H a = some o → H' a = some o) : RelH K θ η H' := by
  refine ⟨fun n o h => ?_, R.inj, fun n a h => ?_, R.top, K.mono _ _ _ _ e R.gh⟩
  · obtain ⟨a, h1, h2⟩ := R.at n o h
    obtain ⟨u, hu, _⟩ := R.live n a h1
    exact ⟨a, h1, h2.ext e ((k n a u h1 hu).trans hu.symm)⟩
  · obtain ⟨u, hu, nt⟩ := R.live n a h
    exact ⟨u, k n a u h hu, nt⟩
theorem RelH.same {K : KG} (R : RelH K θ η H) (s : Same H H') : RelH K θ η H' := R.keep (.same s) fun _ a o _ h => s a o h
/-- a new thing that nobody changes -/
theorem ext_new {p : Addr} {o : HO} (h : H p = none) : Ext θ H θ (upd H p o) := .same (MyB.Same.new0 h)
theorem RelH.new0 {K : KG} (R : RelH K θ η H) {p : Addr} {o : HO} (h : H p = none) : RelH K θ η (upd H p o) := R.same (MyB.Same.new0 h)
theorem RelH.none {K : KG} (R : RelH K θ η H) {n : Nat} (h : θ n = .none) : η n = .none := by
  cases q : η n with
  | none => rfl
  | some o =>
    obtain ⟨a, e, _⟩ := R.at n o q
    rw [h] at e; cases e
theorem RelH.pick {K : KG} (R : RelH K θ η H) : ∃ n, θ n = .none ∧ η n = .none := by
  obtain ⟨N, h⟩ := R.top
  exact ⟨N, h N (Nat.le_refl _), R.none (h N (Nat.le_refl _))⟩
theorem RepK.track {κ : Type} {n : Nat} {p : Addr} {u : HO} (hn : θ n = .none) (m : MutK u) (hp : H p = some u) {xs : List (κ × AV)} {vs : List (κ × V)} (h : RepK K θ H xs vs) : RepK K (pt θ n p) H xs vs := by
  induction h with
  | nil => exact .nil
  | cons a b ih => exact .cons (a.track hn m hp) ih
theorem RepO.track {n : Nat} {p : Addr} {u : HO} (hn : θ n = .none) (m : MutK u) (hp : H p = some u) {a : Addr} {o : AO} (w : RepO K θ H a o) : RepO K (pt θ n p) H a o := by
  cases o with
  | lst xs => obtain ⟨vs, q, r⟩ := w; exact ⟨vs, q, r.track hn m hp⟩
  | dK kvs => obtain ⟨vs, q, r⟩ := w; exact ⟨vs, q, r.track hn m hp⟩
  | dT kvs => obtain ⟨vs, q, r⟩ := w; exact ⟨vs, q, r.track hn m hp⟩
  | ins C fs => obtain ⟨dx, gs, q, l, r⟩ := w; exact ⟨dx, gs, q, l, r.track hn m hp⟩
  | fz o od u =>
    cases o with
    | dK kvs => obtain ⟨vs, z, q, r⟩ := w; exact ⟨vs, z, q, r.track hn m hp⟩
    | dT kvs => obtain ⟨vs, z, q, r⟩ := w; exact ⟨vs, z, q, r.track hn m hp⟩
    | lst xs => exact w
    | ins C fs => exact w
    | fz o a b => exact w
/-- a thing made since the heap H is tracked from now on -/
theorem ext_track {n : Nat} {p : Addr} (e : Ext θ H θ' H') (hn : θ' n = .none) (hp : H p = .none) : Ext θ H (pt θ' n p) H' := by
  refine ⟨fun m a h => ?_, fun m a h => ?_, e.keep, e.stay⟩
  · have h' := e.mono m a h
    rw [pt_ne (by rintro rfl; rw [hn] at h'; cases h')]
    exact h'
  · by_cases c : m = n
    · subst c
      rw [pt_same] at h
      cases h
      exact .inr hp
    · rw [pt_ne c] at h
      exact e.fresh m a h
theorem RelH.track {K : KG} (R : RelH K θ η H) {n : Nat} {p : Addr} {o : AO} {u : HO} (hn : θ n = .none) (hu : Untr θ p) (hp : H p = some u) (m : MutK u) (new : RepO K θ H p o) (g : K.G (pt θ n p) H := by exact trivial) : RelH K (pt θ n p) (pt η n o) H := by
  refine ⟨fun m' o' h => ?_, fun m m' a h h' => ?_, fun m a h => ?_, ?_, g⟩
  · by_cases c : m' = n
    · subst c
      rw [pt_same] at h
      cases h
      exact ⟨p, pt_same, new.track hn m hp⟩
    · rw [pt_ne c] at h
      obtain ⟨a, h1, h2⟩ := R.at m' o' h
      exact ⟨a, (pt_ne c).trans h1, h2.track hn m hp⟩
  · by_cases c : m = n
    · by_cases c' : m' = n
      · exact c.trans c'.symm
      · subst c
        rw [pt_same] at h
        cases h
        rw [pt_ne c'] at h'
        exact absurd h' (hu m')
    · by_cases c' : m' = n
      · subst c'
        rw [pt_same] at h'
        cases h'
        rw [pt_ne c] at h
        exact absurd h (hu m)
      · rw [pt_ne c] at h
        rw [pt_ne c'] at h'
        exact R.inj m m' a h h'
  · by_cases c : m = n
    · subst c
      rw [pt_same] at h
      cases h
      exact ⟨u, hp, new.notTup' hp⟩
    · rw [pt_ne c] at h
      exact R.live m a h
  · obtain ⟨N, h⟩ := R.top
    exact ⟨max N (n + 1), fun m hm => by rw [pt_ne (by omega)]; exact h m (by omega)⟩
theorem ext_at {K : KG} {p : Addr} {n : Nat} {o u : HO} (R : RelH K θ η H) (h : θ n = some p) (hp : H p = some u) : Ext θ H θ (upd H p o) := by
  refine ⟨fun _ _ h => h, fun _ _ h => .inl h, fun b o' hb ub => ?_, fun b o' hb => ?_⟩
  · rw [upd_ne (by rintro rfl; exact ub n h)]
    exact hb
  · by_cases c : b = p
    · subst c
      exact ⟨_, upd_same⟩
    · exact ⟨o', (upd_ne c).trans hb⟩
/-- a mutable thing is changed -/
theorem RelH.put {K : KG} (R : RelH K θ η H) {n : Nat} {p : Addr} {o : AO} {u v : HO} (hn : θ n = some p) (hp : H p = some u) (new : RepO K θ (upd H p v) p o) : RelH K θ (pt η n o) (upd H p v) := by
  have e : Ext θ H θ (upd H p v) := ext_at R hn hp
  refine ⟨fun m o' h => ?_, R.inj, fun m a h => ?_, R.top, K.mono _ _ _ _ e R.gh⟩
  · by_cases c : m = n
    · subst c
      rw [pt_same] at h
      cases h
      exact ⟨p, hn, new⟩
    · rw [pt_ne c] at h
      obtain ⟨a, h1, h2⟩ := R.at m o' h
      exact ⟨a, h1, h2.ext e (upd_ne (by rintro rfl; exact c (R.inj m n a h1 hn)))⟩
  · by_cases c : a = p
    · subst c
      obtain ⟨w, hw, nt⟩ := new.notTup
      exact ⟨w, hw, nt⟩
    · obtain ⟨u', hu, nt⟩ := R.live m a h
      exact ⟨u', (upd_ne c).trans hu, nt⟩
/-- what is known besides may be left out, and taken in again -/
theorem RelH.tp {K : KG} (R : RelH K θ η H) : RelH (KG.top K.k) θ η H := ⟨R.at, R.inj, R.live, R.top, trivial⟩
theorem RelH.up {K : KG} (R : RelH (KG.top K.k) θ η H) (g : K.G θ H) : RelH K θ η H := ⟨R.at, R.inj, R.live, R.top, g⟩
end
end Ab

/-! the abstract layer: readings without a heap. -/
namespace Ab
open PySem PySem.Spec PyProof.Rows L2 MyB MyR MyD
abbrev Sta := List (Option AV)
abbrev AK := AV → Eta → Prop
abbrev AE := Sta → Eta → AK → Prop
abbrev AT := Sta → Eta → (Bool → Eta → Prop) → Prop
abbrev AA := Sta → Eta → (List AV → Eta → Prop) → Prop
abbrev AG := AV → Sta → Eta → (Sta → Eta → Prop) → Prop
abbrev AGs := List AV → Sta → Eta → (Sta → Eta → Prop) → Prop
structure AEnds where
  nx : Sta → Eta → Prop
  rt : AK
  bk : Sta → Eta → Prop := fun _ _ => False
  ct : Sta → Eta → Prop := fun _ _ => False
abbrev AS := AEnds → Sta → Eta → Prop
abbrev AR2 := AV → AV → Eta → AK → Prop
abbrev AR1 := AV → Eta → AK → Prop
abbrev ARn := List AV → Eta → AK → Prop
def Rst (K : PySem.W.Frag) (θ : Th) (H : Hp) (ρ : Sta) (σ : L2.St) : Prop := ρ.length = σ.length ∧ ∀ (i : Nat) (x : AV), ρ[i]? = some (some x) → ∃ v, σ[i]? = some (some v) ∧ Rep K θ H x v
/-- how the ends belong together -/
def Cg {α β : Type} (K : KG) (R : Th → Hp → α → β → Prop) (θ : Th) (H : Hp) (AQ : α → Eta → Prop) (Q : β → Hp → Prop) : Prop :=
  ∀ θ' η' H' x v, Ext θ H θ' H' → RelH K θ' η' H' → R θ' H' x v → AQ x η' → Q v H'
structure Ce (K : KG) (θ : Th) (H : Hp) (A : AEnds) (D : Ends) : Prop where
  nx : Cg K (Rst K) θ H A.nx D.nx
  rt : Cg K (Rep K) θ H A.rt D.rt
  bk : Cg K (Rst K) θ H A.bk D.bk
  ct : Cg K (Rst K) θ H A.ct D.ct
def AbE (K : KG) (ta : AE) (t : TE) : Prop := ∀ θ ρ η σ H AQ Q, RelH K θ η H → Rst K θ H ρ σ → ta ρ η AQ → Cg K (Rep K) θ H AQ Q → t σ H Q
def AbT (K : KG) (ta : AT) (t : TT) : Prop := ∀ θ ρ η σ H AQ Q, RelH K θ η H → Rst K θ H ρ σ → ta ρ η AQ → Cg K (fun _ _ (a b : Bool) => a = b) θ H AQ Q → t σ H Q
def AbA (K : KG) (ta : AA) (t : TA) : Prop := ∀ θ ρ η σ H AQ Q, RelH K θ η H → Rst K θ H ρ σ → ta ρ η AQ → Cg K (Reps K) θ H AQ Q → t σ H Q
def AbG (K : KG) (g : AG) (t : TG) : Prop := ∀ θ ρ η σ H x v AQ Q, RelH K θ η H → Rst K θ H ρ σ → Rep K θ H x v → g x ρ η AQ → Cg K (Rst K) θ H AQ Q → t v σ H Q
def AbGs (K : KG) (g : AGs) (t : TGs) : Prop := ∀ θ ρ η σ H x v AQ Q, RelH K θ η H → Rst K θ H ρ σ → Reps K θ H x v → g x ρ η AQ → Cg K (Rst K) θ H AQ Q → t v σ H Q
def AbS (K : KG) (s : AS) (t : TS) : Prop := ∀ θ ρ η σ H A D, RelH K θ η H → Rst K θ H ρ σ → s A ρ η → Ce K θ H A D → t D σ H
def Ab2 (K : KG) (r : AR2) (t : R2) : Prop := ∀ θ η H x y v u AQ Q, RelH K θ η H → Rep K θ H x v → Rep K θ H y u → r x y η AQ → Cg K (Rep K) θ H AQ Q → t v u H Q
def Ab1 (K : KG) (r : AR1) (t : V → Hp → VK → Prop) : Prop := ∀ θ η H x v AQ Q, RelH K θ η H → Rep K θ H x v → r x η AQ → Cg K (Rep K) θ H AQ Q → t v H Q
def Abn (K : KG) (r : ARn) (t : List V → Hp → VK → Prop) : Prop := ∀ θ η H xs vs AQ Q, RelH K θ η H → Reps K θ H xs vs → r xs η AQ → Cg K (Rep K) θ H AQ Q → t vs H Q
/-- a method's call: the receiver, the arguments -/
abbrev ARm := AV → List AV → Eta → AK → Prop
def Abm (K : KG) (r : ARm) (t : V → List V → Hp → VK → Prop) : Prop := ∀ θ η H x v xs vs AQ Q, RelH K θ η H → Rep K θ H x v → Reps K θ H xs vs → r x xs η AQ → Cg K (Rep K) θ H AQ Q → t v vs H Q
section
variable {K : KG} {θ θ' θ1 : Th} {H H' H1 : Hp} {η η' : Eta}
theorem Rst.ext {K : PySem.W.Frag} {ρ : Sta} {σ : L2.St} (e : Ext θ H θ' H') (h : Rst K θ H ρ σ) : Rst K θ' H' ρ σ := ⟨h.1, fun i x q => by
  obtain ⟨v, a, b⟩ := h.2 i x q
  exact ⟨v, a, b.ext e⟩⟩
theorem Rst.set {K : PySem.W.Frag} {ρ : Sta} {σ : L2.St} (h : Rst K θ H ρ σ) {i : Nat} {x : AV} {v : V} (r : Rep K θ H x v) : Rst K θ H (ρ.set i (some x)) (σ.set i (some v)) := by
  refine ⟨by rw [List.length_set, List.length_set]; exact h.1, fun j y q => ?_⟩
  rw [List.getElem?_set] at q ⊢
  by_cases c : i = j
  · subst c
    rw [if_pos rfl] at q
    by_cases l : i < ρ.length
    · rw [if_pos l] at q
      cases q
      exact ⟨v, by rw [if_pos rfl, if_pos (h.1 ▸ l)], r⟩
    · rw [if_neg l] at q
      cases q
  · rw [if_neg c] at q
    obtain ⟨w, a, b⟩ := h.2 j y q
    exact ⟨w, by rw [if_neg c]; exact a, b⟩
theorem Rst.del {K : PySem.W.Frag} {ρ : Sta} {σ : L2.St} (h : Rst K θ H ρ σ) (i : Nat) : Rst K θ H (ρ.set i none) (σ.set i none) := by
  refine ⟨by rw [List.length_set, List.length_set]; exact h.1, fun j y q => ?_⟩
  rw [List.getElem?_set] at q ⊢
  by_cases c : i = j
  · subst c
    rw [if_pos rfl] at q
    split at q <;> cases q
  · rw [if_neg c] at q
    obtain ⟨w, a, b⟩ := h.2 j y q
    exact ⟨w, by rw [if_neg c]; exact a, b⟩
theorem Cg.ext {α β : Type} {R : Th → Hp → α → β → Prop} {AQ : α → Eta → Prop} {Q : β → Hp → Prop} (h : Cg K R θ H AQ Q) (e : Ext θ H θ1 H1) : Cg K R θ1 H1 AQ Q := fun θ' η' H' x v e' R' r q => h θ' η' H' x v (e.trans e') R' r q
theorem Ce.ext {A : AEnds} {D : Ends} (h : Ce K θ H A D) (e : Ext θ H θ1 H1) : Ce K θ1 H1 A D := ⟨h.nx.ext e, h.rt.ext e, h.bk.ext e, h.ct.ext e⟩
end
/-! ### with the rules of the machine -/
def XE (K : KG) (X : Cx) (e : Expr) (ta : AE) : Prop := ∃ t, PE X e t ∧ AbE K ta t
def XT (K : KG) (X : Cx) (e : Expr) (ta : AT) : Prop := ∃ t, PT X e t ∧ AbT K ta t
def XW (K : KG) (X : Cx) (e : Expr) (ta : AT) : Prop := ∃ t, PW X e t ∧ AbT K ta t
def XTs (K : KG) (X : Cx) (es : List Expr) (ta : AT) : Prop := ∃ t, PTs X es t ∧ AbT K ta t
def XA (K : KG) (X : Cx) (es : List Expr) (ta : AA) : Prop := ∃ t, PA X es t ∧ AbA K ta t
def XG (K : KG) (X : Cx) (e : Expr) (ta : AG) : Prop := ∃ t, PG X e t ∧ AbG K ta t
def XGs (K : KG) (X : Cx) (es : List Expr) (ta : AGs) : Prop := ∃ t, PGs X es t ∧ AbGs K ta t
def XS (K : KG) (X : Cx) (s : Stmt) (ta : AS) : Prop := ∃ t, PS X s t ∧ AbS K ta t
def XSs (K : KG) (X : Cx) (s : List Stmt) (ta : AS) : Prop := ∃ t, PSs X s t ∧ AbS K ta t
def XO (K : KG) (X : Cx) (f : Value → Value → Sem Value) (ar : AR2) : Prop := ∃ r, OpR X f r ∧ Ab2 K ar r
def XU (K : KG) (X : Cx) (f : Value → Sem Value) (ar : AR1) : Prop := ∃ r, UnR X f r ∧ Ab1 K ar r
def XI (K : KG) (X : Cx) (ar : AR2) : Prop := ∃ r, IxR X r ∧ Ab2 K ar r
def XC (K : KG) (X : Cx) (f : Value) (ar : ARn) : Prop := ∃ r, CallR X f r ∧ Abn K ar r
/-! ### expressions -/
def aVar (i : Nat) : AE := fun ρ η Q => ∃ x, ρ[i]? = some (some x) ∧ Q x η
def aC (x : AV) : AE := fun _ η Q => Q x η
def aOp (r : AR2) (ta tb : AE) : AE := fun ρ η Q => ta ρ η fun x η1 => tb ρ η1 fun y η2 => r x y η2 Q
def aUn (r : AR1) (ta : AE) : AE := fun ρ η Q => ta ρ η fun x η1 => r x η1 Q
def aTest (te : AE) : AT := fun ρ η Q => te ρ η fun x η1 => ∃ c, x = .bl c ∧ Q c η1
def aChain (r r' : AR2) (ta tb tc : AE) : AE := fun ρ η Q => ta ρ η fun x η1 => tb ρ η1 fun y η2 => r x y η2 fun z η3 => ∃ k, z = .bl k ∧ (if k = true then tc ρ η3 fun w η4 => r' y w η4 Q else Q (.bl false) η3)
def aAndV (ta tb : AE) : AE := fun ρ η Q => ta ρ η fun x η1 => ∃ c, x = .bl c ∧ if c = true then tb ρ η1 Q else Q (.bl false) η1
def aOrV (ta tb : AE) : AE := fun ρ η Q => ta ρ η fun x η1 => ∃ c, x = .bl c ∧ if c = true then Q (.bl true) η1 else tb ρ η1 Q
def aNotV (ta : AE) : AE := fun ρ η Q => ta ρ η fun x η1 => ∃ c, x = .bl c ∧ Q (.bl (!c)) η1
def aIf (t : AT) (ta tb : AE) : AE := fun ρ η Q => t ρ η fun c η1 => if c = true then ta ρ η1 Q else tb ρ η1 Q
def aAnd (t u : AT) : AT := fun ρ η Q => t ρ η fun c η1 => if c = true then u ρ η1 Q else Q false η1
def aOr (t u : AT) : AT := fun ρ η Q => t ρ η fun c η1 => if c = true then Q true η1 else u ρ η1 Q
def aNot (t : AT) : AT := fun ρ η Q => t ρ η fun c η1 => Q (!c) η1
def aYes : AT := fun _ η Q => Q true η
def aNil : AA := fun _ η Q => Q [] η
def aCons (te : AE) (ts : AA) : AA := fun ρ η Q => te ρ η fun x η1 => ts ρ η1 fun xs η2 => Q (x :: xs) η2
def aTup (ts : AA) : AE := fun ρ η Q => ts ρ η fun xs η1 => xs.length ≤ 16000000 ∧ Q (.tup xs) η1
def aLst (ts : AA) : AE := fun ρ η Q => ts ρ η fun xs η1 => xs.length ≤ 16000000 ∧ ∀ n, η1 n = none → Q (.rf n) (pt η1 n (.lst xs))
def aDct : AE := fun _ η Q => ∀ n, η n = none → Q (.rf n) (pt η n (.dK []))
def aDctT : AE := fun _ η Q => ∀ n, η n = none → Q (.rf n) (pt η n (.dT []))
def FldOk (K : PySem.W.Frag) (C : Addr) (f : Str) : Prop := Cls K C ∧ NoAttr K C f
def kFld (K : PySem.W.Frag) (f : Str) : AR1 := fun x η Q => (∃ C fs y, x = .ob C fs ∧ FldOk K C f ∧ fs.lookup f = some y ∧ Q y η) ∨ ∃ n C fs y, x = .rf n ∧ η n = some (.ins C fs) ∧ FldOk K C f ∧ fs.lookup f = some y ∧ Q y η
def aCB (r : ARn) (ts : AA) : AE := fun ρ η Q => ts ρ η fun xs η1 => r xs η1 Q
section
variable {K : KG} {X : Cx} {a b c e : Expr} {ta tb tc : AE} {pos : Pos}
theorem AbE.un {r : AR1} {ta : AE} {t : TE} {u : V → Hp → VK → Prop} (h1 : AbE K ta t) (h2 : Ab1 K r u) : AbE K (aUn r ta) (tUn u t) := by
  intro θ ρ η σ H AQ Q R S h C
  refine h1 θ ρ η σ H _ _ R S h ?_
  intro θ1 η1 H1 x v e1 R1 r1 q1
  exact h2 θ1 η1 H1 x v AQ Q R1 r1 q1 (C.ext e1)
theorem AbE.op {r : AR2} {t1 t2 : TE} {u : R2} (h1 : AbE K ta t1) (h2 : AbE K tb t2) (h3 : Ab2 K r u) : AbE K (aOp r ta tb) (tOp u t1 t2) := by
  intro θ ρ η σ H AQ Q R S h C
  refine h1 θ ρ η σ H _ _ R S h ?_
  intro θ1 η1 H1 x v e1 R1 r1 q1
  refine h2 θ1 ρ η1 σ H1 _ _ R1 (S.ext e1) q1 ?_
  intro θ2 η2 H2 y w e2 R2 r2 q2
  exact h3 θ2 η2 H2 x y v w AQ Q R2 (r1.ext e2) r2 q2 (C.ext (e1.trans e2))
theorem xe_var {i : Nat} {x : Str} (hN : X.N[i]? = some x) (hv : Vis X.env.scope x) (hd : (x == ("__debug__" : Str)) = false := by decide) (hcd : (x == ("__classdict__" : Str)) = false := by decide) : XE K X (.Name x pos) (aVar i) := by
  refine ⟨_, pe_var hN hv hd hcd, ?_⟩
  rintro θ ρ η σ H AQ Q R S ⟨x, e, q⟩ C
  obtain ⟨v, e1, r⟩ := S.2 i x e
  exact ⟨v, e1, C θ η H x v .refl R r q⟩
theorem AbE.cst {x : AV} {v : V} (h : ∀ θ H, Rep K θ H x v) : AbE K (aC x) (tC v) := by
  intro θ ρ η σ H AQ Q R S q C
  exact C θ η H x v .refl R (h θ H) q
theorem xe_int {i j} : XE K X (.Constant (.int i) j pos) (aC (.int i)) := ⟨_, pe_int, .cst fun _ _ => .int⟩
theorem xe_bl {b j} : XE K X (.Constant (.bool b) j pos) (aC (.bl b)) := ⟨_, pe_bl, .cst fun _ _ => .bl⟩
theorem xe_non {j} : XE K X (.Constant .none j pos) (aC .non) := ⟨_, pe_non, .cst fun _ _ => .non⟩
theorem xe_str {x j} : XE K X (.Constant (.str x) j pos) (aC (.str x)) := ⟨_, pe_str, .cst fun _ _ => .str⟩
theorem xe_globI {x : Str} {n : Int} {t : Tok} (hg : Gl X x) (hm : X.mg x = some (.int n t)) (hd : (x == ("__debug__" : Str)) = false := by decide) : XE K X (.Name x pos) (aC (.int n)) := ⟨_, pe_glob (v := .int n) hg hm ⟨t, rfl⟩ hd, .cst fun _ _ => .int⟩
theorem xe_globR {x : Str} {a : Addr} (hg : Gl X x) (hm : X.mg x = some (.ref a)) (hd : (x == ("__debug__" : Str)) = false := by decide) : XE K X (.Name x pos) (aC (.gl a)) := ⟨_, pe_glob (v := .ref a) hg hm rfl hd, .cst fun _ _ => .gl⟩
theorem xe_bltn {x : Str} {n : String} {pos : Pos} (hg : Gl X x) (hm : X.mg x = none) (hv : bootBuiltins x = some (.type n)) (hn : x ≠ "__name__" := by decide) (hd : (x == ("__debug__" : Str)) = false := by decide) : XE K X (.Name x pos) (aC (.ty n)) :=
  ⟨_, pe_bltn (v := .ty n) hg hm hv rfl hn hd, .cst fun _ _ => .ty⟩
theorem xe_op {op : Operator} {r : AR2} (ho : XO K X (binaryOp op) r) (ha : XE K X a ta) (hb : XE K X b tb) : XE K X (.BinOp a op b pos) (aOp r ta tb) := by
  obtain ⟨u, h1, h2⟩ := ho
  obtain ⟨t1, p1, q1⟩ := ha
  obtain ⟨t2, p2, q2⟩ := hb
  exact ⟨_, pe_op h1 p1 p2, q1.op q2 h2⟩
theorem xe_un {op : UnaryOp} {r : AR1} (ho : XU K X (unaryOp op) r) (ha : XE K X a ta) : XE K X (.UnaryOp op a pos) (aUn r ta) := by
  obtain ⟨u, h1, h2⟩ := ho
  obtain ⟨t1, p1, q1⟩ := ha
  exact ⟨_, pe_un h1 p1, q1.un h2⟩
theorem AbE.tst {t : TE} (h : AbE K ta t) : AbT K (aTest ta) (tTest t) := by
  intro θ ρ η σ H AQ Q R S q C
  refine h θ ρ η σ H _ _ R S q ?_
  rintro θ1 η1 H1 x v e1 R1 r1 ⟨c, rfl, q1⟩
  cases r1
  exact ⟨c, rfl, C θ1 η1 H1 c c e1 R1 rfl q1⟩
theorem xe_cmpR {op : CmpOp} {r : AR2} (ho : XO K X (compareOp op) r) (ha : XE K X a ta) (hb : XE K X b tb) (hm : behindInMarks op b = false) : XE K X (.Compare a [op] [b] pos) (aOp r ta tb) := by
  obtain ⟨u, h1, h2⟩ := ho
  obtain ⟨t1, p1, q1⟩ := ha
  obtain ⟨t2, p2, q2⟩ := hb
  exact ⟨_, pe_cmpR h1 p1 p2 hm, q1.op q2 h2⟩
theorem xt_cmpR {op : CmpOp} {r : AR2} (ho : XO K X (compareOp op) r) (ha : XE K X a ta) (hb : XE K X b tb) (hm : behindInMarks op b = false) : XT K X (.Compare a [op] [b] pos) (aTest (aOp r ta tb)) := by
  obtain ⟨u, h1, h2⟩ := ho
  obtain ⟨t1, p1, q1⟩ := ha
  obtain ⟨t2, p2, q2⟩ := hb
  exact ⟨_, pt_cmpR h1 p1 p2 hm, (q1.op q2 h2).tst⟩
theorem AbE.chain {r r' : AR2} {t1 t2 t3 : TE} {u u' : R2} (h1 : AbE K ta t1) (h2 : AbE K tb t2) (h3 : AbE K tc t3) (h : Ab2 K r u) (h' : Ab2 K r' u') : AbE K (aChain r r' ta tb tc) (tChain u u' t1 t2 t3) := by
  intro θ ρ η σ H AQ Q R S q C
  refine h1 θ ρ η σ H _ _ R S q ?_
  intro θ1 η1 H1 x v e1 R1 r1 q1
  refine h2 θ1 ρ η1 σ H1 _ _ R1 (S.ext e1) q1 ?_
  intro θ2 η2 H2 y w e2 R2 r2 q2
  refine h θ2 η2 H2 x y v w _ _ R2 (r1.ext e2) r2 q2 ?_
  rintro θ3 η3 H3 z z' e3 R3 r3 ⟨k, rfl, q3⟩
  cases r3
  refine ⟨k, rfl, ?_⟩
  cases k with
  | true =>
    rw [if_pos rfl] at q3 ⊢
    refine h3 θ3 ρ η3 σ H3 _ _ R3 (S.ext (e1.trans (e2.trans e3))) q3 ?_
    intro θ4 η4 H4 s s' e4 R4 r4 q4
    exact h' θ4 η4 H4 y s w s' AQ Q R4 (r2.ext (e3.trans e4)) r4 q4 (C.ext (e1.trans (e2.trans (e3.trans e4))))
  | false =>
    rw [if_neg (by decide)] at q3 ⊢
    exact C θ3 η3 H3 _ _ (e1.trans (e2.trans e3)) R3 .bl q3
theorem xe_chain {op op' : CmpOp} {r r' : AR2} (ho : XO K X (compareOp op) r) (ho' : XO K X (compareOp op') r') (ha : XE K X a ta) (hb : XE K X b tb) (hc : XE K X c tc)
    (hm : lastMarks [op, op'] [b, c] = false := by with_unfolding_all rfl) : XE K X (.Compare a [op, op'] [b, c] pos) (aChain r r' ta tb tc) := by
  obtain ⟨u, h1, h2⟩ := ho
  obtain ⟨u', h1', h2'⟩ := ho'
  obtain ⟨t1, p1, q1⟩ := ha
  obtain ⟨t2, p2, q2⟩ := hb
  obtain ⟨t3, p3, q3⟩ := hc
  exact ⟨_, pe_chain h1 h1' p1 p2 p3 hm, q1.chain q2 q3 h2 h2'⟩
theorem xt_chain {op op' : CmpOp} {r r' : AR2} (ho : XO K X (compareOp op) r) (ho' : XO K X (compareOp op') r') (ha : XE K X a ta) (hb : XE K X b tb) (hc : XE K X c tc)
    (hm : lastMarks [op, op'] [b, c] = false := by with_unfolding_all rfl) : XT K X (.Compare a [op, op'] [b, c] pos) (aTest (aChain r r' ta tb tc)) := by
  obtain ⟨u, h1, h2⟩ := ho
  obtain ⟨u', h1', h2'⟩ := ho'
  obtain ⟨t1, p1, q1⟩ := ha
  obtain ⟨t2, p2, q2⟩ := hb
  obtain ⟨t3, p3, q3⟩ := hc
  exact ⟨_, pt_chain h1 h1' p1 p2 p3 hm, (q1.chain q2 q3 h2 h2').tst⟩
theorem xe_one {op} (h : XE K X a ta) : XE K X (.BoolOp op [a] pos) ta := by
  obtain ⟨t, p, q⟩ := h
  exact ⟨t, pe_one p, q⟩
theorem xe_and {rest : List Expr} (ha : XE K X a ta) (hb : XE K X (.BoolOp .And (b :: rest) pos) tb) : XE K X (.BoolOp .And (a :: b :: rest) pos) (aAndV ta tb) := by
  obtain ⟨t1, p1, q1⟩ := ha
  obtain ⟨t2, p2, q2⟩ := hb
  refine ⟨_, pe_and p1 p2, ?_⟩
  intro θ ρ η σ H AQ Q R S q C
  refine q1 θ ρ η σ H _ _ R S q ?_
  rintro θ1 η1 H1 x v e1 R1 r1 ⟨c, rfl, h1⟩
  cases r1
  refine ⟨c, rfl, ?_⟩
  cases c with
  | true =>
    rw [if_pos rfl] at h1 ⊢
    exact q2 θ1 ρ η1 σ H1 AQ Q R1 (S.ext e1) h1 (C.ext e1)
  | false =>
    rw [if_neg (by decide)] at h1 ⊢
    exact C θ1 η1 H1 _ _ e1 R1 .bl h1
theorem xe_or {rest : List Expr} (ha : XE K X a ta) (hb : XE K X (.BoolOp .Or (b :: rest) pos) tb) : XE K X (.BoolOp .Or (a :: b :: rest) pos) (aOrV ta tb) := by
  obtain ⟨t1, p1, q1⟩ := ha
  obtain ⟨t2, p2, q2⟩ := hb
  refine ⟨_, pe_or p1 p2, ?_⟩
  intro θ ρ η σ H AQ Q R S q C
  refine q1 θ ρ η σ H _ _ R S q ?_
  rintro θ1 η1 H1 x v e1 R1 r1 ⟨c, rfl, h1⟩
  cases r1
  refine ⟨c, rfl, ?_⟩
  cases c with
  | true =>
    rw [if_pos rfl] at h1 ⊢
    exact C θ1 η1 H1 _ _ e1 R1 .bl h1
  | false =>
    rw [if_neg (by decide)] at h1 ⊢
    exact q2 θ1 ρ η1 σ H1 AQ Q R1 (S.ext e1) h1 (C.ext e1)
theorem xe_not (ha : XE K X a ta) : XE K X (.UnaryOp .Not a pos) (aNotV ta) := by
  obtain ⟨t1, p1, q1⟩ := ha
  refine ⟨_, pe_not p1, ?_⟩
  intro θ ρ η σ H AQ Q R S q C
  refine q1 θ ρ η σ H _ _ R S q ?_
  rintro θ1 η1 H1 x v e1 R1 r1 ⟨c, rfl, h1⟩
  cases r1
  exact ⟨c, rfl, C θ1 η1 H1 _ _ e1 R1 .bl h1⟩
variable {tt uu : AT}
theorem xe_ifExp (hc : XT K X c tt) (ha : XE K X a ta) (hb : XE K X b tb) : XE K X (.IfExp c a b pos) (aIf tt ta tb) := by
  obtain ⟨t0, p0, q0⟩ := hc
  obtain ⟨t1, p1, q1⟩ := ha
  obtain ⟨t2, p2, q2⟩ := hb
  refine ⟨_, pe_ifExp p0 p1 p2, ?_⟩
  intro θ ρ η σ H AQ Q R S q C
  refine q0 θ ρ η σ H _ _ R S q ?_
  rintro θ1 η1 H1 c _ e1 R1 rfl h1
  cases c with
  | true =>
    rw [if_pos rfl] at h1 ⊢
    exact q1 θ1 ρ η1 σ H1 AQ Q R1 (S.ext e1) h1 (C.ext e1)
  | false =>
    rw [if_neg (by decide)] at h1 ⊢
    exact q2 θ1 ρ η1 σ H1 AQ Q R1 (S.ext e1) h1 (C.ext e1)
theorem AbT.and {t u : TT} (h1 : AbT K tt t) (h2 : AbT K uu u) : AbT K (aAnd tt uu) (tAnd t u) := by
  intro θ ρ η σ H AQ Q R S q C
  refine h1 θ ρ η σ H _ _ R S q ?_
  rintro θ1 η1 H1 c _ e1 R1 rfl q1
  cases c with
  | true =>
    rw [if_pos rfl] at q1 ⊢
    exact h2 θ1 ρ η1 σ H1 AQ Q R1 (S.ext e1) q1 (C.ext e1)
  | false =>
    rw [if_neg (by decide)] at q1 ⊢
    exact C θ1 η1 H1 _ _ e1 R1 rfl q1
theorem AbT.or {t u : TT} (h1 : AbT K tt t) (h2 : AbT K uu u) : AbT K (aOr tt uu) (tOr t u) := by
  intro θ ρ η σ H AQ Q R S q C
  refine h1 θ ρ η σ H _ _ R S q ?_
  rintro θ1 η1 H1 c _ e1 R1 rfl q1
  cases c with
  | true =>
    rw [if_pos rfl] at q1 ⊢
    exact C θ1 η1 H1 _ _ e1 R1 rfl q1
  | false =>
    rw [if_neg (by decide)] at q1 ⊢
    exact h2 θ1 ρ η1 σ H1 AQ Q R1 (S.ext e1) q1 (C.ext e1)
theorem AbT.not {t : TT} (h1 : AbT K tt t) : AbT K (aNot tt) (tNot t) := by
  intro θ ρ η σ H AQ Q R S q C
  refine h1 θ ρ η σ H _ _ R S q ?_
  rintro θ1 η1 H1 c _ e1 R1 rfl q1
  exact C θ1 η1 H1 _ _ e1 R1 rfl q1
variable {rest : List Expr}
theorem xw_and (ha : XT K X a tt) (hb : XW K X (.BoolOp .And (b :: rest) pos) uu) : XW K X (.BoolOp .And (a :: b :: rest) pos) (aAnd tt uu) := by
  obtain ⟨t1, p1, q1⟩ := ha
  obtain ⟨t2, p2, q2⟩ := hb
  exact ⟨_, pw_and p1 p2, q1.and q2⟩
theorem xw_or (ha : XT K X a tt) (hb : XW K X (.BoolOp .Or (b :: rest) pos) uu) : XW K X (.BoolOp .Or (a :: b :: rest) pos) (aOr tt uu) := by
  obtain ⟨t1, p1, q1⟩ := ha
  obtain ⟨t2, p2, q2⟩ := hb
  exact ⟨_, pw_or p1 p2, q1.or q2⟩
theorem xw_and1 (ha : XT K X a tt) : XW K X (.BoolOp .And [a] pos) tt := by
  obtain ⟨t1, p1, q1⟩ := ha
  exact ⟨_, pw_and1 p1, q1⟩
theorem xw_or1 (ha : XT K X a tt) : XW K X (.BoolOp .Or [a] pos) tt := by
  obtain ⟨t1, p1, q1⟩ := ha
  exact ⟨_, pw_or1 p1, q1⟩
theorem XW.xt (h : XW K X e tt) : XT K X e tt := by
  obtain ⟨t1, p1, q1⟩ := h
  exact ⟨_, p1.pt, q1⟩
theorem xt_not (ha : XT K X a tt) : XT K X (.UnaryOp .Not a pos) (aNot tt) := by
  obtain ⟨t1, p1, q1⟩ := ha
  exact ⟨_, pt_not p1, q1.not⟩
theorem xt_val (h : XE K X e ta) (he : ∀ whole, isTrue e X.env whole = (do let v ← whole; standAt e.pos; holding [v] (truthy v)) := by intro _; rfl) : XT K X e (aTest ta) := by
  obtain ⟨t1, p1, q1⟩ := h
  exact ⟨_, pt_val p1 he, q1.tst⟩
/-! ### argument lists, displays -/
variable {es : List Expr} {ts : AA}
theorem xa_nil : XA K X [] aNil := ⟨_, pa_nil, fun θ ρ η σ H AQ Q R S q C => C θ η H [] [] .refl R .nil q⟩
theorem xa_cons (ha : XE K X e ta) (hr : XA K X es ts) (hs : starEach (e :: es) X.env = (false, eval e X.env) :: starEach es X.env := by rfl) : XA K X (e :: es) (aCons ta ts) := by
  obtain ⟨t1, p1, q1⟩ := ha
  obtain ⟨t2, p2, q2⟩ := hr
  refine ⟨_, pa_cons p1 p2 hs, ?_⟩
  intro θ ρ η σ H AQ Q R S q C
  refine q1 θ ρ η σ H _ _ R S q ?_
  intro θ1 η1 H1 x v e1 R1 r1 h1
  refine q2 θ1 ρ η1 σ H1 _ _ R1 (S.ext e1) h1 ?_
  intro θ2 η2 H2 xs vs e2 R2 r2 h2
  exact C θ2 η2 H2 _ _ (e1.trans e2) R2 (.cons (r1.ext e2) r2) h2
theorem xe_tup {x1} (h : XA K X es ts) : XE K X (.Tuple es x1 pos) (aTup ts) := by
  obtain ⟨t1, p1, q1⟩ := h
  refine ⟨_, pe_tup p1, ?_⟩
  intro θ ρ η σ H AQ Q R S q C
  refine q1 θ ρ η σ H _ _ R S q ?_
  rintro θ1 η1 H1 xs vs e1 R1 r1 ⟨hl, h1⟩
  refine ⟨szl (r1.len ▸ hl), fun p hp => ?_⟩
  exact C θ1 η1 _ _ _ (e1.trans (ext_new hp)) (R1.new0 hp) (.tup (R1.untr hp) upd_same (r1.ext (ext_new hp))) h1
/-- a new list at p -/
theorem new_lst {AQ : AK} {Q : VK} {θ : Th} {η : Eta} {H : Hp} {p : Addr} {xs : List AV} {vs : List V} (R : RelH K θ η H) (hp : H p = none) (r : Reps K θ H xs vs) (C : Cg K (Rep K) θ H AQ Q) (q : ∀ n, η n = none → AQ (.rf n) (pt η n (.lst xs))) : Q (.ref p) (upd H p (.lst vs)) := by
  obtain ⟨n, hn, he⟩ := R.pick
  have R2 := (R.new0 (o := .lst vs) hp).track (n := n) (p := p) (o := .lst xs) hn (R.untr hp) upd_same (.inl ⟨_, rfl⟩) ⟨vs, upd_same, r.ext (ext_new hp)⟩ (K.mono _ _ _ _ (ext_track (ext_new hp) hn hp) R.gh)
  exact C (pt θ n p) _ _ _ _ (ext_track (ext_new hp) hn hp) R2 (.rf pt_same) (q n he)
theorem new_dK {AQ : AK} {Q : VK} {θ : Th} {η : Eta} {H : Hp} {p : Addr} {xs : List (Key × AV)} {vs : List (Key × V)} (R : RelH K θ η H) (hp : H p = none) (r : RepK K θ H xs vs) (C : Cg K (Rep K) θ H AQ Q) (q : ∀ n, η n = none → AQ (.rf n) (pt η n (.dK xs))) : Q (.ref p) (upd H p (.dK vs)) := by
  obtain ⟨n, hn, he⟩ := R.pick
  have R2 := (R.new0 (o := .dK vs) hp).track (n := n) (p := p) (o := .dK xs) hn (R.untr hp) upd_same (.inr (.inl ⟨_, rfl⟩)) ⟨vs, upd_same, r.ext (ext_new hp)⟩ (K.mono _ _ _ _ (ext_track (ext_new hp) hn hp) R.gh)
  exact C (pt θ n p) _ _ _ _ (ext_track (ext_new hp) hn hp) R2 (.rf pt_same) (q n he)
theorem new_dT {AQ : AK} {Q : VK} {θ : Th} {η : Eta} {H : Hp} {p : Addr} {xs : List (List Key × AV)} {vs : List (List Key × V)} (R : RelH K θ η H) (hp : H p = none) (r : RepK K θ H xs vs) (C : Cg K (Rep K) θ H AQ Q) (q : ∀ n, η n = none → AQ (.rf n) (pt η n (.dT xs))) : Q (.ref p) (upd H p (.dT vs)) := by
  obtain ⟨n, hn, he⟩ := R.pick
  have R2 := (R.new0 (o := .dT vs) hp).track (n := n) (p := p) (o := .dT xs) hn (R.untr hp) upd_same (.inr (.inr ⟨_, rfl⟩)) ⟨vs, upd_same, r.ext (ext_new hp)⟩ (K.mono _ _ _ _ (ext_track (ext_new hp) hn hp) R.gh)
  exact C (pt θ n p) _ _ _ _ (ext_track (ext_new hp) hn hp) R2 (.rf pt_same) (q n he)
theorem xe_lst (h : XA K X es ts) : XE K X (.List es pos) (aLst ts) := by
  obtain ⟨t1, p1, q1⟩ := h
  refine ⟨_, pe_lst p1, ?_⟩
  intro θ ρ η σ H AQ Q R S q C
  refine q1 θ ρ η σ H _ _ R S q ?_
  rintro θ1 η1 H1 xs vs e1 R1 r1 ⟨hl, h1⟩
  exact ⟨szl (r1.len ▸ hl), fun p hp => new_lst R1 hp r1 (C.ext e1) h1⟩
theorem xe_fld {f : Str} (hK : X.K = K) (he : XE K X e ta) (hb : attributeBase e f X.env (eval e X.env) = eval e X.env) : XE K X (.Attribute e f pos) (aUn (kFld K f) ta) := by
  obtain ⟨t1, p1, q1⟩ := he
  refine ⟨_, MyK.pe_fld (K := K) hK p1 hb, ?_⟩
  intro θ ρ η σ H AQ Q R S q C
  refine q1 θ ρ η σ H _ _ R S q ?_
  rintro θ1 η1 H1 x v e1 R1 r1 h1
  rcases h1 with ⟨C', fs, y, rfl, ⟨hc, hn⟩, hl, h1⟩ | ⟨n, C', fs, y, rfl, he, ⟨hc, hn⟩, hl, h1⟩
  · cases r1 with
    | ob u h r =>
      obtain ⟨w, hw, rw'⟩ := r.get hl
      exact ⟨_, _, _, _, w, rfl, h, hc, hn, hw, C θ1 η1 H1 _ _ e1 R1 rw' h1⟩
  · cases r1 with
    | rf h =>
      obtain ⟨a', e', ⟨dx, gs, e2, _, r⟩⟩ := R1.at n _ he
      rw [h] at e'
      cases e'
      obtain ⟨w, hw, rw'⟩ := r.get hl
      exact ⟨_, _, _, _, w, rfl, e2, hc, hn, hw, C θ1 η1 H1 _ _ e1 R1 rw' h1⟩
/-! ### calls of built-ins -/
theorem AbA.cb {t : TA} {r : ARn} {u : List V → Hp → VK → Prop} (h1 : AbA K ts t) (h2 : Abn K r u) : AbE K (aCB r ts) (tCB u t) := by
  intro θ ρ η σ H AQ Q R S q C
  refine h1 θ ρ η σ H _ _ R S q ?_
  intro θ1 η1 H1 xs vs e1 R1 r1 h1
  exact h2 θ1 η1 H1 xs vs AQ Q R1 r1 h1 (C.ext e1)
theorem xe_callB {id : String} {r : ARn} {x : Str} {p : Pos} (hc : XC K X (.builtin id) r) (hg : Gl X x) (hm : X.mg x = none) (hv : bootBuiltins x = some (.builtin id)) (ha : XA K X (e :: es) ts) (hn : x ≠ "__name__" := by decide) (hdb : (x == ("__debug__" : Str)) = false := by decide)
    (he : starEach (e :: es) X.env = (false, eval e X.env) :: starEach es X.env := by rfl) (hpl : (backTo pos (starEach es X.env)).any (·.1) = false := by rfl) : XE K X (.Call (.Name x p) (e :: es) [] pos) (aCB r ts) := by
  obtain ⟨u, h1, h2⟩ := hc
  obtain ⟨t1, p1, q1⟩ := ha
  exact ⟨_, pe_callB h1 hg hm hv p1 hn hdb he hpl, q1.cb h2⟩
theorem xe_callTy {T : String} {r : ARn} {x : Str} {p : Pos} (hc : XC K X (.type T) r) (hg : Gl X x) (hm : X.mg x = none) (hv : bootBuiltins x = some (.type T)) (ha : XA K X (e :: es) ts) (hn : x ≠ "__name__" := by decide) (hdb : (x == ("__debug__" : Str)) = false := by decide)
    (he : starEach (e :: es) X.env = (false, eval e X.env) :: starEach es X.env := by rfl) (hpl : (backTo pos (starEach es X.env)).any (·.1) = false := by rfl) : XE K X (.Call (.Name x p) (e :: es) [] pos) (aCB r ts) := by
  obtain ⟨u, h1, h2⟩ := hc
  obtain ⟨t1, p1, q1⟩ := ha
  exact ⟨_, pe_callTy h1 hg hm hv p1 hn hdb he hpl, q1.cb h2⟩
theorem xe_ix {r : AR2} (hr : XI K X r) (ha : XE K X a ta) (hb : XE K X b tb) (hs : PlainIx b) : XE K X (.Subscript a b pos) (aOp r ta tb) := by
  obtain ⟨u, h1, h2⟩ := hr
  obtain ⟨t1, p1, q1⟩ := ha
  obtain ⟨t2, p2, q2⟩ := hb
  exact ⟨_, pe_ix h1 p1 p2 hs, q1.op q2 h2⟩
end
end Ab

/-! the abstract layer: statements, walks, defs. -/
namespace Ab
open PySem PySem.Spec PyProof.Rows L2 MyB MyR MyD
/-! ### targets -/
def agName (i : Nat) : AG := fun x ρ η Q => Q (ρ.set i (some x)) η
def agNil : AGs := fun xs ρ η Q => xs = [] ∧ Q ρ η
def agCons (g : AG) (gs : AGs) : AGs := fun xs ρ η Q => ∃ x r, xs = x :: r ∧ g x ρ η fun ρ' η' => gs r ρ' η' Q
def agTup (n : Nat) (gs : AGs) : AG := fun x ρ η Q => ∃ xs, x = .tup xs ∧ xs.length = n ∧ gs xs ρ η Q
abbrev ATSet := AV → AV → AV → Eta → (Eta → Prop) → Prop
def AbSet (K : KG) (r : ATSet) (t : TSet) : Prop := ∀ θ η H o ov i iv x v AQ Q, RelH K θ η H → Rep K θ H o ov → Rep K θ H i iv → Rep K θ H x v → r o i x η AQ → (∀ θ' η' H', Ext θ H θ' H' → RelH K θ' η' H' → AQ η' → Q H') → t ov iv v H Q
def agSub (to ti : AE) (r : ATSet) : AG := fun x ρ η Q => to ρ η fun o η1 => ti ρ η1 fun i η2 => r o i x η2 fun η3 => Q ρ η3
def XSet (K : KG) (X : Cx) (r : ATSet) : Prop := ∃ t, PSet X t ∧ AbSet K r t
/-! ### statements -/
def asNext : AS := fun D ρ η => D.nx ρ η
def asSeq (t u : AS) : AS := fun D ρ η => t { D with nx := u D } ρ η
def asCut (t u : AS) : AS := fun D ρ η => ∃ Mid : Sta → Eta → Prop, t { D with nx := Mid } ρ η ∧ ∀ ρ' η', Mid ρ' η' → u D ρ' η'
def asBreak : AS := fun D ρ η => D.bk ρ η
def asCont : AS := fun D ρ η => D.ct ρ η
def asDrop (te : AE) : AS := fun D ρ η => te ρ η fun _ η1 => D.nx ρ η1
def asRet (te : AE) : AS := fun D ρ η => te ρ η D.rt
def asRetN : AS := fun D _ η => D.rt .non η
def asIf (c : AT) (t u : AS) : AS := fun D ρ η => c ρ η fun b η1 => if b = true then t D ρ η1 else u D ρ η1
def asNever : AS := fun _ _ _ => False
def asAsg (te : AE) (g : AG) : AS := fun D ρ η => te ρ η fun x η1 => g x ρ η1 D.nx
def asPar (i j : Nat) (ta : AA) : AS := fun D ρ η => ta ρ η fun xs η1 => ∃ x y, xs = [x, y] ∧ D.nx ((ρ.set i (some x)).set j (some y)) η1
def asPar3 (i j l : Nat) (ta : AA) : AS := fun D ρ η => ta ρ η fun xs η1 => ∃ x y z, xs = [x, y, z] ∧ D.nx (((ρ.set i (some x)).set j (some y)).set l (some z)) η1
def asAug (i : Nat) (te : AE) (f : Int → Int → Int) : AS := fun D ρ η => ∃ a, ρ[i]? = some (some (.int a)) ∧ te ρ η fun y η1 => ∃ b, y = .int b ∧ D.nx (ρ.set i (some (.int (f a b)))) η1
def putA {κ α : Type} [DecidableEq κ] (kvs : List (κ × α)) (k : κ) (v : α) : List (κ × α) :=
  if (kvs.any fun kv => decide (kv.1 = k)) = true then kvs.map (fun kv => if kv.1 = k then (kv.1, v) else kv) else kvs ++ [(k, v)]
def asFld (K : PySem.W.Frag) (ta tv : AE) (f : Str) : AS := fun D ρ η => tv ρ η fun y η1 => ta ρ η1 fun x η2 => ∃ n C fs, x = .rf n ∧ η2 n = some (.ins C fs) ∧ FldOk K C f ∧ fs.length < 900 ∧ D.nx ρ (pt η2 n (.ins C (putA fs f y)))
def asWhile (c : AT) (tb : AS) : AS := fun D ρ η => ∃ W : Nat → Sta → Eta → Prop, (∃ m, W m ρ η) ∧ ∀ m ρ η, W m ρ η →
  c ρ η fun b η1 => if b = true then ∃ N : Sta → Eta → Prop, (∀ ρ' η', N ρ' η' → ∃ m', m' < m ∧ W m' ρ' η') ∧ tb { D with nx := N, ct := N, bk := D.nx } ρ η1 else D.nx ρ η1
/-! ### walks -/
abbrev AR := List AV → (Eta → Prop) → Eta → Prop
abbrev AI := Sta → Eta → AR → Prop
def Walks (K : KG) (θ1 : Th) (H1 : Hp) (J : It) (xs : List AV) (stay : Eta → Prop) : Prop := ∀ θ η H i, Ext θ1 H1 θ H → RelH K θ η H → stay η →
  (i < xs.length → J.go i H ∧ ∀ v H', J.yld i H v H' → ∃ x, xs[i]? = some x ∧ Ext θ H θ H' ∧ RelH K θ η H' ∧ Rep K θ H' x v) ∧ (i = xs.length → J.stop i H)
def AbI (K : KG) (ai : AI) (wi : TI) : Prop := ∀ θ ρ η σ H AQ Q, RelH K θ η H → Rst K θ H ρ σ → ai ρ η AQ → (∀ θ' η' H' xs stay J, Ext θ H θ' H' → RelH K θ' η' H' → Walks K θ' H' J xs stay → AQ xs stay η' → Q J H') → wi σ H Q
def XIt (K : KG) (X : Cx) (tg e : Expr) (ai : AI) : Prop := ∃ wi, PI X tg e wi ∧ AbI K ai wi
/-- a list, its items -/
def LstOf (η : Eta) (x : AV) (xs : List AV) : Prop := (∃ n, x = .rf n ∧ η n = some (.lst xs)) ∨ x = .kl xs
def aiList (te : AE) : AI := fun ρ η R => te ρ η fun x η1 => ∃ xs, LstOf η1 x xs ∧ R xs (fun η => LstOf η x xs) η1
def aiTup (te : AE) : AI := fun ρ η R => te ρ η fun x η1 => ∃ xs, x = .tup xs ∧ R xs (fun _ => True) η1
def rngA (lo : Int) (n : Nat) : List AV := (List.range n).map fun (k : Nat) => .int (lo + (k : Int))
def aiRng1 (ta : AA) : AI := fun ρ η R => ta ρ η fun xs η1 => ∃ j : Int, xs = [.int j] ∧ -(2 ^ 62) ≤ j ∧ j < 2 ^ 62 ∧ R (rngA 0 j.toNat) (fun _ => True) η1
def aiRng2 (ta : AA) : AI := fun ρ η R => ta ρ η fun xs η1 => ∃ i j : Int, xs = [.int i, .int j] ∧ (-(2 ^ 62) ≤ i ∧ i < 2 ^ 62 ∧ -(2 ^ 62) ≤ j ∧ j < 2 ^ 62) ∧ R (rngA i (j - i).toNat) (fun _ => True) η1
def zipA (xs ys : List AV) : List AV := xs.zipWith (fun x y => .tup [x, y]) ys
def aiZip (ta : AA) : AI := fun ρ η R => ta ρ η fun zs η1 => ∃ x y xs ys, zs = [x, y] ∧ ((LstOf η1 x xs ∧ LstOf η1 y ys ∧ R (zipA xs ys) (fun η => LstOf η x xs ∧ LstOf η y ys) η1) ∨ (x = .tup xs ∧ y = .tup ys ∧ R (zipA xs ys) (fun _ => True) η1))
def enumA (xs : List AV) : List AV := xs.mapIdx fun i x => .tup [.int (i : Int), x]
def aiEnum (ta : AA) : AI := fun ρ η R => ta ρ η fun zs η1 => ∃ x xs, zs = [x] ∧ LstOf η1 x xs ∧ R (enumA xs) (fun η => LstOf η x xs) η1
def asFor (ai : AI) (g : AG) (tb : AS) : AS := fun D ρ η => ai ρ η fun xs stay η1 => ∃ W : Nat → Sta → Eta → Prop, W 0 ρ η1 ∧ (∀ i ρ η, i ≤ xs.length → W i ρ η → stay η) ∧
  (∀ i ρ η x, xs[i]? = some x → W i ρ η → g x ρ η fun ρ2 η2 => tb { D with nx := W (i + 1), ct := W (i + 1), bk := D.nx } ρ2 η2) ∧ ∀ ρ η, W xs.length ρ η → D.nx ρ η
def wipeA (ρ : Sta) : List Nat → Sta
  | [] => ρ
  | v :: vs => (wipeA ρ vs).set v none
/-- a list comprehension: W i acc η -/
def aLc (ai : AI) (g : AG) (tt : AT) (te : AE) (vs : List Nat) : AE := fun ρ η Q => ai ρ η fun xs stay η1 => ∃ W : Nat → List AV → Eta → Prop, W 0 [] η1 ∧ (∀ i acc η, i ≤ xs.length → W i acc η → stay η) ∧
  (∀ i acc η x, xs[i]? = some x → W i acc η → g x (wipeA ρ vs) η fun ρ2 η2 => tt ρ2 η2 fun b η3 => if b = true then te ρ2 η3 fun y η4 => acc.length < 16000000 ∧ W (i + 1) (acc ++ [y]) η4 else W (i + 1) acc η3) ∧
  ∀ acc η, W xs.length acc η → ∀ n, η n = none → Q (.rf n) (pt η n (.lst acc))
section
variable {K : KG} {X : Cx} {a b c e : Expr} {ta tb tc te : AE} {pos : Pos}
theorem xg_name {i : Nat} {x : Str} (hN : X.N.Nodup) (hi : X.N[i]? = some x) (hx : Loc X.env.scope x) (hf : X.fn x = true ∨ X.env.scope.names.lookup x = some .local := by first | exact .inl rfl | exact .inr rfl | assumption) : XG K X (.Name x pos) (agName i) :=
  ⟨_, pg_name hN hi hx hf, fun θ ρ η σ H x v AQ Q R S r q C => C θ η H _ _ .refl R (S.set r) q⟩
theorem xgs_nil : XGs K X [] agNil := by
  refine ⟨_, pgs_nil, ?_⟩
  rintro θ ρ η σ H x v AQ Q R S r ⟨rfl, q⟩ C
  cases r
  exact ⟨rfl, C θ η H _ _ .refl R S q⟩
theorem xgs_cons {es : List Expr} {g : AG} {gs : AGs} (h1 : XG K X e g) (h2 : XGs K X es gs) (hs : (assignEach (e :: es) X.env).map (·.2) = assign e X.env :: (assignEach es X.env).map (·.2) := by rfl) : XGs K X (e :: es) (agCons g gs) := by
  obtain ⟨t1, p1, q1⟩ := h1
  obtain ⟨t2, p2, q2⟩ := h2
  refine ⟨_, pgs_cons p1 p2 hs, ?_⟩
  rintro θ ρ η σ H xs vs AQ Q R S r ⟨x, xr, rfl, q⟩ C
  cases r with
  | cons r1 r2 =>
    refine ⟨_, _, rfl, ?_⟩
    refine q1 θ ρ η σ H x _ _ _ R S r1 q ?_
    intro θ1 η1 H1 ρ1 σ1 e1 R1 S1 h1
    exact q2 θ1 ρ1 η1 σ1 H1 xr _ AQ Q R1 S1 (r2.ext e1) h1 (C.ext e1)
theorem xg_tup {es : List Expr} {k : Nat} {gs : AGs} {n : Nat} (hK : X.K = K) (hc : X.calm = true) (h : XGs K X es gs) (hn : (assignEach es X.env).length = n := by rfl) (hst : (assignEach es X.env).findIdx? (·.1) = none := by rfl) : XG K X (.Tuple es k pos) (agTup n gs) := by
  obtain ⟨t, p, q⟩ := h
  refine ⟨_, MyK.pg_tup (K := K) hK hc p hn hst, ?_⟩
  rintro θ ρ η σ H x v AQ Q R S r ⟨xs, rfl, hl, h⟩ C
  cases r with
  | tup u hH r => exact ⟨_, _, rfl, sqT hH, r.len ▸ hl, q θ ρ η σ H xs _ AQ Q R S r h C⟩
theorem xg_sub {o i : Expr} {to ti : AE} {r : ATSet} (ho : XE K X o to) (hi : XE K X i ti) (hs : XSet K X r)
    (ha : ∀ v, assign (.Subscript o i pos) X.env v = (do
      let ov ← holding [v] (eval o X.env)
      let iv ← holding [v, ov] (eval i X.env)
      standAt pos
      holding [v, ov, iv] (setItem ov iv v)
      release [v, ov, iv] []) := by intro _; rfl) : XG K X (.Subscript o i pos) (agSub to ti r) := by
  obtain ⟨t1, p1, q1⟩ := ho
  obtain ⟨t2, p2, q2⟩ := hi
  obtain ⟨t3, p3, q3⟩ := hs
  refine ⟨_, pg_sub p1 p2 p3 ha, ?_⟩
  intro θ ρ η σ H x v AQ Q R S rx h C
  refine q1 θ ρ η σ H _ _ R S h ?_
  intro θ1 η1 H1 o ov e1 R1 r1 h1
  refine q2 θ1 ρ η1 σ H1 _ _ R1 (S.ext e1) h1 ?_
  intro θ2 η2 H2 i iv e2 R2 r2 h2
  refine q3 θ2 η2 H2 o ov i iv x v _ _ R2 (r1.ext e2) r2 (rx.ext (e1.trans e2)) h2 ?_
  intro θ3 η3 H3 e3 R3 h3
  exact C θ3 η3 H3 ρ σ (e1.trans (e2.trans e3)) R3 (S.ext (e1.trans (e2.trans e3))) h3
/-! statements -/
variable {st : Stmt} {rest : List Stmt} {t u : AS}
theorem xss_nil : XSs K X [] asNext := ⟨_, pss_nil, fun θ ρ η σ H A D R S q C => C.nx θ η H _ _ .refl R S q⟩
theorem AbS.seq {t1 t2 : TS} (h1 : AbS K t t1) (h2 : AbS K u t2) : AbS K (asSeq t u) (tSeq t1 t2) := by
  intro θ ρ η σ H A D R S q C
  refine h1 θ ρ η σ H _ _ R S q ⟨?_, C.rt, C.bk, C.ct⟩
  intro θ1 η1 H1 ρ1 σ1 e1 R1 S1 q1
  exact h2 θ1 ρ1 η1 σ1 H1 A D R1 S1 q1 (C.ext e1)
theorem xss_cons (h1 : XS K X st t) (h2 : XSs K X rest u) : XSs K X (st :: rest) (asSeq t u) := by
  obtain ⟨t1, p1, q1⟩ := h1
  obtain ⟨t2, p2, q2⟩ := h2
  exact ⟨_, pss_cons p1 p2, q1.seq q2⟩
theorem xss_cut (h1 : XS K X st t) (h2 : XSs K X rest u) : XSs K X (st :: rest) (asCut t u) := by
  obtain ⟨t1, p1, q1⟩ := h1
  obtain ⟨t2, p2, q2⟩ := h2
  refine ⟨_, pss_cons p1 p2, ?_⟩
  rintro θ ρ η σ H A D R S ⟨Mid, q, k⟩ C
  refine q1 θ ρ η σ H _ _ R S q ⟨?_, C.rt, C.bk, C.ct⟩
  intro θ1 η1 H1 ρ1 σ1 e1 R1 S1 h1
  exact q2 θ1 ρ1 η1 σ1 H1 A D R1 S1 (k _ _ h1) (C.ext e1)
theorem xss_one (h1 : XS K X st t) : XSs K X [st] t := by
  obtain ⟨t1, p1, q1⟩ := h1
  exact ⟨_, pss_one p1, q1⟩
theorem xs_pass : XS K X (.Pass pos) asNext := ⟨_, ps_pass, fun θ ρ η σ H A D R S q C => C.nx θ η H _ _ .refl R S q⟩
theorem xs_break : XS K X (.Break pos) asBreak := ⟨_, ps_break, fun θ ρ η σ H A D R S q C => C.bk θ η H _ _ .refl R S q⟩
theorem xs_continue : XS K X (.Continue pos) asCont := ⟨_, ps_continue, fun θ ρ η σ H A D R S q C => C.ct θ η H _ _ .refl R S q⟩
theorem xs_never : XS K X st asNever := ⟨_, ps_never, fun _ _ _ _ _ _ _ _ _ q _ => q.elim⟩
theorem xs_expr (he : XE K X e te) (hs : swapsWith e none pos.line X.env = pure false := by rfl) : XS K X (.Expr e pos) (asDrop te) := by
  obtain ⟨t1, p1, q1⟩ := he
  refine ⟨_, ps_expr p1 hs, ?_⟩
  intro θ ρ η σ H A D R S q C
  exact q1 θ ρ η σ H _ _ R S q fun θ1 η1 H1 x v e1 R1 r1 h1 => C.nx θ1 η1 H1 ρ σ e1 R1 (S.ext e1) h1
theorem xs_ret (he : XE K X e te) : XS K X (.Return (some e) pos) (asRet te) := by
  obtain ⟨t1, p1, q1⟩ := he
  exact ⟨_, ps_ret p1, fun θ ρ η σ H A D R S q C => q1 θ ρ η σ H _ _ R S q C.rt⟩
theorem xs_retN : XS K X (.Return none pos) asRetN := ⟨_, ps_retN, fun θ ρ η σ H A D R S q C => C.rt θ η H _ _ .refl R .non q⟩
theorem xs_if {c : Expr} {x y : List Stmt} {tt : AT} (hc : XT K X c tt) (ha : XSs K X x t) (hb : XSs K X y u) : XS K X (.If c x y pos) (asIf tt t u) := by
  obtain ⟨t0, p0, q0⟩ := hc
  obtain ⟨t1, p1, q1⟩ := ha
  obtain ⟨t2, p2, q2⟩ := hb
  refine ⟨_, ps_if p0 p1 p2, ?_⟩
  intro θ ρ η σ H A D R S q C
  refine q0 θ ρ η σ H _ _ R S q ?_
  rintro θ1 η1 H1 c _ e1 R1 rfl h1
  cases c with
  | true =>
    rw [if_pos rfl] at h1 ⊢
    exact q1 θ1 ρ η1 σ H1 A D R1 (S.ext e1) h1 (C.ext e1)
  | false =>
    rw [if_neg (by decide)] at h1 ⊢
    exact q2 θ1 ρ η1 σ H1 A D R1 (S.ext e1) h1 (C.ext e1)
theorem xs_set {i : Nat} {x : Str} {pos' : Pos} (hN : X.N.Nodup) (hi : X.N[i]? = some x) (hx : Loc X.env.scope x) (he : XE K X e te) (hs : swapsWith e (some (.Name x pos')) pos.line X.env = pure false := by rfl) (hf : X.fn x = true ∨ X.env.scope.names.lookup x = some .local := by first | exact .inl rfl | exact .inr rfl | assumption) :
    XS K X (.Assign [.Name x pos'] e pos) (asAsg te (agName i)) := by
  obtain ⟨t1, p1, q1⟩ := he
  refine ⟨_, ps_set hN hi hx p1 hs hf, ?_⟩
  intro θ ρ η σ H A D R S q C
  exact q1 θ ρ η σ H _ _ R S q fun θ1 η1 H1 x v e1 R1 r1 h1 => C.nx θ1 η1 H1 _ _ e1 R1 ((S.ext e1).set r1) h1
theorem AbE.asg {g : AG} {t1 : TE} {t2 : TG} (q1 : AbE K te t1) (q2 : AbG K g t2) : AbS K (asAsg te g) (tAsg t1 t2) := by
  intro θ ρ η σ H A D R S q C
  exact q1 θ ρ η σ H _ _ R S q fun θ1 η1 H1 x v e1 R1 r1 h1 => q2 θ1 ρ η1 σ H1 x v _ _ R1 (S.ext e1) r1 h1 (C.nx.ext e1)
theorem xs_asg {tg : Expr} {g : AG} (he : XE K X e te) (hg : XG K X tg g) (hs : swapsWithSole [tg] e pos.line X.env = pure false := by rfl) (hw : swappedStores [tg] e X.env = pure none := by rfl)
    (h1 : (assignEach [tg] X.env).map (·.2) = [assign tg X.env] := by rfl) : XS K X (.Assign [tg] e pos) (asAsg te g) := by
  obtain ⟨t1, p1, q1⟩ := he
  obtain ⟨t2, p2, q2⟩ := hg
  exact ⟨_, ps_asg p1 p2 hs hw h1, q1.asg q2⟩
theorem xs_aug {i : Nat} {x : Str} {op : Operator} {f : Int → Int → Int} {pos' : Pos} (hN : X.N.Nodup) (hi : X.N[i]? = some x) (hx : Loc X.env.scope x) (he : XE K X e te) (ho : PIp X op (ipI f)) (hf : X.fn x = true ∨ X.env.scope.names.lookup x = some .local := by first | exact .inl rfl | exact .inr rfl | assumption) :
    XS K X (.AugAssign (.Name x pos') op e pos) (asAug i te f) := by
  obtain ⟨t1, p1, q1⟩ := he
  refine ⟨_, ps_aug hN hi hx p1 ho hf, ?_⟩
  rintro θ ρ η σ H A D R S ⟨z, hz, q⟩ C
  obtain ⟨w, hw, rw'⟩ := S.2 i _ hz
  cases rw'
  refine ⟨_, hw, q1 θ ρ η σ H _ _ R S q ?_⟩
  rintro θ1 η1 H1 y v e1 R1 r1 ⟨b, rfl, h1⟩
  cases r1
  exact ⟨z, b, rfl, rfl, C.nx θ1 η1 H1 _ _ e1 R1 ((S.ext e1).set .int) h1⟩
theorem xs_par {i j : Nat} {x y : Str} {a b : Expr} {ta : AA} {px py pt : Pos} {kt k2 pt2} (hc : X.calm = true) (hN : X.N.Nodup) (hi : X.N[i]? = some x) (hj : X.N[j]? = some y) (hij : i ≠ j)
    (hx : X.env.scope.names.lookup x = some .local) (hy : X.env.scope.names.lookup y = some .local) (ha : XA K X [a, b] ta)
    (hw : swappedStores [.Tuple [.Name x px, .Name y py] kt pt] (.Tuple [a, b] k2 pt2) X.env = pure (some [x, y]))
    (hs : swapsWithSole [.Tuple [.Name x px, .Name y py] kt pt] (.Tuple [a, b] k2 pt2) pos.line X.env = pure false := by rfl) :
    XS K X (.Assign [.Tuple [.Name x px, .Name y py] kt pt] (.Tuple [a, b] k2 pt2) pos) (asPar i j ta) := by
  obtain ⟨t1, p1, q1⟩ := ha
  refine ⟨_, ps_par hc hN hi hj hij hx hy p1 hw hs, ?_⟩
  intro θ ρ η σ H A D R S q C
  refine q1 θ ρ η σ H _ _ R S q ?_
  rintro θ1 η1 H1 xs vs e1 R1 r1 ⟨x, y, rfl, h1⟩
  cases r1 with
  | cons r1 r2 =>
    cases r2 with
    | cons r2 r3 =>
      cases r3
      exact ⟨_, _, rfl, C.nx θ1 η1 H1 _ _ e1 R1 (((S.ext e1).set r1).set r2) h1⟩
theorem xs_par3 {i j l : Nat} {x y z : Str} {a b c : Expr} {ta : AA} {px py pz pt pos : Pos} {kt k2 pt2} (hc : X.calm = true) (hN : X.N.Nodup) (hi : X.N[i]? = some x) (hj : X.N[j]? = some y) (hl : X.N[l]? = some z) (hij : i ≠ j) (hil : i ≠ l) (hjl : j ≠ l)
    (hx : X.env.scope.names.lookup x = some .local) (hy : X.env.scope.names.lookup y = some .local) (hz : X.env.scope.names.lookup z = some .local) (ha : XA K X [a, b, c] ta)
    (hw : swappedStores [.Tuple [.Name x px, .Name y py, .Name z pz] kt pt] (.Tuple [a, b, c] k2 pt2) X.env = pure (some [x, y, z]))
    (hs : swapsWithSole [.Tuple [.Name x px, .Name y py, .Name z pz] kt pt] (.Tuple [a, b, c] k2 pt2) pos.line X.env = pure false := by rfl) :
    XS K X (.Assign [.Tuple [.Name x px, .Name y py, .Name z pz] kt pt] (.Tuple [a, b, c] k2 pt2) pos) (asPar3 i j l ta) := by
  obtain ⟨t1, p1, q1⟩ := ha
  refine ⟨_, ps_par3 hc hN hi hj hl hij hil hjl hx hy hz p1 hw hs, ?_⟩
  intro θ ρ η σ H A D R S q C
  refine q1 θ ρ η σ H _ _ R S q ?_
  rintro θ1 η1 H1 xs vs e1 R1 r1 ⟨x, y, z, rfl, h1⟩
  cases r1 with
  | cons r1 r2 =>
    cases r2 with
    | cons r2 r3 =>
      cases r3 with
      | cons r3 r4 =>
        cases r4
        exact ⟨_, _, _, rfl, C.nx θ1 η1 H1 _ _ e1 R1 ((((S.ext e1).set r1).set r2).set r3) h1⟩
theorem lookup_put {fs : List (Str × V)} {f g : Str} {v : V} : (putF f v fs).lookup g = if g = f then some v else fs.lookup g := by
  induction fs with
  | nil =>
    show (([(f, v)] : List (Str × V)).lookup g) = _
    rw [List.lookup_cons]
    by_cases c : g = f
    · simp [c]
    · have : (g == f) = false := by simpa using c
      simp [c, this]
  | cons p fs ih =>
    obtain ⟨k, w⟩ := p
    show (if k = f then (k, v) :: fs else (k, w) :: putF f v fs).lookup g = _
    by_cases c : k = f
    · subst c
      rw [if_pos rfl, List.lookup_cons, List.lookup_cons]
      by_cases c2 : g = k
      · simp [c2]
      · have : (g == k) = false := by simpa using c2
        simp [c2, this]
    · rw [if_neg c, List.lookup_cons, List.lookup_cons, ih]
      by_cases c2 : g = k
      · subst c2
        simp [c]
      · have : (g == k) = false := by simpa using c2
        simp [this]
theorem RepF.put1 {K : PySem.W.Frag} {θ : Th} {H : Hp} {fs : List (Str × AV)} {gs : List (Str × V)} (h : RepF K θ H fs gs) {f : Str} {x : AV} {v : V} (r : Rep K θ H x v) : RepF K θ H (fs.map fun kv => if kv.1 = f then (kv.1, x) else kv) (putF f v gs) := by
  induction fs with
  | nil => exact .nil
  | cons p fs ih =>
    obtain ⟨k, y⟩ := p
    cases h with
    | cons l a b =>
      rw [List.map_cons]
      by_cases c : k = f
      · rw [if_pos c]
        exact .cons (by rw [lookup_put, if_pos c]) r (ih b)
      · rw [if_neg c]
        exact .cons (by rw [lookup_put, if_neg c]; exact l) a (ih b)
theorem RepF.snoc {K : PySem.W.Frag} {θ : Th} {H : Hp} {fs : List (Str × AV)} {gs : List (Str × V)} (h : RepF K θ H fs gs) {f : Str} {x : AV} {v : V} (r : Rep K θ H x v) (n : ∀ kv ∈ fs, kv.1 ≠ f) : RepF K θ H (fs ++ [(f, x)]) (putF f v gs) := by
  induction fs with
  | nil => exact .cons (by rw [lookup_put, if_pos rfl]) r .nil
  | cons p fs ih =>
    obtain ⟨k, y⟩ := p
    cases h with
    | cons l a b => exact .cons (by rw [lookup_put, if_neg (n _ List.mem_cons_self)]; exact l) a (ih b fun kv hkv => n kv (List.mem_cons_of_mem _ hkv))
theorem RepF.put {K : PySem.W.Frag} {θ : Th} {H : Hp} {fs : List (Str × AV)} {gs : List (Str × V)} (h : RepF K θ H fs gs) {f : Str} {x : AV} {v : V} (r : Rep K θ H x v) : RepF K θ H (putA fs f x) (putF f v gs) := by
  unfold putA
  split
  · exact h.put1 r
  · rename_i c
    refine h.snoc r fun kv hkv e => c ?_
    rw [List.any_eq_true]
    exact ⟨kv, hkv, decide_eq_true e⟩
theorem xs_while {c : Expr} {body : List Stmt} {tt : AT} (hp : PassesOwn (model X.prog X.w) X.A X.env X.xe) (hc : XT K X c tt) (hb : XSs K X body u) : XS K X (.While c body [] pos) (asWhile tt u) := by
  obtain ⟨t0, p0, q0⟩ := hc
  obtain ⟨t1, p1, q1⟩ := hb
  refine ⟨_, ps_while hp p0 p1, ?_⟩
  rintro θ ρ η σ H A D R S ⟨W, ⟨m, w0⟩, turn⟩ C
  refine ⟨fun m σ' H' => ∃ θ' ρ' η', Ext θ H θ' H' ∧ RelH K θ' η' H' ∧ Rst K θ' H' ρ' σ' ∧ W m ρ' η', ⟨m, θ, ρ, η, .refl, R, S, w0⟩, ?_⟩
  rintro m σ1 H1 ⟨θ1, ρ1, η1, e1, R1, S1, w1⟩
  refine q0 θ1 ρ1 η1 σ1 H1 _ _ R1 S1 (turn m ρ1 η1 w1) ?_
  rintro θ2 η2 H2 c _ e2 R2 rfl h2
  cases c with
  | true =>
    rw [if_pos rfl] at h2 ⊢
    obtain ⟨N, hN, hb⟩ := h2
    refine ⟨fun σ' H' => ∃ θ' ρ' η', Ext θ H θ' H' ∧ RelH K θ' η' H' ∧ Rst K θ' H' ρ' σ' ∧ N ρ' η', ?_, ?_⟩
    · rintro σ' H' ⟨θ', ρ', η', e', R', S', n'⟩
      obtain ⟨m', hm, w'⟩ := hN _ _ n'
      exact ⟨m', hm, θ', ρ', η', e', R', S', w'⟩
    · refine q1 θ2 ρ1 η2 σ1 H2 _ _ R2 (S1.ext e2) hb ⟨?_, ?_, ?_, ?_⟩
      · exact fun θ3 η3 H3 ρ3 σ3 e3 R3 S3 h3 => ⟨θ3, ρ3, η3, e1.trans (e2.trans e3), R3, S3, h3⟩
      · exact C.rt.ext (e1.trans e2)
      · exact C.nx.ext (e1.trans e2)
      · exact fun θ3 η3 H3 ρ3 σ3 e3 R3 S3 h3 => ⟨θ3, ρ3, η3, e1.trans (e2.trans e3), R3, S3, h3⟩
  | false =>
    rw [if_neg (by decide)] at h2 ⊢
    exact C.nx θ2 η2 H2 ρ1 σ1 (e1.trans e2) R2 (S1.ext e2) h2
theorem xs_for {iter tg : Expr} {body : List Stmt} {ai : AI} {g : AG} (hp : PassesOwn (model X.prog X.w) X.A X.env X.xe) (hc : X.calm = true) (hi : XIt K X tg iter ai) (hg : XG K X tg g) (hb : XSs K X body u)
    (hs : ∀ x, foldedSetIterable iter X.env x = pure x := by intro _; rfl) : XS K X (.For tg iter body [] pos) (asFor ai g u) := by
  obtain ⟨wi, p0, q0⟩ := hi
  obtain ⟨t1, p1, q1⟩ := hg
  obtain ⟨t2, p2, q2⟩ := hb
  refine ⟨_, ps_for hp hc p0 p1 p2 hs, ?_⟩
  intro θ ρ η σ H A D R S q C
  refine q0 θ ρ η σ H _ _ R S q ?_
  rintro θ1 η1 H1 xs stay J e1 R1 wk ⟨W, w0, hst, turn, fin⟩
  refine ⟨fun i m σ' H' => m = xs.length - i ∧ i ≤ xs.length ∧ ∃ θ' ρ' η', Ext θ1 H1 θ' H' ∧ RelH K θ' η' H' ∧ Rst K θ' H' ρ' σ' ∧ W i ρ' η', ⟨_, rfl, Nat.zero_le _, θ1, ρ, η1, .refl, R1, S.ext e1, w0⟩, ?_⟩
  rintro i m σ2 H2 ⟨rfl, hle, θ2, ρ2, η2, e2, R2, S2, w2⟩
  have hw := wk θ2 η2 H2 i e2 R2 (hst i ρ2 η2 hle w2)
  by_cases c : i < xs.length
  · refine .inr ⟨(hw.1 c).1, fun σ' H' => ∃ θ' ρ' η', Ext θ1 H1 θ' H' ∧ RelH K θ' η' H' ∧ Rst K θ' H' ρ' σ' ∧ W (i + 1) ρ' η', fun σ' H' n => ⟨_, ?_, rfl, by omega, n⟩, ?_⟩
    · omega
    · intro v H3 y
      obtain ⟨x, hx, e3, R3, r3⟩ := (hw.1 c).2 v H3 y
      refine q1 θ2 ρ2 η2 σ2 H3 x v _ _ R3 (S2.ext e3) r3 (turn i ρ2 η2 x hx w2) ?_
      intro θ4 η4 H4 ρ4 σ4 e4 R4 S4 h4
      have e14 := e2.trans (e3.trans e4)
      refine q2 θ4 ρ4 η4 σ4 H4 _ _ R4 S4 h4 ⟨?_, ?_, ?_, ?_⟩
      · exact fun θ5 η5 H5 ρ5 σ5 e5 R5 S5 h5 => ⟨θ5, ρ5, η5, e14.trans e5, R5, S5, h5⟩
      · exact C.rt.ext (e1.trans e14)
      · exact C.nx.ext (e1.trans e14)
      · exact fun θ5 η5 H5 ρ5 σ5 e5 R5 S5 h5 => ⟨θ5, ρ5, η5, e14.trans e5, R5, S5, h5⟩
  · have ei : i = xs.length := by omega
    subst ei
    exact .inl ⟨hw.2 rfl, C.nx θ2 η2 H2 ρ2 σ2 (e1.trans e2) R2 S2 (fin ρ2 η2 w2)⟩
theorem Rst.wipe {K : PySem.W.Frag} {θ : Th} {H : Hp} {ρ : Sta} {σ : L2.St} (h : Rst K θ H ρ σ) : ∀ vs : List Nat, Rst K θ H (wipeA ρ vs) (wipe σ vs)
  | [] => h
  | v :: vs => (Rst.wipe h vs).del v
end
end Ab

/-! the abstract layer: comprehensions, iterators. -/
namespace Ab
open PySem PySem.Spec PyProof.Rows L2 MyB MyR MyD
section
variable {K : KG} {θ θ' θ1 : Th} {H H' H1 : Hp} {η : Eta} {p : Addr} {u o : HO}
mutual
theorem Rep.mut {K : PySem.W.Frag} (m : MutK u) (hp : H p = some u) : ∀ {x : AV} {v : V}, Rep K θ H x v → Rep K θ (upd H p o) x v
  | _, _, .non => .non
  | _, _, .bl => .bl
  | _, _, .int => .int
  | _, _, .str => .str
  | _, _, .ty => .ty
  | _, _, .gl => .gl
  | _, _, .tup u h r => .tup u ((upd_ne (mutK_tup m hp h)).trans h) (Reps.mut m hp r)
  | _, _, .ob u h r => .ob u ((upd_ne (mutK_ins m hp h)).trans h) (RepF.mut m hp r)
  | _, _, .rf h => .rf h
  | _, _, .kl h r => .kl (by
      rcases h with ⟨u, o, q⟩ | h
      · exact .inl ⟨u, o, (upd_ne (mutK_frz m hp q)).trans q⟩
      · exact .inr h) (Reps.mut m hp r)
theorem Reps.mut {K : PySem.W.Frag} (m : MutK u) (hp : H p = some u) : ∀ {xs : List AV} {vs : List V}, Reps K θ H xs vs → Reps K θ (upd H p o) xs vs
  | _, _, .nil => .nil
  | _, _, .cons a b => .cons (Rep.mut m hp a) (Reps.mut m hp b)
theorem RepF.mut {K : PySem.W.Frag} (m : MutK u) (hp : H p = some u) : ∀ {fs : List (Str × AV)} {gs : List (Str × V)}, RepF K θ H fs gs → RepF K θ (upd H p o) fs gs
  | _, _, .nil => .nil
  | _, _, .cons l a b => .cons l (Rep.mut m hp a) (RepF.mut m hp b)
end
theorem RepK.mut {K : PySem.W.Frag} {κ : Type} (m : MutK u) (hp : H p = some u) {xs : List (κ × AV)} {vs : List (κ × V)} (h : RepK K θ H xs vs) : RepK K θ (upd H p o) xs vs := by
  induction h with
  | nil => exact .nil
  | cons a b ih => exact .cons (a.mut m hp) ih
theorem RepO.mut {K : PySem.W.Frag} (m : MutK u) (hp : H p = some u) {a : Addr} (n : a ≠ p) {ao : AO} (w : RepO K θ H a ao) : RepO K θ (upd H p o) a ao := by
  cases ao with
  | lst xs => obtain ⟨vs, q, r⟩ := w; exact ⟨vs, (upd_ne n).trans q, r.mut m hp⟩
  | dK kvs => obtain ⟨vs, q, r⟩ := w; exact ⟨vs, (upd_ne n).trans q, r.mut m hp⟩
  | dT kvs => obtain ⟨vs, q, r⟩ := w; exact ⟨vs, (upd_ne n).trans q, r.mut m hp⟩
  | ins C fs => obtain ⟨dx, gs, q, l, r⟩ := w; exact ⟨dx, gs, (upd_ne n).trans q, l, r.mut m hp⟩
  | fz o' od u' =>
    cases o' with
    | dK kvs => obtain ⟨vs, z, q, r⟩ := w; exact ⟨vs, z, (upd_ne n).trans q, r.mut m hp⟩
    | dT kvs => obtain ⟨vs, z, q, r⟩ := w; exact ⟨vs, z, (upd_ne n).trans q, r.mut m hp⟩
    | lst xs => exact w
    | ins C fs => exact w
    | fz o a b => exact w
theorem RelH.mut (R : RelH K θ η H) (m : MutK u) (hp : H p = some u) (n : Untr θ p) (g : K.G θ (upd H p o)) : RelH K θ η (upd H p o) := by
  have ne : ∀ k a, θ k = some a → a ≠ p := fun k a h z => n k (z ▸ h)
  refine ⟨fun k ao h => ?_, R.inj, fun k a h => ?_, R.top, g⟩
  · obtain ⟨a, h1, h2⟩ := R.at k ao h
    exact ⟨a, h1, h2.mut m hp (ne k a h1)⟩
  · obtain ⟨w, h', nt⟩ := R.live k a h
    exact ⟨w, (upd_ne (ne k a h)).trans h', nt⟩
theorem Ext.mut (e : Ext θ H θ' H') (h : H p = none) : Ext θ H θ' (upd H' p o) := by
  refine ⟨e.mono, e.fresh, fun b w hb ub => (upd_ne (ne_of_none hb h)).trans (e.keep b w hb ub), fun b w hb => ?_⟩
  obtain ⟨w', h'⟩ := e.stay b w hb
  exact ⟨w', (upd_ne (ne_of_none hb h)).trans h'⟩
end
def liE (K : KG) (ta : AE) : TE := fun σ H Q => ∃ θ ρ η AQ, RelH K θ η H ∧ Rst K θ H ρ σ ∧ ta ρ η AQ ∧ Cg K (Rep K) θ H AQ Q
def liT (K : KG) (ta : AT) : TT := fun σ H Q => ∃ θ ρ η AQ, RelH K θ η H ∧ Rst K θ H ρ σ ∧ ta ρ η AQ ∧ Cg K (fun _ _ (a b : Bool) => a = b) θ H AQ Q
/-- only slots of is have changed -/
def Onl (is : List Nat) (σ σ' : L2.St) : Prop := ∀ vs : List Nat, (∀ i ∈ is, i ∈ vs) → wipe σ' vs = wipe σ vs
def AbGc (K : KG) (is : List Nat) (g : AG) (t : TG) : Prop := ∀ θ ρ η σ H x v AQ Q, RelH K θ η H → Rst K θ H ρ σ → Rep K θ H x v → g x ρ η AQ →
  (∀ θ' η' H' ρ' σ', Ext θ H θ' H' → RelH K θ' η' H' → Rst K θ' H' ρ' σ' → Onl is σ σ' → AQ ρ' η' → Q σ' H') → t v σ H Q
def AbGsc (K : KG) (is : List Nat) (g : AGs) (t : TGs) : Prop := ∀ θ ρ η σ H x v AQ Q, RelH K θ η H → Rst K θ H ρ σ → Reps K θ H x v → g x ρ η AQ →
  (∀ θ' η' H' ρ' σ', Ext θ H θ' H' → RelH K θ' η' H' → Rst K θ' H' ρ' σ' → Onl is σ σ' → AQ ρ' η' → Q σ' H') → t v σ H Q
def XGc (K : KG) (X : Cx) (e : Expr) (is : List Nat) (g : AG) : Prop := ∃ t, PG X e t ∧ AbGc K is g t
def XGsc (K : KG) (X : Cx) (e : List Expr) (is : List Nat) (g : AGs) : Prop := ∃ t, PGs X e t ∧ AbGsc K is g t
def liGc (K : KG) (is : List Nat) (g : AG) : TG := fun v σ H Q => ∃ θ ρ η x AQ, RelH K θ η H ∧ Rst K θ H ρ σ ∧ Rep K θ H x v ∧ g x ρ η AQ ∧
  ∀ θ' η' H' ρ' σ', Ext θ H θ' H' → RelH K θ' η' H' → Rst K θ' H' ρ' σ' → Onl is σ σ' → AQ ρ' η' → Q σ' H'
theorem wipe_get {σ : L2.St} {j : Nat} : ∀ {vs : List Nat}, (wipe σ vs)[j]? = if j ∈ vs then σ[j]?.map (fun _ => none) else σ[j]?
  | [] => by simp [wipe]
  | v :: vs => by
    show ((wipe σ vs).set v none)[j]? = _
    rw [List.getElem?_set, wipe_length]
    by_cases c : v = j
    · subst c
      rw [if_pos rfl, if_pos List.mem_cons_self]
      by_cases l : v < σ.length
      · rw [if_pos l, List.getElem?_eq_getElem l]
        rfl
      · rw [if_neg l, List.getElem?_eq_none (by omega)]
        rfl
    · rw [if_neg c, wipe_get]
      by_cases m : j ∈ vs
      · rw [if_pos m, if_pos (List.mem_cons_of_mem _ m)]
      · rw [if_neg m, if_neg (by
          intro z
          rcases List.mem_cons.mp z with z | z
          · exact c z.symm
          · exact m z)]
theorem wipe_wipe (σ : L2.St) (vs : List Nat) : wipe (wipe σ vs) vs = wipe σ vs := by
  apply List.ext_getElem?
  intro j
  rw [wipe_get, wipe_get]
  by_cases m : j ∈ vs
  · rw [if_pos m, if_pos m]
    cases σ[j]? <;> rfl
  · rw [if_neg m, if_neg m]
theorem Onl.refl {is : List Nat} {σ : L2.St} : Onl is σ σ := fun _ _ => rfl
theorem Onl.trans {is js : List Nat} {σ σ1 σ2 : L2.St} (a : Onl is σ σ1) (b : Onl js σ1 σ2) : Onl (is ++ js) σ σ2 := fun vs h => (b vs fun i hi => h i (List.mem_append_right _ hi)).trans (a vs fun i hi => h i (List.mem_append_left _ hi))
theorem Onl.set {i : Nat} {σ : L2.St} {x : Option V} : Onl [i] σ (σ.set i x) := fun vs h => by
  apply List.ext_getElem?
  intro j
  rw [wipe_get, wipe_get]
  by_cases m : j ∈ vs
  · rw [if_pos m, if_pos m, List.getElem?_set]
    by_cases c : i = j
    · subst c
      rw [if_pos rfl]
      by_cases l : i < σ.length
      · rw [if_pos l, List.getElem?_eq_getElem l]
        rfl
      · rw [if_neg l, List.getElem?_eq_none (by omega)]
    · rw [if_neg c]
  · rw [if_neg m, if_neg m, List.getElem?_set_ne (by rintro rfl; exact m (h _ List.mem_cons_self))]
section
variable {K : KG} {X : Cx} {e : Expr} {es : List Expr}
theorem XE.li {ta : AE} (h : XE K X e ta) : PE X e (liE K ta) := by
  obtain ⟨t, p, q⟩ := h
  exact ⟨fun pins s σ H Q I ⟨θ, ρ, η, AQ, R, S, h, C⟩ => p.run pins s σ H Q I (q θ ρ η σ H AQ Q R S h C)⟩
theorem XTs.li {ta : AT} (h : XTs K X es ta) : PTs X es (liT K ta) := by
  obtain ⟨t, p, q⟩ := h
  exact ⟨fun pins s σ H Q I ⟨θ, ρ, η, AQ, R, S, h, C⟩ => p.run pins s σ H Q I (q θ ρ η σ H AQ Q R S h C)⟩
theorem XGc.li {is : List Nat} {g : AG} (h : XGc K X e is g) : PG X e (liGc K is g) := by
  obtain ⟨t, p, q⟩ := h
  exact ⟨fun pins s σ H v u Q I r ⟨θ, ρ, η, x, AQ, R, S, rx, h, C⟩ => p.run pins s σ H v u Q I r (q θ ρ η σ H x v AQ Q R S rx h C)⟩
theorem xgc_name {i : Nat} {x : Str} {pos : Pos} (hN : X.N.Nodup) (hi : X.N[i]? = some x) (hx : Loc X.env.scope x) (hf : X.fn x = true ∨ X.env.scope.names.lookup x = some .local := by first | exact .inl rfl | exact .inr rfl | assumption) : XGc K X (.Name x pos) [i] (agName i) :=
  ⟨_, pg_name hN hi hx hf, fun θ ρ η σ H x v AQ Q R S r q C => C θ η H _ _ .refl R (S.set r) .set q⟩
theorem xgsc_nil : XGsc K X [] [] agNil := by
  refine ⟨_, pgs_nil, ?_⟩
  rintro θ ρ η σ H x v AQ Q R S r ⟨rfl, q⟩ C
  cases r
  exact ⟨rfl, C θ η H _ _ .refl R S .refl q⟩
theorem xgsc_cons {is js : List Nat} {g : AG} {gs : AGs} (h1 : XGc K X e is g) (h2 : XGsc K X es js gs) (hs : (assignEach (e :: es) X.env).map (·.2) = assign e X.env :: (assignEach es X.env).map (·.2) := by rfl) : XGsc K X (e :: es) (is ++ js) (agCons g gs) := by
  obtain ⟨t1, p1, q1⟩ := h1
  obtain ⟨t2, p2, q2⟩ := h2
  refine ⟨_, pgs_cons p1 p2 hs, ?_⟩
  rintro θ ρ η σ H xs vs AQ Q R S r ⟨x, xr, rfl, q⟩ C
  cases r with
  | cons r1 r2 =>
    refine ⟨_, _, rfl, ?_⟩
    refine q1 θ ρ η σ H x _ _ _ R S r1 q ?_
    intro θ1 η1 H1 ρ1 σ1 e1 R1 S1 o1 h1
    refine q2 θ1 ρ1 η1 σ1 H1 xr _ AQ Q R1 S1 (r2.ext e1) h1 ?_
    intro θ2 η2 H2 ρ2 σ2 e2 R2 S2 o2 h2
    exact C θ2 η2 H2 ρ2 σ2 (e1.trans e2) R2 S2 (o1.trans o2) h2
theorem xgc_tup {is : List Nat} {k : Nat} {gs : AGs} {n : Nat} {pos : Pos} (hK : X.K = K) (hc : X.calm = true) (h : XGsc K X es is gs) (hn : (assignEach es X.env).length = n := by rfl) (hst : (assignEach es X.env).findIdx? (·.1) = none := by rfl) : XGc K X (.Tuple es k pos) is (agTup n gs) := by
  obtain ⟨t, p, q⟩ := h
  refine ⟨_, MyK.pg_tup (K := K) hK hc p hn hst, ?_⟩
  rintro θ ρ η σ H x v AQ Q R S r ⟨xs, rfl, hl, h⟩ C
  cases r with
  | tup u hH r => exact ⟨_, _, rfl, sqT hH, r.len ▸ hl, q θ ρ η σ H xs _ AQ Q R S r h C⟩
theorem xts_nil : XTs K X [] aYes := ⟨_, pts_nil, fun θ ρ η σ H AQ Q R S q C => C θ η H _ _ .refl R rfl q⟩
theorem xts_one {ta : AT} (h : XT K X e ta) : XTs K X [e] ta := by
  obtain ⟨t, p, q⟩ := h
  exact ⟨_, pts_one p, q⟩
theorem AbE.lc {ai : AI} {wi : TI} {is : List Nat} {g : AG} {tt : AT} {te : AE} {vs : List Nat} (hi : AbI K ai wi) (his : ∀ i ∈ is, i ∈ vs) : AbE K (aLc ai g tt te vs) (tLc wi (liGc K is g) (liT K tt) (liE K te) vs) := by
  intro θ ρ η σ H AQ Q R S q C
  refine hi θ ρ η σ H _ _ R S q ?_
  rintro θ1 η1 H1 xs stay J e1 R1 wk ⟨W, w0, hst, turn, fin⟩ D hD
  have S1 := S.ext e1
  -- the new list is no tracked thing while the walk lasts
  refine ⟨fun i m H' => m = xs.length - i ∧ i ≤ xs.length ∧ ∃ θ' η' acc ys, Ext θ1 H1 θ' H' ∧ RelH K θ' η' H' ∧ Untr θ' D ∧ H' D = some (.lst ys) ∧ Reps K θ' H' acc ys ∧ W i acc η', ⟨_, rfl, Nat.zero_le _, θ1, η1, [], [], ext_new hD, R1.new0 hD, R1.untr hD, upd_same, .nil, w0⟩, ?_⟩
  rintro i m H2 ⟨rfl, hle, θ2, η2, acc, ys, e2, R2, u2, h2, r2, w2⟩
  have hw := wk θ2 η2 H2 i e2 R2 (hst i acc η2 hle w2)
  by_cases c : i < xs.length
  · refine .inr ⟨(hw.1 c).1, fun H' => ∃ θ' η' acc ys, Ext θ1 H1 θ' H' ∧ RelH K θ' η' H' ∧ Untr θ' D ∧ H' D = some (.lst ys) ∧ Reps K θ' H' acc ys ∧ W (i + 1) acc η', fun H' n => ⟨_, ?_, rfl, by omega, n⟩, ?_⟩
    · omega
    · intro v H3 y
      obtain ⟨x, hx, e3, R3, r3⟩ := (hw.1 c).2 v H3 y
      have S3 : Rst K θ2 H3 ρ σ := S1.ext (e2.trans e3)
      refine ⟨θ2, wipeA ρ vs, η2, x, _, R3, S3.wipe vs, r3, turn i acc η2 x hx w2, ?_⟩
      intro θ4 η4 H4 ρ4 σ4 e4 R4 S4 o4 h4
      refine ⟨(o4 vs his).trans (wipe_wipe σ vs), θ4, ρ4, η4, _, R4, S4, h4, ?_⟩
      have h3D := e3.keep _ _ h2 u2
      have u3 := e3.untr h2 u2
      rintro θ5 η5 H5 b _ e5 R5 rfl h5
      have e25 := e3.trans (e4.trans e5)
      have h5D := e25.keep _ _ h2 u2
      have u5 := e25.untr h2 u2
      have r5 := r2.ext e25
      cases b with
      | true =>
        rw [if_pos rfl] at h5 ⊢
        refine ⟨θ5, ρ4, η5, _, R5, S4.ext e5, h5, ?_⟩
        rintro θ6 η6 H6 z zv e6 R6 r6 ⟨hacc, w6⟩
        have h6D := e6.keep _ _ h5D u5
        have u6 := e6.untr h5D u5
        refine ⟨ys, h6D, szlt (r5.len ▸ hacc), ?_⟩
        have m6 : MutK (.lst ys) := .inl ⟨_, rfl⟩
        exact ⟨θ6, η6, acc ++ [z], ys ++ [zv], (e2.trans (e25.trans e6)).mut hD, R6.mut m6 h6D u6 (K.mono _ _ _ _ ((e2.trans (e25.trans e6)).mut hD) R1.gh), u6, upd_same, ((r5.ext e6).app (.cons r6 .nil)).mut m6 h6D, w6⟩
      | false =>
        rw [if_neg (by decide)] at h5 ⊢
        exact ⟨θ5, η5, acc, ys, e2.trans e25, R5, u5, h5D, r5, h5⟩
  · have ei : i = xs.length := by omega
    subst ei
    refine .inl ⟨hw.2 rfl, ?_⟩
    obtain ⟨n, hn, he⟩ := R2.pick
    have m2 : MutK (.lst ys) := .inl ⟨_, rfl⟩
    exact C (pt θ2 n D) _ _ _ _ (e1.trans (ext_track e2 hn hD)) (R2.track hn u2 h2 m2 (show RepO K θ2 H2 D (.lst acc) from ⟨ys, h2, r2⟩) (K.mono _ _ _ _ (e1.trans (ext_track e2 hn hD)) R.gh)) (.rf pt_same) (fin acc η2 w2 n he)
variable {elt tg iter : Expr} {ifs : List Expr} {scope : Scope} {own : List (Str × Nat)} {pos : Pos} {ai : AI} {is : List Nat} {g : AG} {tt : AT} {te : AE}
theorem xe_lc (hc : X.calm = true) (hN : X.N.Nodup) (hi : XIt K X tg iter ai) (ok : BlkOk X.N X.env.scope scope own)
    (hg : ∀ (s : Shared) (H : Hp) (C : Addr) (cl : List (Str × Addr)) (fp : List Addr), XGc K (X.blk s H scope (compEnvC scope cl C X.env) fp) tg is g) (ht : ∀ (s : Shared) (H : Hp) (C : Addr) (cl : List (Str × Addr)) (fp : List Addr), XTs K (X.blk s H scope (compEnvC scope cl C X.env) fp) ifs tt)
    (he : ∀ (s : Shared) (H : Hp) (C : Addr) (cl : List (Str × Addr)) (fp : List Addr), XE K (X.blk s H scope (compEnvC scope cl C X.env) fp) elt te) (his : ∀ i ∈ is, i ∈ own.map (·.2) := by decide) (hs : ∀ x, foldedSetIterable iter X.env x = pure x := by intro _; rfl) :
    XE K X (.ListComp elt [⟨tg, iter, ifs, 0⟩] scope pos) (aLc ai g tt te (own.map (·.2))) := by
  obtain ⟨wi, p0, q0⟩ := hi
  exact ⟨_, pe_lc hc hN p0 ok (fun s H C cl fp => (hg s H C cl fp).li) (fun s H C cl fp => (ht s H C cl fp).li) (fun s H C cl fp => (he s H C cl fp).li) hs, AbE.lc q0 his⟩
theorem xs_setLc {i : Nat} {y : Str} {py : Pos} {spos : Pos} (hc : X.calm = true) (hN : X.N.Nodup) (hy : X.N[i]? = some y) (hyl : X.env.scope.names.lookup y = some .local)
    (hsw : swapsWith (.ListComp elt [⟨tg, iter, ifs, 0⟩] scope pos) (some (.Name y py)) spos.line X.env = pure true) (hi : XIt K X tg iter ai) (ok : BlkOk X.N X.env.scope scope own)
    (hg : ∀ (s : Shared) (H : Hp) (C : Addr) (cl : List (Str × Addr)) (fp : List Addr), XGc K (X.blk s H scope (compEnvC scope cl C X.env) fp) tg is g) (ht : ∀ (s : Shared) (H : Hp) (C : Addr) (cl : List (Str × Addr)) (fp : List Addr), XTs K (X.blk s H scope (compEnvC scope cl C X.env) fp) ifs tt)
    (he : ∀ (s : Shared) (H : Hp) (C : Addr) (cl : List (Str × Addr)) (fp : List Addr), XE K (X.blk s H scope (compEnvC scope cl C X.env) fp) elt te) (his : ∀ i ∈ is, i ∈ own.map (·.2) := by decide) (hs : ∀ x, foldedSetIterable iter X.env x = pure x := by intro _; rfl) :
    XS K X (.Assign [.Name y py] (.ListComp elt [⟨tg, iter, ifs, 0⟩] scope pos) spos) (asAsg (aLc ai g tt te (own.map (·.2))) (agName i)) := by
  obtain ⟨wi, p0, q0⟩ := hi
  have q := AbE.lc (g := g) (tt := tt) (te := te) q0 his
  refine ⟨_, ps_setLc hc hN hy hyl hsw p0 ok (fun s H C cl fp => (hg s H C cl fp).li) (fun s H C cl fp => (ht s H C cl fp).li) (fun s H C cl fp => (he s H C cl fp).li) hs, ?_⟩
  intro θ ρ η σ H A D R S h C
  exact q θ ρ η σ H _ _ R S h fun θ1 η1 H1 x v e1 R1 r1 h1 => C.nx θ1 η1 H1 _ _ e1 R1 ((S.ext e1).set r1) h1
/-! ### iterators -/
theorem walks_of {θ : Th} {H : Hp} {J : It} {xs : List AV} {stay : Eta → Prop} {G : Hp → Prop} {Y : Nat → Hp → V → Hp → Prop} {n : Nat} (w : Walk J n G Y) (hn : n = xs.length) (hG : ∀ θ' η' H', Ext θ H θ' H' → RelH K θ' η' H' → stay η' → G H')
    (hY : ∀ θ' η' H' i v H2, Ext θ H θ' H' → RelH K θ' η' H' → stay η' → Y i H' v H2 → ∃ x, xs[i]? = some x ∧ Ext θ' H' θ' H2 ∧ RelH K θ' η' H2 ∧ Rep K θ' H2 x v) : Walks K θ H J xs stay := by
  subst hn
  intro θ' η' H' i e R st
  refine ⟨fun c => ⟨w.goes i H' c (hG _ _ _ e R st), fun v H2 y => hY θ' η' H' i v H2 e R st (w.yields i H' v H2 c (hG _ _ _ e R st) y)⟩, ?_⟩
  rintro rfl
  exact w.stops H' (hG _ _ _ e R st)
theorem LstOf.sq {θ : Th} {H : Hp} {η : Eta} {x : AV} {v : V} {xs : List AV} (h : LstOf η x xs) (R : RelH K θ η H) (r : Rep K θ H x v) : ∃ a vs, v = .ref a ∧ SqL K H a vs ∧ Reps K θ H xs vs := by
  rcases h with ⟨n, rfl, h⟩ | rfl
  · cases r with
    | rf h' =>
      obtain ⟨a, e, vs, q, r⟩ := R.at n _ h
      rw [h'] at e
      cases e
      exact ⟨_, vs, rfl, sqL q, r⟩
  · cases r with
    | kl h r => exact ⟨_, _, rfl, h.sq, r⟩
theorem yat {θ : Th} {H H2 : Hp} {η : Eta} {xs : List AV} {vs : List V} {i : Nat} {v : V} (R : RelH K θ η H) (r : Reps K θ H xs vs) (y : YAt vs i H v H2) : ∃ x, xs[i]? = some x ∧ Ext θ H θ H2 ∧ RelH K θ η H2 ∧ Rep K θ H2 x v := by
  obtain ⟨rfl, e⟩ := y
  obtain ⟨x, hx, rx⟩ := r.back e
  exact ⟨x, hx, .refl, R, rx⟩
theorem xi_list {l : Expr} {tl : AE} (hK : X.K = K) (hl : XE K X l tl) : XIt K X tg l (aiList tl) := by
  obtain ⟨t, p, q⟩ := hl
  refine ⟨_, MyK.pi_list (K := K) hK p, ?_⟩
  intro θ ρ η σ H AQ Q R S h C
  refine q θ ρ η σ H _ _ R S h ?_
  rintro θ1 η1 H1 x v e1 R1 r1 ⟨xs, hx, h1⟩
  obtain ⟨a, vs, rfl, hv, rv⟩ := hx.sq R1 r1
  refine ⟨a, rfl, ⟨vs, hv⟩, C θ1 η1 H1 xs _ _ e1 R1 ?_ h1⟩
  intro θ' η' H' i e R' st
  obtain ⟨a', vs', e', hv', rv'⟩ := LstOf.sq st R' (r1.ext e)
  cases e'
  have w := walk_list (K := K) (a := a) (xs := vs')
  refine ⟨fun c => ⟨w.goes i H' (by rw [← rv'.len]; exact c) hv', fun v H2 y => yat R' rv' (w.yields i H' v H2 (by rw [← rv'.len]; exact c) hv' y)⟩, ?_⟩
  rintro rfl
  rw [rv'.len]
  exact w.stops H' hv'
theorem xi_tup {l : Expr} {tl : AE} (hK : X.K = K) (hl : XE K X l tl) : XIt K X tg l (aiTup tl) := by
  obtain ⟨t, p, q⟩ := hl
  refine ⟨_, MyK.pi_tup (K := K) hK p, ?_⟩
  intro θ ρ η σ H AQ Q R S h C
  refine q θ ρ η σ H _ _ R S h ?_
  rintro θ1 η1 H1 x v e1 R1 r1 ⟨xs, rfl, h1⟩
  cases r1 with
  | tup u hH r =>
    refine ⟨_, rfl, ⟨_, sqT hH⟩, C θ1 η1 H1 xs _ _ e1 R1 ?_ h1⟩
    refine walks_of walk_tup r.len.symm (fun θ' η' H' e R' _ => sqT (e.keep _ _ hH u)) fun θ' η' H' i v H2 e R' _ y => yat R' (r.ext e) y
theorem rngA_len (lo : Int) (n : Nat) : (rngA lo n).length = n := by simp [rngA]
theorem yrng {θ : Th} {H H2 : Hp} {η : Eta} {lo : Int} {n i : Nat} {v : V} (R : RelH K θ η H) (hi : i < n) (y : YFn (fun i => .int (lo + (i : Nat))) i H v H2) : ∃ x, (rngA lo n)[i]? = some x ∧ Ext θ H θ H2 ∧ RelH K θ η H2 ∧ Rep K θ H2 x v := by
  obtain ⟨rfl, rfl⟩ := y
  exact ⟨_, by simp [rngA, hi], .refl, R, .int⟩
theorem walks_rng {θ : Th} {H : Hp} {lo : Int} {n : Nat} : Walks K θ H (Itr lo n) (rngA lo n) (fun _ => True) := by
  intro θ' η' H' i e R st
  have w := walk_range (lo := lo) (n := n)
  refine ⟨fun c => ?_, ?_⟩
  · rw [rngA_len] at c
    exact ⟨w.goes i H' c trivial, fun v H2 y => yrng R c (w.yields i H' v H2 c trivial y)⟩
  · rintro rfl
    rw [rngA_len]
    exact w.stops H' trivial
theorem xi_range1 {a : Expr} {ta : AA} {p : Pos} (hg : Gl X "range") (hm : X.mg "range" = none) (ha : XA K X [a] ta) (hs : starEach [a] X.env = [(false, eval a X.env)] := by rfl) : XIt K X tg (.Call (.Name "range" p) [a] [] pos) (aiRng1 ta) := by
  obtain ⟨t, p1, q⟩ := ha
  refine ⟨_, pi_range1 hg hm p1 hs, ?_⟩
  intro θ ρ η σ H AQ Q R S h C
  refine q θ ρ η σ H _ _ R S h ?_
  rintro θ1 η1 H1 zs vs e1 R1 r1 ⟨j, rfl, b0, b1, h1⟩
  cases r1 with
  | cons r1 r2 =>
    cases r1
    cases r2
    exact ⟨j, rfl, b0, b1, C θ1 η1 H1 _ _ _ e1 R1 walks_rng h1⟩
theorem xi_range2 {a b : Expr} {ta : AA} {p : Pos} (hg : Gl X "range") (hm : X.mg "range" = none) (ha : XA K X [a, b] ta) (hs : starEach [a, b] X.env = [(false, eval a X.env), (false, eval b X.env)] := by rfl) (hs2 : starEach [b] X.env = [(false, eval b X.env)] := by rfl) :
    XIt K X tg (.Call (.Name "range" p) [a, b] [] pos) (aiRng2 ta) := by
  obtain ⟨t, p1, q⟩ := ha
  refine ⟨_, pi_range2 hg hm p1 hs hs2, ?_⟩
  intro θ ρ η σ H AQ Q R S h C
  refine q θ ρ η σ H _ _ R S h ?_
  rintro θ1 η1 H1 zs vs e1 R1 r1 ⟨i, j, rfl, b0, h1⟩
  cases r1 with
  | cons r1 r2 =>
    cases r2 with
    | cons r2 r3 =>
      cases r1
      cases r2
      cases r3
      exact ⟨i, j, rfl, b0, C θ1 η1 H1 _ _ _ e1 R1 walks_rng h1⟩
theorem zipA_get {xs ys : List AV} {i : Nat} {x y : AV} (h : xs[i]? = some x) (g : ys[i]? = some y) : (zipA xs ys)[i]? = some (.tup [x, y]) := by
  unfold zipA
  rw [List.getElem?_zipWith, h, g]
theorem ypair {θ : Th} {H H2 : Hp} {η : Eta} {f g : Nat → Option V} {i : Nat} {v : V} {x y : AV} (R : RelH K θ η H) (yy : YPair f g i H v H2) (hx : ∀ w, f i = some w → Rep K θ H x w) (hy : ∀ w, g i = some w → Rep K θ H y w) : Ext θ H θ H2 ∧ RelH K θ η H2 ∧ Rep K θ H2 (.tup [x, y]) v := by
  obtain ⟨T, a, b, rfl, hT, rfl, ea, eb⟩ := yy
  have e : Ext θ H θ (upd H T (.tup [a, b])) := ext_new hT
  exact ⟨e, R.new0 hT, .tup (R.untr hT) upd_same (.cons ((hx a ea).ext e) (.cons ((hy b eb).ext e) .nil))⟩
theorem xi_enum {e : Expr} {ta : AA} {p tpos : Pos} {elts : List Expr} {kk : Nat} (hK : X.K = K) (hg : Gl X "enumerate") (hm : X.mg "enumerate" = none) (ha : XA K X [e] ta) (hs : starEach [e] X.env = [(false, eval e X.env)] := by rfl) :
    XIt K X (.Tuple elts kk tpos) (.Call (.Name "enumerate" p) [e] [] pos) (aiEnum ta) := by
  obtain ⟨t, p1, q⟩ := ha
  refine ⟨_, MyK.pi_enum (K := K) hK hg hm p1 hs, ?_⟩
  intro θ ρ η σ H AQ Q R S h C
  refine q θ ρ η σ H _ _ R S h ?_
  rintro θ1 η1 H1 zs ws e1 R1 r1 ⟨x, xs, rfl, hx, h1⟩
  cases r1 with
  | cons r1 r2 =>
    cases r2
    obtain ⟨a, vs, rfl, hv, rv⟩ := hx.sq R1 r1
    refine ⟨a, vs, rfl, hv, C θ1 η1 H1 _ _ _ e1 R1 ?_ h1⟩
    intro θ' η' H' i e R' st
    obtain ⟨a', vs', e', hv', rv'⟩ := LstOf.sq st R' (r1.ext e)
    cases e'
    have w := walk_enum (K := K) (a := a) (xs := vs')
    have hl : (enumA xs).length = vs'.length := by unfold enumA; rw [List.length_mapIdx]; exact rv'.len
    refine ⟨fun c => ?_, ?_⟩
    · have c' : i < vs'.length := hl ▸ c
      refine ⟨w.goes i H' c' hv', fun v H2 y => ?_⟩
      have hx' : i < xs.length := by rw [rv'.len]; exact c'
      refine ⟨.tup [.int (i : Int), xs[i]], by unfold enumA; rw [List.getElem?_mapIdx, List.getElem?_eq_getElem hx']; rfl, ?_⟩
      refine ypair R' (w.yields i H' v H2 c' hv' y) (fun w hw => by cases hw; exact .int) fun w hw => ?_
      obtain ⟨z, hz, rz⟩ := rv'.back hw
      rw [List.getElem?_eq_getElem hx'] at hz
      cases hz
      exact rz
    · rintro rfl
      rw [hl]
      exact w.stops H' hv'
theorem xi_zip {elts : List Expr} {kk : Nat} {tpos p : Pos} {e e2 : Expr} {ta : AA} (hK : X.K = K) (hg : Gl X "zip") (hm : X.mg "zip" = none) (ha : XA K X [e, e2] ta)
    (hs : starEach [e, e2] X.env = (false, eval e X.env) :: starEach [e2] X.env := by rfl) (hpl : (backTo pos (starEach [e2] X.env)).any (·.1) = false := by rfl) : XIt K X (.Tuple elts kk tpos) (.Call (.Name "zip" p) [e, e2] [] pos) (aiZip ta) := by
  obtain ⟨t, p1, q⟩ := ha
  refine ⟨_, MyK.pi_zip (K := K) hK hg hm p1 hs hpl, ?_⟩
  intro θ ρ η σ H AQ Q R S h C
  refine q θ ρ η σ H _ _ R S h ?_
  rintro θ1 η1 H1 zs ws e1 R1 r1 ⟨x, y, xs, ys, rfl, h1⟩
  cases r1 with
  | cons r1 r2 =>
    cases r2 with
    | cons r2 r3 =>
      cases r3
      rcases h1 with ⟨hx, hy, h1⟩ | ⟨rfl, rfl, h1⟩
      · obtain ⟨a, vs, rfl, hv, rv⟩ := hx.sq R1 r1
        obtain ⟨b, us, rfl, hu, ru⟩ := hy.sq R1 r2
        refine ⟨a, b, vs, us, rfl, .inl ⟨hv, hu, C θ1 η1 H1 _ _ _ e1 R1 ?_ h1⟩⟩
        intro θ' η' H' i e R' st
        obtain ⟨a', vs', e', hv', rv'⟩ := LstOf.sq st.1 R' (r1.ext e)
        cases e'
        obtain ⟨b', us', e', hu', ru'⟩ := LstOf.sq st.2 R' (r2.ext e)
        cases e'
        have w := walk_zip (K := K) (a := a) (b := b) (xs := vs') (ys := us') rfl
        have hl : (zipA xs ys).length = min vs'.length us'.length := by unfold zipA; rw [List.length_zipWith, rv'.len, ru'.len]
        refine ⟨fun c => ?_, ?_⟩
        · have c' : i < min vs'.length us'.length := hl ▸ c
          refine ⟨w.goes i H' c' ⟨hv', hu'⟩, fun v H2 yy => ?_⟩
          have hx' : i < xs.length := by rw [rv'.len]; omega
          have hy' : i < ys.length := by rw [ru'.len]; omega
          refine ⟨.tup [xs[i], ys[i]], zipA_get (List.getElem?_eq_getElem hx') (List.getElem?_eq_getElem hy'), ?_⟩
          refine ypair R' (w.yields i H' v H2 c' ⟨hv', hu'⟩ yy) (fun w hw => ?_) fun w hw => ?_
          · obtain ⟨z, hz, rz⟩ := rv'.back hw
            rw [List.getElem?_eq_getElem hx'] at hz
            cases hz
            exact rz
          · obtain ⟨z, hz, rz⟩ := ru'.back hw
            rw [List.getElem?_eq_getElem hy'] at hz
            cases hz
            exact rz
        · rintro rfl
          rw [hl]
          exact w.stops H' ⟨hv', hu'⟩
      · cases r1 with
        | tup u1 k1 rv =>
          cases r2 with
          | tup u2 k2 ru =>
            refine ⟨_, _, _, _, rfl, .inr ⟨sqT k1, sqT k2, C θ1 η1 H1 _ _ _ e1 R1 ?_ h1⟩⟩
            rename_i a vs b us
            intro θ' η' H' i e R' st
            have hv' := sqT (K := K) (e.keep _ _ k1 u1)
            have hu' := sqT (K := K) (e.keep _ _ k2 u2)
            have rv' := rv.ext e
            have ru' := ru.ext e
            have w := walk_zipT (K := K) (a := a) (b := b) (xs := vs) (ys := us) rfl
            have hl : (zipA xs ys).length = min vs.length us.length := by unfold zipA; rw [List.length_zipWith, rv'.len, ru'.len]
            refine ⟨fun c => ?_, ?_⟩
            · have c' : i < min vs.length us.length := hl ▸ c
              refine ⟨w.goes i H' c' ⟨hv', hu'⟩, fun v H2 yy => ?_⟩
              have hx' : i < xs.length := by rw [rv'.len]; omega
              have hy' : i < ys.length := by rw [ru'.len]; omega
              refine ⟨.tup [xs[i], ys[i]], zipA_get (List.getElem?_eq_getElem hx') (List.getElem?_eq_getElem hy'), ?_⟩
              refine ypair R' (w.yields i H' v H2 c' ⟨hv', hu'⟩ yy) (fun w hw => ?_) fun w hw => ?_
              · obtain ⟨z, hz, rz⟩ := rv'.back hw
                rw [List.getElem?_eq_getElem hx'] at hz
                cases hz
                exact rz
              · obtain ⟨z, hz, rz⟩ := ru'.back hw
                rw [List.getElem?_eq_getElem hy'] at hz
                cases hz
                exact rz
            · rintro rfl
              rw [hl]
              exact w.stops H' ⟨hv', hu'⟩
end
end Ab

/-! the abstract layer: operations, built-ins, calls. -/
namespace Ab
open PySem PySem.Spec PyProof.Rows L2 MyB MyR MyD
/-! ### data -/
mutual
def dat : AV → PyData
  | .int i => .int i
  | .bl b => .bool b
  | .str x => .str x
  | .tup xs => .tuple (datL xs)
  | _ => .none
def datL : List AV → List PyData
  | [] => []
  | x :: xs => dat x :: datL xs
end
mutual
/-- plain data -/
inductive Pl : AV → Prop
  | int {i} : Pl (.int i)
  | bl {b} : Pl (.bl b)
  | str {x} : Pl (.str x)
  | non : Pl .non
  | tup {xs} : Pls xs → Pl (.tup xs)
inductive Pls : List AV → Prop
  | nil : Pls []
  | cons {x xs} : Pl x → Pls xs → Pls (x :: xs)
end
theorem Pls.map {α : Type} {f : α → AV} (h : ∀ a, Pl (f a)) : ∀ L : List α, Pls (L.map f)
  | [] => .nil
  | a :: L => .cons (h a) (Pls.map h L)
theorem datL_map {α : Type} (f : α → AV) : ∀ L : List α, datL (L.map f) = L.map fun a => dat (f a)
  | [] => rfl
  | a :: L => by rw [List.map_cons, datL, datL_map f L]; rfl
section
variable {K : KG} {θ : Th} {H : Hp} {η : Eta}
mutual
theorem Pl.dp {K : PySem.W.Frag} {x : AV} : ∀ {v : V}, Pl x → Rep K θ H x v → Dp K H v (dat x)
  | _, .int, .int => by rw [dat]; exact .int _
  | _, .bl, .bl => by rw [dat]; exact .bl _
  | _, .str, .str => by rw [dat]; exact .str _
  | _, .non, .non => by rw [dat]; exact .non; all_goals intros; contradiction
  | _, .tup p, .tup u h r => by rw [dat]; exact .tup (sqT h) (Pls.dp p r)
theorem Pls.dp {K : PySem.W.Frag} {xs : List AV} : ∀ {vs : List V}, Pls xs → Reps K θ H xs vs → DpAll K H vs (datL xs)
  | _, .nil, .nil => by rw [datL]; exact .nil
  | _, .cons p ps, .cons r rs => by rw [datL]; exact .cons (Pl.dp p r) (Pls.dp ps rs)
end
/-- a plain thing, or a list of such -/
inductive DatOf (η : Eta) : AV → PyData → Prop
  | pl {x} : Pl x → DatOf η x (dat x)
  | lst {x xs} : LstOf η x xs → Pls xs → DatOf η x (.list (datL xs))
theorem DatOf.dp {x : AV} {d : PyData} {v : V} (h : DatOf η x d) (R : RelH K θ η H) (r : Rep K θ H x v) : Dp K H v d := by
  cases h with
  | pl p => exact p.dp r
  | lst hx p =>
    obtain ⟨a, vs, rfl, hv, rv⟩ := hx.sq R r
    exact .lst hv (p.dp rv)
end
/-- the depth of data without texts, bounded -/
def Shp (d : PyData) (n : Nat) : Prop := d.canLay0 = true ∧ d.depth ≤ n
theorem Shp.ok {d : PyData} {n : Nat} (h : Shp d n) (hn : n ≤ 64 := by decide) : SeqAt.shaped d = true := by
  unfold SeqAt.shaped
  rw [h.1, decide_eq_true (Nat.le_trans h.2 hn)]
  rfl
theorem shp_int {i : Int} {n : Nat} : Shp (.int i) n := ⟨rfl, by simp [PyData.depth]⟩
theorem shp_bool {b : Bool} {n : Nat} : Shp (.bool b) n := ⟨rfl, by simp [PyData.depth]⟩
theorem shp_none {n : Nat} : Shp .none n := ⟨rfl, by simp [PyData.depth]⟩
theorem shp_all {n : Nat} : ∀ {ds : List PyData}, (∀ d ∈ ds, Shp d n) → PyData.canLayAll0 ds = true ∧ PyData.depthAll ds ≤ n
  | [], _ => ⟨rfl, by simp [PyData.depthAll]⟩
  | d :: ds, h => by
    obtain ⟨a, b⟩ := h d List.mem_cons_self
    obtain ⟨a', b'⟩ := shp_all (ds := ds) fun e he => h e (List.mem_cons_of_mem _ he)
    constructor
    · show (PyData.canLay0 d && PyData.canLayAll0 ds) = true
      rw [a, a']
      rfl
    · rw [PyData.depthAll]
      omega
theorem shp_tup {n : Nat} {ds : List PyData} (h : ∀ d ∈ ds, Shp d n) : Shp (.tuple ds) (n + 1) := by
  obtain ⟨a, b⟩ := shp_all h
  exact ⟨a, by rw [PyData.depth]; omega⟩
theorem shp_lst {n : Nat} {ds : List PyData} (h : ∀ d ∈ ds, Shp d n) : Shp (.list ds) (n + 1) := by
  obtain ⟨a, b⟩ := shp_all h
  exact ⟨a, by rw [PyData.depth]; omega⟩
mutual
/-- plain data without flags and texts -/
inductive Nm : AV → Prop
  | int {i} : Nm (.int i)
  | non : Nm .non
  | tup {xs} : Nms xs → Nm (.tup xs)
inductive Nms : List AV → Prop
  | nil : Nms []
  | cons {x xs} : Nm x → Nms xs → Nms (x :: xs)
end
theorem Nms.map {α : Type} {f : α → AV} (h : ∀ a, Nm (f a)) : ∀ L : List α, Nms (L.map f)
  | [] => .nil
  | a :: L => .cons (h a) (Nms.map h L)
mutual
theorem Nm.pl : ∀ {x : AV}, Nm x → Pl x
  | _, .int => .int
  | _, .non => .non
  | _, .tup h => .tup (Nms.pl h)
theorem Nms.pl : ∀ {xs : List AV}, Nms xs → Pls xs
  | _, .nil => .nil
  | _, .cons a b => .cons (Nm.pl a) (Nms.pl b)
end
mutual
theorem Nm.eqv : ∀ {x y : AV}, Nm x → Nm y → (PyData.eqv (dat x) (dat y) = true ↔ x = y)
  | _, _, .int, .int => by rw [dat, dat, PyData.eqv]; simp
  | _, _, .int, .non => by simp [dat, PyData.eqv]
  | _, _, .int, .tup _ => by simp [dat, PyData.eqv]
  | _, _, .non, .int => by simp [dat, PyData.eqv]
  | _, _, .non, .non => by simp [dat, PyData.eqv]
  | _, _, .non, .tup _ => by simp [dat, PyData.eqv]
  | _, _, .tup _, .int => by simp [dat, PyData.eqv]
  | _, _, .tup _, .non => by simp [dat, PyData.eqv]
  | _, _, .tup h, .tup g => by rw [dat, dat, PyData.eqv, Nms.eqv h g]; simp
theorem Nms.eqv : ∀ {x y : List AV}, Nms x → Nms y → (PyData.eqvAll (datL x) (datL y) = true ↔ x = y)
  | _, _, .nil, .nil => by simp [datL, PyData.eqvAll]
  | _, _, .nil, .cons _ _ => by simp [datL, PyData.eqvAll]
  | _, _, .cons _ _, .nil => by simp [datL, PyData.eqvAll]
  | _, _, .cons a b, .cons c d => by rw [datL, datL, PyData.eqvAll, Bool.and_eq_true, Nm.eqv a c, Nms.eqv b d]; simp
end
theorem eqv_dec {x y : AV} {p : Prop} [Decidable p] (hx : Nm x) (hy : Nm y) (h : x = y ↔ p) : PyData.eqv (dat x) (dat y) = decide p := by
  rw [Bool.eq_iff_iff, hx.eqv hy, h, decide_eq_true_iff]
/-! ### operations -/
def kII (g : Int → Int → Int) : AR2 := fun x y η Q => ∃ i j, x = .int i ∧ y = .int j ∧ Q (.int (g i j)) η
def kIC (C : Int → Int → Prop) (g : Int → Int → Int) : AR2 := fun x y η Q => ∃ i j, x = .int i ∧ y = .int j ∧ C i j ∧ Q (.int (g i j)) η
def kIB (p : Int → Int → Bool) : AR2 := fun x y η Q => ∃ i j, x = .int i ∧ y = .int j ∧ Q (.bl (p i j)) η
def kU (g : Int → Int) : AR1 := fun x η Q => ∃ i, x = .int i ∧ Q (.int (g i)) η
def eqS : AV → AV → Option Bool
  | .int i, .int j => some (decide (i = j))
  | .bl i, .bl j => some (i == j)
  | .str i, .str j => some (decide (i = j))
  | .non, .non => some true
  | .non, .int _ => some false
  | .int _, .non => some false
  | .non, .bl _ => some false
  | .bl _, .non => some false
  | .non, .str _ => some false
  | .str _, .non => some false
  | .int _, .str _ => some false
  | .str _, .int _ => some false
  | .bl _, .str _ => some false
  | .str _, .bl _ => some false
  | _, _ => none
def kEq : AR2 := fun x y η Q => ∃ b, eqS x y = some b ∧ Q (.bl b) η
def kNe : AR2 := fun x y η Q => ∃ b, eqS x y = some b ∧ Q (.bl (!b)) η
def isN : AV → Bool
  | .non => true
  | _ => false
def kIsN : AR2 := fun x y η Q => y = .non ∧ Q (.bl (isN x)) η
def kNotN : AR2 := fun x y η Q => y = .non ∧ Q (.bl (!isN x)) η
def kCatT : AR2 := fun x y η Q => ∃ xs ys, x = .tup xs ∧ y = .tup ys ∧ xs.length + ys.length ≤ 16000000 ∧ Q (.tup (xs ++ ys)) η
def kRepT : AR2 := fun x y η Q => ∃ xs k, x = .tup xs ∧ y = .int k ∧ xs ≠ [] ∧ 2 ≤ k ∧ k ≤ 1000 ∧ xs.length ≤ 1000 ∧ Q (.tup (List.replicate k.toNat xs).flatten) η
def kCatL : AR2 := fun x y η Q => ∃ n m xs ys, x = .rf n ∧ y = .rf m ∧ η n = some (.lst xs) ∧ η m = some (.lst ys) ∧ xs.length + ys.length ≤ 16000000 ∧ ∀ k, η k = none → Q (.rf k) (pt η k (.lst (xs ++ ys)))
def kRepL : AR2 := fun x y η Q => ∃ n k xs, x = .rf n ∧ y = .int k ∧ η n = some (.lst xs) ∧ -(2 ^ 63) ≤ k ∧ k < 2 ^ 63 ∧ xs.length * k.toNat ≤ 16000000 ∧ ∀ m, η m = none → Q (.rf m) (pt η m (.lst (List.replicate k.toNat xs).flatten))
def kLtT : AR2 := fun x y η Q => ∃ ns ms : List Int, x = .tup (ns.map .int) ∧ y = .tup (ms.map .int) ∧ Q (.bl (HT.lexLt ns ms)) η
def kEqD : AR2 := fun x y η Q => ∃ d e, DatOf η x d ∧ DatOf η y e ∧ SeqAt.shaped d = true ∧ SeqAt.shaped e = true ∧ Q (.bl (PyData.eqv d e)) η
def kNeD : AR2 := fun x y η Q => ∃ d e, DatOf η x d ∧ DatOf η y e ∧ SeqAt.shaped d = true ∧ SeqAt.shaped e = true ∧ Q (.bl (!PyData.eqv d e)) η
def kIxT : AR2 := fun x y η Q => ∃ xs i z, x = .tup xs ∧ y = .int i ∧ atI xs i = some z ∧ Q z η
def kIxL : AR2 := fun x y η Q => ∃ xs i z, LstOf η x xs ∧ y = .int i ∧ atI xs i = some z ∧ Q z η
/-- an int among ints -/
def kInI (neg : Bool) : AR2 := fun x y η Q => ∃ (n : Int) (ns : List Int), x = .int n ∧ (LstOf η y (ns.map .int) ∨ y = .tup (ns.map .int)) ∧ Q (.bl (if neg then !decide (n ∈ ns) else decide (n ∈ ns))) η
section
variable {K : KG} {X : Cx}
theorem ab_II {g : Int → Int → Int} : Ab2 K (kII g) (rI0 fun i j => .int (g i j)) := by
  rintro θ η H x y v u AQ Q R r1 r2 ⟨i, j, rfl, rfl, q⟩ C
  cases r1; cases r2
  exact ⟨i, j, rfl, rfl, C θ η H _ _ .refl R .int q⟩
theorem ab_IC {C : Int → Int → Prop} {g : Int → Int → Int} : Ab2 K (kIC C g) (rI C fun i j => .int (g i j)) := by
  rintro θ η H x y v u AQ Q R r1 r2 ⟨i, j, rfl, rfl, c, q⟩ C
  cases r1; cases r2
  exact ⟨i, j, rfl, rfl, c, C θ η H _ _ .refl R .int q⟩
theorem ab_IB {p : Int → Int → Bool} : Ab2 K (kIB p) (rI0 fun i j => .bl (p i j)) := by
  rintro θ η H x y v u AQ Q R r1 r2 ⟨i, j, rfl, rfl, q⟩ C
  cases r1; cases r2
  exact ⟨i, j, rfl, rfl, C θ η H _ _ .refl R .bl q⟩
theorem xo_add : XO K X (binaryOp .Add) (kII fun i j => i + j) := ⟨_, op_add, ab_II⟩
theorem xo_sub : XO K X (binaryOp .Sub) (kII fun i j => i - j) := ⟨_, op_sub, ab_II⟩
theorem xo_mul : XO K X (binaryOp .Mult) (kIC CMul fun i j => i * j) := ⟨_, op_mul, ab_IC⟩
theorem xo_mulW : XO K X (binaryOp .Mult) (kIC CMulW fun i j => i * j) := ⟨_, op_mulW, ab_IC⟩
theorem xo_fdiv : XO K X (binaryOp .FloorDiv) (kIC CDiv fun i j => i / j) := ⟨_, op_fdiv, ab_IC⟩
theorem xo_fdivW : XO K X (binaryOp .FloorDiv) (kIC CDivW fun i j => i / j) := ⟨_, op_fdivW, ab_IC⟩
theorem xo_mod : XO K X (binaryOp .Mod) (kIC (fun _ j => 0 < j) fun i j => i % j) := ⟨_, op_mod, ab_IC⟩
theorem xo_pow : XO K X (binaryOp .Pow) (kIC CPow fun i j => i ^ j.toNat) := ⟨_, op_pow, ab_IC⟩
theorem xo_lt : XO K X (compareOp .Lt) (kIB fun i j => decide (i < j)) := ⟨_, op_lt, ab_IB⟩
theorem xo_le : XO K X (compareOp .LtE) (kIB fun i j => decide (i ≤ j)) := ⟨_, op_le, ab_IB⟩
theorem xo_gt : XO K X (compareOp .Gt) (kIB fun i j => decide (j < i)) := ⟨_, op_gt, ab_IB⟩
theorem xo_ge : XO K X (compareOp .GtE) (kIB fun i j => decide (j ≤ i)) := ⟨_, op_ge, ab_IB⟩
theorem xu_neg : XU K X (unaryOp .USub) (kU fun i => -i) := by
  refine ⟨_, un_neg, ?_⟩
  rintro θ η H x v AQ Q R r1 ⟨i, rfl, q⟩ C
  cases r1
  exact ⟨i, rfl, C θ η H _ _ .refl R .int q⟩
theorem eqS_scal {θ : Th} {H : Hp} {x y : AV} {v u : V} {b : Bool} (r1 : Rep K θ H x v) (r2 : Rep K θ H y u) (h : eqS x y = some b) : scal v u = true ∧ decide (v = u) = b := by
  cases r1 <;> cases r2 <;> simp only [eqS, Option.some.injEq, reduceCtorEq] at h <;> first | (subst h; exact ⟨rfl, dec_bl⟩) | (subst h; exact ⟨rfl, by simp⟩) | skip
theorem xo_eq : XO K X (compareOp .Eq) kEq := by
  refine ⟨_, op_eq, ?_⟩
  rintro θ η H x y v u AQ Q R r1 r2 ⟨b, e, q⟩ C
  obtain ⟨h1, h2⟩ := eqS_scal r1 r2 e
  exact ⟨h1, by rw [h2]; exact C θ η H _ _ .refl R .bl q⟩
theorem xo_ne : XO K X (compareOp .NotEq) kNe := by
  refine ⟨_, op_ne, ?_⟩
  rintro θ η H x y v u AQ Q R r1 r2 ⟨b, e, q⟩ C
  obtain ⟨h1, h2⟩ := eqS_scal r1 r2 e
  exact ⟨h1, by rw [h2]; exact C θ η H _ _ .refl R .bl q⟩
theorem isN_of {θ : Th} {H : Hp} {x : AV} {v : V} (r : Rep K θ H x v) : decide (v = .non) = isN x := by
  cases r <;> rfl
theorem xo_isN : XO K X (compareOp .Is) kIsN := by
  refine ⟨_, op_isN, ?_⟩
  rintro θ η H x y v u AQ Q R r1 r2 ⟨rfl, q⟩ C
  cases r2
  exact ⟨rfl, by rw [isN_of r1]; exact C θ η H _ _ .refl R .bl q⟩
theorem xo_notN : XO K X (compareOp .IsNot) kNotN := by
  refine ⟨_, op_notN, ?_⟩
  rintro θ η H x y v u AQ Q R r1 r2 ⟨rfl, q⟩ C
  cases r2
  exact ⟨rfl, by rw [isN_of r1]; exact C θ η H _ _ .refl R .bl q⟩
def rCatT0 (K : PySem.W.Frag) : R2 := fun x y H Q => ∃ a b ys, x = .ref a ∧ y = .ref b ∧ SqT K H a [] ∧ SqT K H b ys ∧ Q (.ref b) H
theorem op_catT0 : OpR X (binaryOp .Add) (rCatT0 X.K) := by
  intro pins s σ H x y v u Q I rx ry h
  obtain ⟨a, b, ys, rfl, rfl, ha, hb, q⟩ := h
  cases rx
  cases ry
  obtain ⟨its, r1, p1, _⟩ := I.tuple ha
  obtain ⟨its2, r2, p2, _⟩ := I.tuple hb
  cases r1
  obtain ⟨⟨cls, dd, data, sl⟩, ho, hc, n, hd⟩ := id p1
  obtain ⟨⟨cls2, dd2, data2, sl2⟩, ho2, hc2, n2, hd2⟩ := id p2
  simp only at hc hd hc2 hd2
  subst hc hd hc2 hd2
  exact concat_meets ⟨_, ho, rfl⟩ ⟨_, ho2, rfl⟩ noFill_tuple_add seq_tuple_add PySem.F.slot_tuple_add PySem.F.entry_tuple_add (PySem.F.args_tuple_add_2 _ _)
    (tuple_addW0 a b _ its2.toArray n n2 dd dd2 sl sl2 (by simp)) ⟨ho, ho2, ⟨.ref b, H, I, rfl, q⟩⟩
theorem xo_catT (hK : X.K = K) : XO K X (binaryOp .Add) kCatT := by
  refine ⟨fun x y H Q => rCatT K x y H Q ∨ rCatT0 K x y H Q, ?_, ?_⟩
  · rintro pins s σ H x y v u Q I rx ry (h | h)
    · exact MyK.op_catT (K := K) hK pins s σ H x y v u Q I rx ry h
    · obtain ⟨K, Gg, mn⟩ := K; have hK : X.K = K := hK; subst hK
      exact op_catT0 pins s σ H x y v u Q I rx ry h
  rintro θ η H x y v u AQ Q R r1 r2 ⟨xs, ys, rfl, rfl, hl, q⟩ C
  by_cases nx : xs = []
  · subst nx
    cases r1 with
    | tup u1 h1 r1 =>
      cases r1
      cases r2 with
      | tup u2 h2 r2 => exact .inr ⟨_, _, _, rfl, rfl, sqT h1, sqT h2, C θ η H _ _ .refl R (.tup u2 h2 r2) q⟩
  left
  cases r1 with
  | tup u1 h1 r1 =>
    cases r2 with
    | tup u2 h2 r2 =>
      refine ⟨_, _, _, _, rfl, rfl, sqT h1, sqT h2, fun z => nx ?_, szl (by rw [← r1.len, ← r2.len]; exact hl), fun z => ?_, fun z p hp => ?_⟩
      · cases r1 with
        | nil => rfl
        | cons a b => cases z
      · subst z
        cases r2
        refine C θ η H _ _ .refl R (.tup u1 h1 ?_) q
        rw [List.append_nil]
        exact r1
      · exact C θ η _ _ _ (ext_new hp) (R.new0 hp) (.tup (R.untr hp) upd_same ((r1.ext (ext_new hp)).app (r2.ext (ext_new hp)))) q
theorem reps_flat {θ : Th} {H : Hp} {xs : List AV} {vs : List V} (r : Reps K θ H xs vs) : ∀ n : Nat, Reps K θ H (List.replicate n xs).flatten (List.replicate n vs).flatten
  | 0 => .nil
  | n + 1 => by
    rw [List.replicate_succ, List.replicate_succ, List.flatten_cons, List.flatten_cons]
    exact r.app (reps_flat r n)
theorem xo_repT (hK : X.K = K) : XO K X (binaryOp .Mult) kRepT := by
  refine ⟨rRepT K, by obtain ⟨K, Gg, mn⟩ := K; have hK : X.K = K := hK; subst hK; exact op_repT, ?_⟩
  rintro θ η H x y v u AQ Q R r1 r2 ⟨xs, k, rfl, rfl, nx, k1, k2, hl, q⟩ C
  cases r2
  cases r1 with
  | tup u1 h1 r1 =>
    refine ⟨_, k, _, rfl, rfl, sqT h1, fun z => nx ?_, k1, k2, by rw [← r1.len]; exact hl, fun p hp => ?_⟩
    · cases r1 with
      | nil => rfl
      | cons a b => cases z
    · exact C θ η _ _ _ (ext_new hp) (R.new0 hp) (.tup (R.untr hp) upd_same (reps_flat (r1.ext (ext_new hp)) _)) q
theorem xo_catL : XO K X (binaryOp .Add) kCatL := by
  refine ⟨_, op_cat, ?_⟩
  rintro θ η H x y v u AQ Q R r1 r2 ⟨n, m, xs, ys, rfl, rfl, hn, hm, hl, q⟩ C
  cases r1 with
  | rf h1 =>
    cases r2 with
    | rf h2 =>
      obtain ⟨a, e1, vs, k1, w1⟩ := R.at n _ hn
      obtain ⟨b, e2, us, k2, w2⟩ := R.at m _ hm
      rw [h1] at e1; cases e1
      rw [h2] at e2; cases e2
      exact ⟨_, _, vs, us, rfl, rfl, k1, k2, szl (by rw [← w1.len, ← w2.len]; exact hl), fun p hp => new_lst R hp (w1.app w2) C q⟩
theorem xo_repL : XO K X (binaryOp .Mult) kRepL := by
  refine ⟨_, op_rep, ?_⟩
  rintro θ η H x y v u AQ Q R r1 r2 ⟨n, k, xs, rfl, rfl, hn, k1, k2, hl, q⟩ C
  cases r2
  cases r1 with
  | rf h1 =>
    obtain ⟨a, e1, vs, h, w1⟩ := R.at n _ hn
    rw [h1] at e1; cases e1
    exact ⟨_, k, vs, rfl, rfl, h, k1, k2, szl (by rw [← w1.len]; exact hl), fun p hp => new_lst R hp (reps_flat w1 _) C q⟩
theorem xo_ltT (hK : X.K = K) (hu : X.A.units < cLine) : XO K X (compareOp .Lt) kLtT := by
  refine ⟨_, MyK.op_ltT (K := K) hK hu, ?_⟩
  rintro θ η H x y v u AQ Q R r1 r2 ⟨ns, ms, rfl, rfl, q⟩ C
  cases r1 with
  | tup u1 h1 r1 =>
    cases r2 with
    | tup u2 h2 r2 =>
      rw [r1.ints] at h1
      rw [r2.ints] at h2
      exact ⟨_, _, ns, ms, rfl, rfl, sqT h1, sqT h2, C θ η H _ _ .refl R .bl q⟩
theorem xo_eqD (hK : X.K = K) (hu : X.A.units + 64 < cLine) : XO K X (compareOp .Eq) kEqD := by
  refine ⟨_, MyK.op_eqD (K := K) hK hu, ?_⟩
  rintro θ η H x y v u AQ Q R r1 r2 ⟨d, e, h1, h2, s1, s2, q⟩ C
  exact ⟨d, e, h1.dp R r1, h2.dp R r2, s1, s2, C θ η H _ _ .refl R .bl q⟩
theorem xo_neD (hK : X.K = K) (hu : X.A.units + 64 < cLine) : XO K X (compareOp .NotEq) kNeD := by
  refine ⟨_, MyK.op_neD (K := K) hK hu, ?_⟩
  rintro θ η H x y v u AQ Q R r1 r2 ⟨d, e, h1, h2, s1, s2, q⟩ C
  exact ⟨d, e, h1.dp R r1, h2.dp R r2, s1, s2, C θ η H _ _ .refl R .bl q⟩
theorem ixN_len {n m : Nat} (h : n = m) (i : Int) : ixN n i = ixN m i := by rw [h]
theorem reps_atI {θ : Th} {H : Hp} {xs : List AV} {vs : List V} (r : Reps K θ H xs vs) {i : Int} {z : AV} (h : atI xs i = some z) : ∃ w, atI vs i = some w ∧ Rep K θ H z w := by
  unfold atI at h ⊢
  rw [r.len] at h
  cases e : ixN vs.length i with
  | none => rw [e] at h; cases h
  | some j =>
    rw [e] at h
    exact r.at (show xs[j]? = some z from h)
theorem xi_tupIx (hK : X.K = K) : XI K X kIxT := by
  refine ⟨_, MyK.ix_tup (K := K) hK, ?_⟩
  rintro θ η H x y v u AQ Q R r1 r2 ⟨xs, i, z, rfl, rfl, e, q⟩ C
  cases r2
  cases r1 with
  | tup u1 h1 r1 =>
    obtain ⟨w, hw, rw'⟩ := reps_atI r1 e
    exact ⟨_, _, i, w, rfl, rfl, sqT h1, hw, C θ η H _ _ .refl R rw' q⟩
theorem xi_lstIx (hK : X.K = K) : XI K X kIxL := by
  refine ⟨_, MyK.ix_list (K := K) hK, ?_⟩
  rintro θ η H x y v u AQ Q R r1 r2 ⟨xs, i, z, hx, rfl, e, q⟩ C
  cases r2
  obtain ⟨a, vs, rfl, hv, rv⟩ := hx.sq R r1
  obtain ⟨w, hw, rw'⟩ := reps_atI rv e
  exact ⟨_, _, i, w, rfl, rfl, hv, hw, C θ η H _ _ .refl R rw' q⟩
theorem inV_ints (n : Int) : ∀ ns : List Int, inV (.int n) (ns.map V.int) = decide (n ∈ ns)
  | [] => rfl
  | m :: ns => by
    have h := inV_ints n ns
    unfold inV at h ⊢
    rw [List.map_cons, List.any_cons, h]
    have e : eqV (.int m) (.int n) = decide (n = m) := by
      show (m == n) = decide (n = m)
      rw [Bool.eq_iff_iff, beq_iff_eq, decide_eq_true_iff]
      exact eq_comm
    rw [e, Bool.eq_iff_iff]
    simp
theorem flat_ints : ∀ ns : List Int, (ns.map V.int).all flatV = true
  | [] => rfl
  | n :: ns => by rw [List.map_cons, List.all_cons, flat_ints ns]; rfl
theorem ab_InI (neg : Bool) : Ab2 K (kInI neg) (rIn K neg) := by
  rintro θ η H x y v u AQ Q R r1 r2 ⟨n, ns, rfl, hy, q⟩ C
  cases r1
  have fin : ∀ vs : List V, Reps K θ H (ns.map AV.int) vs → flatV (.int n) = true ∧ vs.all flatV = true ∧ Q (.bl (if neg then !inV (.int n) vs else inV (.int n) vs)) H := by
    intro vs r
    rw [r.ints]
    exact ⟨rfl, flat_ints ns, by rw [inV_ints]; exact C θ η H _ _ .refl R .bl q⟩
  rcases hy with hy | rfl
  · obtain ⟨a, vs, rfl, hv, rv⟩ := hy.sq R r2
    exact ⟨a, vs, rfl, .inl hv, fin vs rv⟩
  · cases r2 with
    | tup u1 h1 r2 => exact ⟨_, _, rfl, .inr (sqT h1), fin _ r2⟩
theorem xo_inI (hK : X.K = K) : XO K X (compareOp .In) (kInI false) := ⟨rIn K false, by obtain ⟨K, Gg, mn⟩ := K; have hK : X.K = K := hK; subst hK; exact op_in_seq, ab_InI false⟩
theorem xo_notInI (hK : X.K = K) : XO K X (compareOp .NotIn) (kInI true) := ⟨rIn K true, by obtain ⟨K, Gg, mn⟩ := K; have hK : X.K = K := hK; subst hK; exact op_notIn_seq, ab_InI true⟩
end
/-! ### built-in functions -/
def kLen : ARn := fun xs η Q => ∃ x ys, xs = [x] ∧ (LstOf η x ys ∨ x = .tup ys) ∧ Q (.int ys.length) η
def kAbs : ARn := fun xs η Q => ∃ i, xs = [.int i] ∧ Q (.int (if i < 0 then -i else i)) η
def kInt : ARn := fun xs η Q => (∃ i, xs = [.int i] ∧ Q (.int i) η) ∨ ∃ k, xs = [.bl k] ∧ Q (.int (if k = true then 1 else 0)) η
def kBool : ARn := fun xs η Q => (∃ i : Int, xs = [.int i] ∧ Q (.bl (i != 0)) η) ∨ ∃ k, xs = [.bl k] ∧ Q (.bl k) η
def kMax : ARn := fun xs η Q => ∃ i j, xs = [.int i, .int j] ∧ Q (.int (max i j)) η
def kMin : ARn := fun xs η Q => ∃ i j, xs = [.int i, .int j] ∧ Q (.int (min i j)) η
def kMax3 : ARn := fun xs η Q => ∃ i j k, xs = [.int i, .int j, .int k] ∧ Q (.int (max (max i j) k)) η
def kSum : ARn := fun xs η Q => ∃ (x : AV) (ns : List Int), xs = [x] ∧ LstOf η x (ns.map AV.int) ∧ Q (.int ns.sum) η
def kSumT : ARn := fun xs η Q => ∃ ns : List Int, xs = [.tup (ns.map AV.int)] ∧ Q (.int ns.sum) η
def kAll : ARn := fun xs η Q => ∃ (x : AV) (bs : List Bool), xs = [x] ∧ LstOf η x (bs.map AV.bl) ∧ Q (.bl (bs.all id)) η
def kAny : ARn := fun xs η Q => ∃ (x : AV) (bs : List Bool), xs = [x] ∧ LstOf η x (bs.map AV.bl) ∧ Q (.bl (bs.any id)) η
def kTup : ARn := fun xs η Q => ∃ x ys, xs = [x] ∧ (LstOf η x ys ∨ x = .tup ys) ∧ Q (.tup ys) η
def kList : ARn := fun xs η Q => ∃ x ys, xs = [x] ∧ (LstOf η x ys ∨ x = .tup ys) ∧ ∀ n, η n = none → Q (.rf n) (pt η n (.lst ys))
def tI (ns : List Int) : AV := .tup (ns.map AV.int)
/-- sorted, a list of tuples of ints -/
def kSortT : ARn := fun xs η Q => ∃ (x : AV) (Ls : List (List Int)), xs = [x] ∧ LstOf η x (Ls.map tI) ∧ (∀ l ∈ Ls, l ≠ []) ∧ ∀ Ms : List (List Int), Ms.Pairwise (fun a b => MyS.ltL b a = false) → Ms.Perm Ls → ∀ n, η n = none → Q (.rf n) (pt η n (.lst (Ms.map tI)))
inductive TyA (K : PySem.W.Frag) (η : Eta) : AV → Value → Prop
  | non : TyA K η .non (.type "NoneType")
  | bl {b} : TyA K η (.bl b) (.type "bool")
  | int {i} : TyA K η (.int i) (.type "int")
  | str {x} : TyA K η (.str x) (.type "str")
  | tup {xs} : TyA K η (.tup xs) (.type "tuple")
  | lst {n xs} : η n = some (.lst xs) → TyA K η (.rf n) (.type "list")
  | dK {n xs} : η n = some (.dK xs) → TyA K η (.rf n) (.type "dict")
  | dT {n xs} : η n = some (.dT xs) → TyA K η (.rf n) (.type "dict")
  | ob {C fs} : C8.InsC K C → TyA K η (.ob C fs) (.ref C)
  | ins {n C fs} : η n = some (.ins C fs) → C8.InsC K C → TyA K η (.rf n) (.ref C)
inductive ClsA : AV → Value → Prop
  | ty {n} : ClsA (.ty n) (.type n)
  | own {C} : ClsA (.gl C) (.ref C)
def kIsi (K : PySem.W.Frag) : ARn := fun xs η Q => ∃ x c t u b, xs = [x, c] ∧ ClsA c u ∧ TyA K η x t ∧ PySem.W.kitOne K t u = some b ∧ Q (.bl b) η
section
variable {K : KG} {X : Cx}
theorem seq_rep {θ : Th} {H : Hp} {η : Eta} {x : AV} {v : V} {ys : List AV} (h : LstOf η x ys ∨ x = .tup ys) (R : RelH K θ η H) (r : Rep K θ H x v) : ∃ p vs, v = .ref p ∧ (SqL K H p vs ∨ SqT K H p vs) ∧ Reps K θ H ys vs := by
  rcases h with h | rfl
  · obtain ⟨a, vs, rfl, hv, rv⟩ := h.sq R r
    exact ⟨a, vs, rfl, .inl hv, rv⟩
  · cases r with
    | tup u1 h1 r => exact ⟨_, _, rfl, .inr (sqT h1), r⟩
theorem reps1 {K : PySem.W.Frag} {θ : Th} {H : Hp} {x : AV} {vs : List V} (r : Reps K θ H [x] vs) : ∃ v, vs = [v] ∧ Rep K θ H x v := by
  cases r with | cons a b => cases b; exact ⟨_, rfl, a⟩
theorem reps2 {K : PySem.W.Frag} {θ : Th} {H : Hp} {x y : AV} {vs : List V} (r : Reps K θ H [x, y] vs) : ∃ v w, vs = [v, w] ∧ Rep K θ H x v ∧ Rep K θ H y w := by
  cases r with | cons a b => cases b with | cons b c => cases c; exact ⟨_, _, rfl, a, b⟩
theorem reps3 {K : PySem.W.Frag} {θ : Th} {H : Hp} {x y z : AV} {vs : List V} (r : Reps K θ H [x, y, z] vs) : ∃ v w u, vs = [v, w, u] ∧ Rep K θ H x v ∧ Rep K θ H y w ∧ Rep K θ H z u := by
  cases r with | cons a b => cases b with | cons b c => cases c with | cons c d => cases d; exact ⟨_, _, _, rfl, a, b, c⟩
theorem xc_len (hK : X.K = K) : XC K X (.builtin "len") kLen := by
  refine ⟨_, MyK.q_len (K := K) hK, ?_⟩
  rintro θ η H xs vs AQ Q R r ⟨x, ys, rfl, hx, q⟩ C
  obtain ⟨v, rfl, r1⟩ := reps1 r
  obtain ⟨p, us, rfl, hu, ru⟩ := seq_rep hx R r1
  exact ⟨p, us, rfl, hu, by rw [← ru.len]; exact C θ η H _ _ .refl R .int q⟩
theorem xc_abs : XC K X (.builtin "abs") kAbs := by
  refine ⟨_, q_abs, ?_⟩
  rintro θ η H xs vs AQ Q R r ⟨i, rfl, q⟩ C
  obtain ⟨v, rfl, r1⟩ := reps1 r
  cases r1
  exact ⟨i, rfl, C θ η H _ _ .refl R .int q⟩
theorem xc_int : XC K X (.type "int") kInt := by
  refine ⟨_, q_int, ?_⟩
  rintro θ η H xs vs AQ Q R r h C
  rcases h with ⟨i, rfl, q⟩ | ⟨i, rfl, q⟩
  · obtain ⟨v, rfl, r1⟩ := reps1 r
    cases r1
    exact .inl ⟨i, rfl, C θ η H _ _ .refl R .int q⟩
  · obtain ⟨v, rfl, r1⟩ := reps1 r
    cases r1
    exact .inr ⟨i, rfl, C θ η H _ _ .refl R .int q⟩
theorem xc_bool : XC K X (.type "bool") kBool := by
  refine ⟨_, call_bool1, ?_⟩
  rintro θ η H xs vs AQ Q R r h C
  rcases h with ⟨i, rfl, q⟩ | ⟨i, rfl, q⟩
  · obtain ⟨v, rfl, r1⟩ := reps1 r
    cases r1
    exact .inl ⟨i, rfl, C θ η H _ _ .refl R .bl q⟩
  · obtain ⟨v, rfl, r1⟩ := reps1 r
    cases r1
    exact .inr ⟨i, rfl, C θ η H _ _ .refl R .bl q⟩
theorem xc_max (hc : X.calm = true) : XC K X (.builtin "max") kMax := by
  refine ⟨_, q_max hc, ?_⟩
  rintro θ η H xs vs AQ Q R r ⟨i, j, rfl, q⟩ C
  obtain ⟨v, w, rfl, r1, r2⟩ := reps2 r
  cases r1; cases r2
  exact r_max (C θ η H _ _ .refl R .int q)
theorem xc_min (hc : X.calm = true) : XC K X (.builtin "min") kMin := by
  refine ⟨_, q_min hc, ?_⟩
  rintro θ η H xs vs AQ Q R r ⟨i, j, rfl, q⟩ C
  obtain ⟨v, w, rfl, r1, r2⟩ := reps2 r
  cases r1; cases r2
  exact r_min (C θ η H _ _ .refl R .int q)
theorem xc_max3 (hc : X.calm = true) : XC K X (.builtin "max") kMax3 := by
  refine ⟨_, MyK.q_max3 hc, ?_⟩
  rintro θ η H xs vs AQ Q R r ⟨i, j, k, rfl, q⟩ C
  obtain ⟨v, w, u, rfl, r1, r2, r3⟩ := reps3 r
  cases r1; cases r2; cases r3
  exact ⟨i, j, k, rfl, C θ η H _ _ .refl R .int q⟩
theorem xc_sum (hK : X.K = K) (hc : X.calm = true) : XC K X (.builtin "sum") kSum := by
  refine ⟨_, MyK.cr_sum (K := K) hK hc, ?_⟩
  rintro θ η H xs vs AQ Q R r ⟨x, ns, rfl, hx, q⟩ C
  obtain ⟨v, rfl, r1⟩ := reps1 r
  obtain ⟨a, us, rfl, hu, ru⟩ := hx.sq R r1
  rw [ru.ints] at hu
  exact ⟨a, ns, rfl, hu, C θ η H _ _ .refl R .int q⟩
theorem xc_sumT (hK : X.K = K) (hc : X.calm = true) : XC K X (.builtin "sum") kSumT := by
  refine ⟨_, MyK.cr_sumT (K := K) hK hc, ?_⟩
  rintro θ η H xs vs AQ Q R r ⟨ns, rfl, q⟩ C
  obtain ⟨v, rfl, r1⟩ := reps1 r
  cases r1 with
  | tup u1 h1 r1 =>
    rw [r1.ints] at h1
    exact ⟨_, ns, rfl, sqT h1, C θ η H _ _ .refl R .int q⟩
theorem xc_all (hK : X.K = K) (hc : X.calm = true) : XC K X (.builtin "all") kAll := by
  refine ⟨_, MyK.cr_all (K := K) hK hc, ?_⟩
  rintro θ η H xs vs AQ Q R r ⟨x, ns, rfl, hx, q⟩ C
  obtain ⟨v, rfl, r1⟩ := reps1 r
  obtain ⟨a, us, rfl, hu, ru⟩ := hx.sq R r1
  rw [ru.bools] at hu
  exact ⟨a, ns, rfl, hu, C θ η H _ _ .refl R .bl q⟩
theorem xc_any (hK : X.K = K) (hc : X.calm = true) : XC K X (.builtin "any") kAny := by
  refine ⟨_, MyK.cr_any (K := K) hK hc, ?_⟩
  rintro θ η H xs vs AQ Q R r ⟨x, ns, rfl, hx, q⟩ C
  obtain ⟨v, rfl, r1⟩ := reps1 r
  obtain ⟨a, us, rfl, hu, ru⟩ := hx.sq R r1
  rw [ru.bools] at hu
  exact ⟨a, ns, rfl, hu, C θ η H _ _ .refl R .bl q⟩
theorem xc_tup (hK : X.K = K) : XC K X (.type "tuple") kTup := by
  refine ⟨_, MyK.q_tup (K := K) hK, ?_⟩
  rintro θ η H xs vs AQ Q R r ⟨x, ys, rfl, hx, q⟩ C
  obtain ⟨v, rfl, r1⟩ := reps1 r
  rcases hx with hx | rfl
  · obtain ⟨a, us, rfl, hu, ru⟩ := hx.sq R r1
    exact ⟨a, us, rfl, .inl ⟨hu, fun l hl => C θ η _ _ _ (ext_new hl) (R.new0 hl) (.tup (R.untr hl) upd_same (ru.ext (ext_new hl))) q⟩⟩
  · cases r1 with
    | tup u1 h1 r1 => exact ⟨_, _, rfl, .inr ⟨sqT h1, C θ η H _ _ .refl R (.tup u1 h1 r1) q⟩⟩
theorem xc_list (hK : X.K = K) : XC K X (.type "list") kList := by
  refine ⟨_, call_list_of, ?_⟩
  rintro θ η H xs vs AQ Q R r ⟨x, ys, rfl, hx, q⟩ C
  obtain ⟨K, Gg, mn⟩ := K; have hK : X.K = K := hK; subst hK
  obtain ⟨v, rfl, r1⟩ := reps1 r
  obtain ⟨p, us, rfl, hu, ru⟩ := seq_rep hx R r1
  exact ⟨p, us, rfl, hu, fun l hl => new_lst R hl ru C q⟩
theorem reps_perm {θ : Th} {H : Hp} {Ls : List (List Int)} {vs ws : List V} (r : Reps K θ H (Ls.map tI) vs) (p : ws.Perm vs) : (ws.map (kH H)).Perm Ls ∧ Reps K θ H ((ws.map (kH H)).map tI) ws ∧ vs.map (kH H) = Ls := by
  have one : ∀ {l : List Int} {v : V}, Rep K θ H (tI l) v → kH H v = l := by
    intro l v h
    cases h with
    | tup u h r =>
      rw [r.ints] at h
      exact kH_at h
  have hv : vs.map (kH H) = Ls := by
    clear p
    induction Ls generalizing vs with
    | nil => cases r; rfl
    | cons l Ls ih => cases r with | cons a b => rw [List.map_cons, one a, ih b]
  refine ⟨hv ▸ p.map _, ?_, hv⟩
  have all : ∀ w ∈ ws, Rep K θ H (tI (kH H w)) w := by
    intro w hw
    obtain ⟨i, hi⟩ := List.getElem?_of_mem (p.mem_iff.mp hw)
    obtain ⟨x, hx, rx⟩ := r.back hi
    rw [List.getElem?_map] at hx
    obtain ⟨l, _, rfl⟩ := Option.map_eq_some_iff.mp hx
    rw [one rx]
    exact rx
  clear p
  induction ws with
  | nil => exact .nil
  | cons w ws ih => exact .cons (all w List.mem_cons_self) (ih fun z hz => all z (List.mem_cons_of_mem _ hz))
theorem xc_sortT (hK : X.K = K) : XC K X (.builtin "sorted") kSortT := by
  refine ⟨_, MyK.cr_sortedTI (K := K) hK, ?_⟩
  rintro θ η H xs vs AQ Q R r ⟨x, Ls, rfl, hx, hne, q⟩ C
  obtain ⟨v, rfl, r1⟩ := reps1 r
  obtain ⟨a, us, rfl, hu, ru⟩ := hx.sq R r1
  refine ⟨a, us, kH H, rfl, hu, fun y hy => ?_, fun ws p hs hp hn => ?_⟩
  · obtain ⟨i, hi⟩ := List.getElem?_of_mem hy
    obtain ⟨z, hz, rz⟩ := ru.back hi
    rw [List.getElem?_map] at hz
    obtain ⟨l, hl, rfl⟩ := Option.map_eq_some_iff.mp hz
    cases rz with
    | tup u h r =>
      rw [r.ints] at h
      rw [kH_at h]
      exact ⟨hne l (List.mem_of_getElem? hl), _, rfl, h⟩
  · obtain ⟨h1, h2, _⟩ := reps_perm ru hp
    exact new_lst R hn h2 C (q _ (List.pairwise_map.mpr hs) h1)
theorem TyA.ty {θ : Th} {H : Hp} {η : Eta} {x : AV} {v : V} {t : Value} (h : TyA K η x t) (R : RelH K θ η H) (r : Rep K θ H x v) : TyX K H v t := by
  cases h with
  | non => cases r; exact .base .non
  | bl => cases r; exact .base (.bl _)
  | int => cases r; exact .base (.int _)
  | str => cases r; exact .base (.str _)
  | tup => cases r with | tup u h r => exact .base (.tup h)
  | lst e =>
    cases r with
    | rf h =>
      obtain ⟨a, e1, vs, q, _⟩ := R.at _ _ e
      rw [h] at e1; cases e1
      exact .base (.lst q)
  | dK e =>
    cases r with
    | rf h =>
      obtain ⟨a, e1, vs, q, _⟩ := R.at _ _ e
      rw [h] at e1; cases e1
      exact .base (.dK q)
  | dT e =>
    cases r with
    | rf h =>
      obtain ⟨a, e1, vs, q, _⟩ := R.at _ _ e
      rw [h] at e1; cases e1
      exact .base (.dT q)
  | ob c => cases r with | ob u h r => exact .base (.ins h c.cl c.ha c.hn c.htk c.hm)
  | ins e c =>
    cases r with
    | rf h =>
      obtain ⟨a, e1, dx, gs, q, _⟩ := R.at _ _ e
      rw [h] at e1; cases e1
      exact .base (.ins q c.cl c.ha c.hn c.htk c.hm)
theorem xc_isi (hK : X.K = K) : XC K X (.builtin "isinstance") (kIsi K) := by
  refine ⟨_, MyK.call_isi (K := K) hK, ?_⟩
  rintro θ η H xs vs AQ Q R r ⟨x, c, t, u, b, rfl, hc, ht, hk, q⟩ C
  obtain ⟨v, w, rfl, r1, r2⟩ := reps2 r
  refine ⟨v, w, t, u, b, rfl, ?_, ht.ty R r1, hk, C θ η H _ _ .refl R .bl q⟩
  cases hc with
  | ty => cases r2; exact .ty _
  | own => cases r2; exact .own _
end
end Ab

/-! the abstract layer: dicts, slices, methods, defs. -/
namespace Ab
open PySem PySem.Spec PyProof.Rows L2 MyB MyR MyD
/-! ### dicts -/
def kA : Key → AV
  | .inl i => .int i
  | .inr x => .str x
def valA {κ α : Type} [DecidableEq κ] (kvs : List (κ × α)) (k : κ) : Option α := (kvs.find? fun kv => decide (kv.1 = k)).map (·.2)
/-- what stands under a key -/
def GetD (η : Eta) (o i : AV) (r : Option AV) : Prop := ∃ n, o = .rf n ∧ ((∃ kvs k, (η n = some (.dK kvs) ∨ ∃ od u, η n = some (.fz (.dK kvs) od u)) ∧ i = kA k ∧ r = valA kvs k) ∨
  ∃ kvs k, (η n = some (.dT kvs) ∨ ∃ od u, η n = some (.fz (.dT kvs) od u)) ∧ i = .tup (k.map kA) ∧ r = valA kvs k)
def IsDA (η : Eta) (o : AV) : Prop := ∃ n, o = .rf n ∧ ((∃ kvs, η n = some (.dK kvs) ∨ ∃ od u, η n = some (.fz (.dK kvs) od u)) ∨ ∃ kvs, η n = some (.dT kvs) ∨ ∃ od u, η n = some (.fz (.dT kvs) od u))
def kSetD : ATSet := fun o i x η Q => ∃ n, o = .rf n ∧ ((∃ kvs k, η n = some (.dK kvs) ∧ i = kA k ∧ kvs.length < 16000000 ∧ Q (pt η n (.dK (putA kvs k x)))) ∨
  ∃ kvs k, η n = some (.dT kvs) ∧ i = .tup (k.map kA) ∧ kvs.length < 16000000 ∧ Q (pt η n (.dT (putA kvs k x))))
def kSetL : ATSet := fun o i x η Q => ∃ n xs k j, o = .rf n ∧ i = .int k ∧ η n = some (.lst xs) ∧ ixN xs.length k = some j ∧ Q (pt η n (.lst (xs.set j x)))
def aDGet (td ti : AE) : AE := fun ρ η Q => td ρ η fun o η1 => ti ρ η1 fun i η2 => ∃ x, GetD η2 o i (some x) ∧ Q x η2
def aDIn (neg : Bool) (ti td : AE) : AE := fun ρ η Q => ti ρ η fun i η1 => td ρ η1 fun o η2 => ∃ r, GetD η2 o i r ∧ Q (.bl (if neg then !r.isSome else r.isSome)) η2
def aDGet2 (td ti tx : AE) : AE := fun ρ η Q => td ρ η fun o η1 => IsDA η1 o ∧ ti ρ η1 fun i η2 => tx ρ η2 fun z η3 => ∃ r, GetD η3 o i r ∧ Q (r.getD z) η3
/-- while d is locked -/
def aLockE (ta : AE) : AE := fun ρ η Q => ∃ n o, η n = some o ∧ ((∃ kvs, o = .dK kvs) ∨ ∃ kvs, o = .dT kvs) ∧ ∀ od u, ta ρ (pt η n (.fz o od u)) fun x η' => η' n = some (.fz o od u) ∧ Q x (pt η' n o)
def asLock (t : AS) : AS := fun D ρ η => ∃ n o, η n = some o ∧ ((∃ kvs, o = .dK kvs) ∨ ∃ kvs, o = .dT kvs) ∧ ∀ od u, t ⟨fun ρ' η' => η' n = some (.fz o od u) ∧ D.nx ρ' (pt η' n o), fun x η' => η' n = some (.fz o od u) ∧ D.rt x (pt η' n o),
  fun ρ' η' => η' n = some (.fz o od u) ∧ D.bk ρ' (pt η' n o), fun ρ' η' => η' n = some (.fz o od u) ∧ D.ct ρ' (pt η' n o)⟩ ρ (pt η n (.fz o od u))
/-- the keys of a locked dict -/
def aiKeys (td : AE) : AI := fun ρ η R => td ρ η fun x η1 => ∃ n od u, x = .rf n ∧ ((∃ kvs, η1 n = some (.fz (.dK kvs) od u) ∧ R (kvs.map fun kv => kA kv.1) (fun η => η n = some (.fz (.dK kvs) od u)) η1) ∨
  ∃ kvs, η1 n = some (.fz (.dT kvs) od u) ∧ R (kvs.map fun kv => .tup (kv.1.map kA)) (fun η => η n = some (.fz (.dT kvs) od u)) η1)
section
variable {K : KG} {X : Cx} {θ : Th} {H : Hp} {η : Eta} {pos : Pos}
theorem rep_kA {k : Key} {v : V} (r : Rep K θ H (kA k) v) : v = kV k := by
  cases k <;> (cases r; rfl)
theorem reps_kA : ∀ {ks : List Key} {vs : List V}, Reps K θ H (ks.map kA) vs → vs = ks.map kV
  | [], _, .nil => rfl
  | k :: ks, _, .cons a b => by rw [rep_kA a, reps_kA b]; rfl
theorem kA_rep {k : Key} : Rep K θ H (kA k) (kV k) := by
  cases k
  · exact .int
  · exact .str
theorem kA_reps : ∀ {ks : List Key}, Reps K θ H (ks.map kA) (ks.map kV)
  | [] => .nil
  | k :: ks => .cons kA_rep kA_reps
theorem RepK.get {K : PySem.W.Frag} {κ : Type} [DecidableEq κ] {xs : List (κ × AV)} {vs : List (κ × V)} (h : RepK K θ H xs vs) (k : κ) : (valA xs k = none ∧ valV vs k = none) ∨ ∃ x v, valA xs k = some x ∧ valV vs k = some v ∧ Rep K θ H x v := by
  induction h with
  | nil => exact .inl ⟨rfl, rfl⟩
  | @cons k' x v xs vs a b ih =>
    unfold valA valV
    rw [List.find?_cons, List.find?_cons]
    by_cases c : k' = k
    · subst c
      rw [decide_eq_true rfl]
      exact .inr ⟨x, v, rfl, rfl, a⟩
    · rw [decide_eq_false c]
      exact ih
theorem RepK.any {K : PySem.W.Frag} {κ : Type} [DecidableEq κ] {xs : List (κ × AV)} {vs : List (κ × V)} (h : RepK K θ H xs vs) (k : κ) : (xs.any fun kv => decide (kv.1 = k)) = vs.any fun kv => decide (kv.1 = k) := by
  induction h with
  | nil => rfl
  | cons a b ih => rw [List.any_cons, List.any_cons, ih]
theorem RepK.len {K : PySem.W.Frag} {κ : Type} {xs : List (κ × AV)} {vs : List (κ × V)} (h : RepK K θ H xs vs) : xs.length = vs.length := by
  induction h with
  | nil => rfl
  | cons a b ih => rw [List.length_cons, List.length_cons, ih]
theorem RepK.put {K : PySem.W.Frag} {κ : Type} [DecidableEq κ] {xs : List (κ × AV)} {vs : List (κ × V)} (h : RepK K θ H xs vs) {k : κ} {x : AV} {v : V} (r : Rep K θ H x v) : RepK K θ H (putA xs k x) (putK vs k v) := by
  have m : RepK K θ H (xs.map fun kv => if kv.1 = k then (kv.1, x) else kv) (vs.map fun kv => if kv.1 = k then (kv.1, v) else kv) := by
    induction h with
    | nil => exact .nil
    | @cons k' y w xs vs a b ih =>
      rw [List.map_cons, List.map_cons]
      by_cases c : k' = k
      · rw [if_pos c, if_pos c]
        exact .cons r ih
      · rw [if_neg c, if_neg c]
        exact .cons a ih
  have s : RepK K θ H (xs ++ [(k, x)]) (vs ++ [(k, v)]) := by
    clear m
    induction h with
    | nil => exact .cons r .nil
    | cons a b ih => exact .cons a ih
  unfold putA putK
  rw [h.any k]
  split
  · exact m
  · exact s
theorem RepK.at {K : PySem.W.Frag} {κ : Type} {xs : List (κ × AV)} {vs : List (κ × V)} (h : RepK K θ H xs vs) {i : Nat} {k : κ} {v : V} (e : vs[i]? = some (k, v)) : ∃ x, xs[i]? = some (k, x) ∧ Rep K θ H x v := by
  induction h generalizing i with
  | nil => simp at e
  | cons a b ih =>
    cases i with
    | zero => simp at e; obtain ⟨rfl, rfl⟩ := e; exact ⟨_, rfl, a⟩
    | succ i => simpa using ih (by simpa using e)
theorem xe_dct : XE K X (.Dict [] [] pos) aDct := ⟨_, pe_dnewK, fun θ ρ η σ H AQ Q R S q C p hp => new_dK R hp .nil C q⟩
theorem xe_dctT : XE K X (.Dict [] [] pos) aDctT := ⟨_, pe_dnewT, fun θ ρ η σ H AQ Q R S q C p hp => new_dT R hp .nil C q⟩
theorem GetD.dg {o i : AV} {r : Option AV} {ov iv : V} (h : GetD η o i r) (R : RelH K θ η H) (ro : Rep K θ H o ov) (ri : Rep K θ H i iv) : ∃ a s, ov = .ref a ∧ DGet H a iv s ∧ ((r = none ∧ s = none) ∨ ∃ x v, r = some x ∧ s = some v ∧ Rep K θ H x v) := by
  obtain ⟨n, rfl, h⟩ := h
  cases ro with
  | rf hn =>
    rename_i a
    rcases h with ⟨kvs, k, hd, rfl, rfl⟩ | ⟨kvs, k, hd, rfl, rfl⟩
    · have e := rep_kA ri
      have : ∃ vs, Rd H a (.dK vs) ∧ RepK K θ H kvs vs := by
        rcases hd with hd | ⟨od, u, hd⟩
        · obtain ⟨a', e', vs, q, w⟩ := R.at n _ hd
          rw [hn] at e'; cases e'
          exact ⟨vs, .inl q, w⟩
        · obtain ⟨a', e', vs, _, q, w⟩ := R.at n _ hd
          rw [hn] at e'; cases e'
          exact ⟨vs, .inr ⟨_, q⟩, w⟩
      obtain ⟨vs, rd, w⟩ := this
      exact ⟨a, _, rfl, .inl ⟨vs, k, rd, e, rfl⟩, w.get k⟩
    · cases ri with
      | tup u hb rb =>
        rename_i b ws
        have e := reps_kA rb
        subst e
        have : ∃ vs, Rd H a (.dT vs) ∧ RepK K θ H kvs vs := by
          rcases hd with hd | ⟨od, u, hd⟩
          · obtain ⟨a', e', vs, q, w⟩ := R.at n _ hd
            rw [hn] at e'; cases e'
            exact ⟨vs, .inl q, w⟩
          · obtain ⟨a', e', vs, _, q, w⟩ := R.at n _ hd
            rw [hn] at e'; cases e'
            exact ⟨vs, .inr ⟨_, q⟩, w⟩
        obtain ⟨vs, rd, w⟩ := this
        exact ⟨a, _, rfl, .inr ⟨vs, k, b, rd, rfl, hb, rfl⟩, w.get k⟩
variable {td ti tx ta : AE} {o i e f : Expr}
theorem xe_dget (hu : X.A.units + 1 < cLine) (ho : XE K X o td) (hi : XE K X i ti) (hs : NoSl i) : XE K X (.Subscript o i pos) (aDGet td ti) := by
  obtain ⟨t1, p1, q1⟩ := ho
  obtain ⟨t2, p2, q2⟩ := hi
  refine ⟨_, pe_dget hu p1 p2 hs, ?_⟩
  intro θ ρ η σ H AQ Q R S h C
  refine q1 θ ρ η σ H _ _ R S h ?_
  intro θ1 η1 H1 o ov e1 R1 r1 h1
  refine q2 θ1 ρ η1 σ H1 _ _ R1 (S.ext e1) h1 ?_
  rintro θ2 η2 H2 i iv e2 R2 r2 ⟨x, g, h2⟩
  obtain ⟨a, s, rfl, dg, z⟩ := g.dg R2 (r1.ext e2) r2
  rcases z with ⟨z, _⟩ | ⟨x', v, z, rfl, rx⟩
  · cases z
  · cases z
    exact ⟨a, v, rfl, dg, C θ2 η2 H2 _ _ (e1.trans e2) R2 rx h2⟩
theorem xe_dget2 {apos cpos : Pos} (hu : X.A.units + 1 < cLine) (ho : XE K X o td) (he : XE K X e ti) (hf : XE K X f tx) (m : M2 X o "get" apos e f cpos) : XE K X (.Call (.Attribute o "get" apos) [e, f] [] cpos) (aDGet2 td ti tx) := by
  obtain ⟨t1, p1, q1⟩ := ho
  obtain ⟨t2, p2, q2⟩ := he
  obtain ⟨t3, p3, q3⟩ := hf
  refine ⟨_, pe_dget2 hu p1 p2 p3 m, ?_⟩
  intro θ ρ η σ H AQ Q R S h C
  refine q1 θ ρ η σ H _ _ R S h ?_
  rintro θ1 η1 H1 o ov e1 R1 r1 ⟨hd, h1⟩
  have isd : ∃ a, ov = .ref a ∧ IsD H1 a := by
    obtain ⟨n, rfl, hd⟩ := hd
    cases r1 with
    | rf hn =>
      refine ⟨_, rfl, ?_⟩
      rcases hd with ⟨kvs, hd | ⟨od, u, hd⟩⟩ | ⟨kvs, hd | ⟨od, u, hd⟩⟩
      · obtain ⟨a', e', vs, q, w⟩ := R1.at n _ hd
        rw [hn] at e'; cases e'
        exact .inl ⟨_, .inl q⟩
      · obtain ⟨a', e', vs, _, q, w⟩ := R1.at n _ hd
        rw [hn] at e'; cases e'
        exact .inl ⟨_, .inr ⟨_, q⟩⟩
      · obtain ⟨a', e', vs, q, w⟩ := R1.at n _ hd
        rw [hn] at e'; cases e'
        exact .inr ⟨_, .inl q⟩
      · obtain ⟨a', e', vs, _, q, w⟩ := R1.at n _ hd
        rw [hn] at e'; cases e'
        exact .inr ⟨_, .inr ⟨_, q⟩⟩
  obtain ⟨a, rfl, isd⟩ := isd
  refine ⟨a, rfl, isd, q2 θ1 ρ η1 σ H1 _ _ R1 (S.ext e1) h1 ?_⟩
  intro θ2 η2 H2 i iv e2 R2 r2 h2
  refine q3 θ2 ρ η2 σ H2 _ _ R2 (S.ext (e1.trans e2)) h2 ?_
  rintro θ3 η3 H3 z zv e3 R3 r3 ⟨r, g, h3⟩
  obtain ⟨a', s, ea, dg, zz⟩ := g.dg R3 (r1.ext (e2.trans e3)) (r2.ext e3)
  cases ea
  rcases zz with ⟨rfl, rfl⟩ | ⟨x', v, rfl, rfl, rx⟩
  · exact ⟨none, dg, C θ3 η3 H3 _ _ (e1.trans (e2.trans e3)) R3 r3 h3⟩
  · exact ⟨some v, dg, C θ3 η3 H3 _ _ (e1.trans (e2.trans e3)) R3 rx h3⟩
theorem ab_DIn {neg : Bool} {t1 t2 : TE} (q1 : AbE K ti t1) (q2 : AbE K td t2) : AbE K (aDIn neg ti td) (fun σ H Q => t1 σ H fun y H1 => t2 σ H1 fun x H2 => ∃ a o, x = .ref a ∧ DGet H2 a y o ∧ Q (.bl (if neg then !o.isSome else o.isSome)) H2) := by
  intro θ ρ η σ H AQ Q R S h C
  refine q1 θ ρ η σ H _ _ R S h ?_
  intro θ1 η1 H1 i iv e1 R1 r1 h1
  refine q2 θ1 ρ η1 σ H1 _ _ R1 (S.ext e1) h1 ?_
  rintro θ2 η2 H2 o ov e2 R2 r2 ⟨r, g, h2⟩
  obtain ⟨a, s, rfl, dg, z⟩ := g.dg R2 r2 (r1.ext e2)
  refine ⟨a, s, rfl, dg, ?_⟩
  have e : s.isSome = r.isSome := by
    rcases z with ⟨rfl, rfl⟩ | ⟨x', v, rfl, rfl, rx⟩ <;> rfl
  rw [e]
  exact C θ2 η2 H2 _ _ (e1.trans e2) R2 .bl h2
theorem xt_din (hu : X.A.units + 1 < cLine) (hi : XE K X i ti) (ho : XE K X o td) (h1 : behindInMarks .In o = false) : XT K X (.Compare i [.In] [o] pos) (aTest (aDIn false ti td)) := by
  obtain ⟨t1, p1, q1⟩ := hi
  obtain ⟨t2, p2, q2⟩ := ho
  exact ⟨_, pt_cmp (pc_din hu p1 p2) h1, (ab_DIn (neg := false) q1 q2).tst⟩
theorem xt_dnotin (hu : X.A.units + 1 < cLine) (hi : XE K X i ti) (ho : XE K X o td) (h1 : behindInMarks .NotIn o = false) : XT K X (.Compare i [.NotIn] [o] pos) (aTest (aDIn true ti td)) := by
  obtain ⟨t1, p1, q1⟩ := hi
  obtain ⟨t2, p2, q2⟩ := ho
  exact ⟨_, pt_cmp (pc_dnotin hu p1 p2) h1, (ab_DIn (neg := true) q1 q2).tst⟩
theorem xe_din (hu : X.A.units + 1 < cLine) (hi : XE K X i ti) (ho : XE K X o td) (h1 : behindInMarks .In o = false) : XE K X (.Compare i [.In] [o] pos) (aDIn false ti td) := by
  obtain ⟨t1, p1, q1⟩ := hi
  obtain ⟨t2, p2, q2⟩ := ho
  exact ⟨_, pe_cmp (pc_din hu p1 p2) h1, ab_DIn (neg := false) q1 q2⟩
theorem xset_list : XSet K X kSetL := by
  refine ⟨_, set_list, ?_⟩
  rintro θ η H o ov i iv x v AQ Q R ro ri rx ⟨n, xs, k, j, rfl, rfl, hn, hj, q⟩ C
  cases ri
  cases ro with
  | rf h =>
    obtain ⟨a, e, vs, hv, rv⟩ := R.at n _ hn
    rw [h] at e; cases e
    have R2 := R.put (o := .lst (xs.set j x)) (v := .lst (vs.set j v)) h hv ⟨_, upd_same, (rv.set rx).ext (ext_at R h hv)⟩
    exact ⟨_, vs, k, j, rfl, rfl, hv, by rw [← rv.len]; exact hj, C θ _ _ (ext_at R h hv) R2 q⟩
theorem xset_dict (hu : X.A.units + 1 < cLine) : XSet K X kSetD := by
  refine ⟨_, set_dict hu, ?_⟩
  rintro θ η H o ov i iv x v AQ Q R ro ri rx ⟨n, rfl, q⟩ C
  cases ro with
  | rf h =>
    rename_i a
    rcases q with ⟨kvs, k, hn, rfl, hl, q⟩ | ⟨kvs, k, hn, rfl, hl, q⟩
    · obtain ⟨a', e, vs, hv, rv⟩ := R.at n _ hn
      rw [h] at e; cases e
      have R2 := R.put (o := .dK (putA kvs k x)) (v := .dK (putK vs k v)) h hv ⟨_, upd_same, (rv.put rx).ext (ext_at R h hv)⟩
      exact ⟨a, _, rfl, .inl ⟨vs, k, hv, rep_kA ri, szlt (by rw [← rv.len]; exact hl), rfl⟩, C θ _ _ (ext_at R h hv) R2 q⟩
    · obtain ⟨a', e, vs, hv, rv⟩ := R.at n _ hn
      rw [h] at e; cases e
      cases ri with
      | tup u hb rb =>
        have e := reps_kA rb
        subst e
        have R2 := R.put (o := .dT (putA kvs k x)) (v := .dT (putK vs k v)) h hv ⟨_, upd_same, (rv.put rx).ext (ext_at R h hv)⟩
        exact ⟨a, _, rfl, .inr ⟨vs, k, _, hv, rfl, hb, szlt (by rw [← rv.len]; exact hl), rfl⟩, C θ _ _ (ext_at R h hv) R2 q⟩
/-! locks -/
theorem lock_in {n : Nat} {o : AO} (R : RelH K θ η H) (hn : η n = some o) (ho : (∃ kvs, o = .dK kvs) ∨ ∃ kvs, o = .dT kvs) : ∃ d u, θ n = some d ∧ H d = some u ∧ Mut (some u) ∧ ∀ od, RelH K θ (pt η n (.fz o od u)) (upd H d (.frz od u)) ∧ Ext θ H θ (upd H d (.frz od u)) := by
  obtain ⟨d, hd, w⟩ := R.at n o hn
  rcases ho with ⟨kvs, rfl⟩ | ⟨kvs, rfl⟩
  · obtain ⟨vs, q, r⟩ := w
    exact ⟨d, _, hd, q, trivial, fun od => ⟨R.put hd q ⟨vs, rfl, upd_same, r.ext (ext_at R hd q)⟩, ext_at R hd q⟩⟩
  · obtain ⟨vs, q, r⟩ := w
    exact ⟨d, _, hd, q, trivial, fun od => ⟨R.put hd q ⟨vs, rfl, upd_same, r.ext (ext_at R hd q)⟩, ext_at R hd q⟩⟩
theorem lock_out {n : Nat} {o : AO} {od : Obj} {u : HO} {d : Addr} (R : RelH K θ η H) (hn : η n = some (.fz o od u)) (hd : θ n = some d) (ho : (∃ kvs, o = .dK kvs) ∨ ∃ kvs, o = .dT kvs) : H d = some (.frz od u) ∧ RelH K θ (pt η n o) (upd H d u) ∧ Ext θ H θ (upd H d u) := by
  obtain ⟨d', hd', w⟩ := R.at n _ hn
  rw [hd] at hd'; cases hd'
  rcases ho with ⟨kvs, rfl⟩ | ⟨kvs, rfl⟩
  · obtain ⟨vs, rfl, q, r⟩ := w
    exact ⟨q, R.put hd q ⟨vs, upd_same, r.ext (ext_at R hd q)⟩, ext_at R hd q⟩
  · obtain ⟨vs, rfl, q, r⟩ := w
    exact ⟨q, R.put hd q ⟨vs, upd_same, r.ext (ext_at R hd q)⟩, ext_at R hd q⟩
theorem xe_lock (h : XE K X e ta) : XE K X e (aLockE ta) := by
  obtain ⟨t, p, q⟩ := h
  refine ⟨_, pe_lock p, ?_⟩
  rintro θ ρ η σ H AQ Q R S ⟨n, o, hn, ho, h⟩ C
  obtain ⟨d, u, hd, hu, mu, w⟩ := lock_in R hn ho
  refine ⟨d, u, hu, mu, fun od => ?_⟩
  refine q θ ρ _ σ _ _ _ (w od).1 (S.ext (w od).2) (h od u) ?_
  rintro θ1 η1 H1 x v e1 R1 r1 ⟨hn1, h1⟩
  obtain ⟨k1, k2, k3⟩ := lock_out R1 hn1 (e1.mono _ _ hd) ho
  exact ⟨k1, C θ1 _ _ _ _ ((w od).2.trans (e1.trans k3)) k2 (r1.ext k3) h1⟩
theorem xs_lock {st : Stmt} {t : AS} (h : XS K X st t) : XS K X st (asLock t) := by
  obtain ⟨t1, p, q⟩ := h
  refine ⟨_, ps_lock p, ?_⟩
  rintro θ ρ η σ H A D R S ⟨n, o, hn, ho, h⟩ C
  obtain ⟨d, u, hd, hu, mu, w⟩ := lock_in R hn ho
  refine ⟨d, u, hu, mu, fun od => ?_⟩
  refine q θ ρ _ σ _ _ _ (w od).1 (S.ext (w od).2) (h od u) ⟨?_, ?_, ?_, ?_⟩
  · rintro θ1 η1 H1 x v e1 R1 r1 ⟨hn1, h1⟩
    obtain ⟨k1, k2, k3⟩ := lock_out R1 hn1 (e1.mono _ _ hd) ho
    exact ⟨k1, C.nx θ1 _ _ _ _ ((w od).2.trans (e1.trans k3)) k2 (r1.ext k3) h1⟩
  · rintro θ1 η1 H1 x v e1 R1 r1 ⟨hn1, h1⟩
    obtain ⟨k1, k2, k3⟩ := lock_out R1 hn1 (e1.mono _ _ hd) ho
    exact ⟨k1, C.rt θ1 _ _ _ _ ((w od).2.trans (e1.trans k3)) k2 (r1.ext k3) h1⟩
  · rintro θ1 η1 H1 x v e1 R1 r1 ⟨hn1, h1⟩
    obtain ⟨k1, k2, k3⟩ := lock_out R1 hn1 (e1.mono _ _ hd) ho
    exact ⟨k1, C.bk θ1 _ _ _ _ ((w od).2.trans (e1.trans k3)) k2 (r1.ext k3) h1⟩
  · rintro θ1 η1 H1 x v e1 R1 r1 ⟨hn1, h1⟩
    obtain ⟨k1, k2, k3⟩ := lock_out R1 hn1 (e1.mono _ _ hd) ho
    exact ⟨k1, C.ct θ1 _ _ _ _ ((w od).2.trans (e1.trans k3)) k2 (r1.ext k3) h1⟩
theorem xi_keys {tg : Expr} (he : XE K X e td) : XIt K X tg e (aiKeys td) := by
  obtain ⟨t, p, q⟩ := he
  refine ⟨_, pi_keys p, ?_⟩
  intro θ ρ η σ H AQ Q R S h C
  refine q θ ρ η σ H _ _ R S h ?_
  rintro θ1 η1 H1 x v e1 R1 r1 ⟨n, od, u, rfl, h1⟩
  cases r1 with
  | rf hn =>
    rename_i d
    refine ⟨d, od, rfl, ?_⟩
    rcases h1 with ⟨kvs, hd, h1⟩ | ⟨kvs, hd, h1⟩
    · obtain ⟨d', e', vs, rfl, hv, rv⟩ := R1.at n _ hd
      rw [hn] at e'; cases e'
      refine .inl ⟨vs, hv, C θ1 η1 H1 _ _ _ e1 R1 ?_ h1⟩
      have at' : ∀ θ' η' H', Ext θ1 H1 θ' H' → RelH K θ' η' H' → η' n = some (.fz (.dK kvs) od (.dK vs)) → H' d = some (.frz od (.dK vs)) ∧ RepK K θ' H' kvs vs := by
        intro θ' η' H' e R' st
        obtain ⟨d', e', vs', z, hv', rv'⟩ := R'.at n _ st
        rw [e.mono _ _ hn] at e'; cases e'
        cases z
        exact ⟨hv', rv'⟩
      refine walks_of walk_keys (by rw [List.length_map]; exact rv.len.symm) (fun θ' η' H' e R' st => (at' θ' η' H' e R' st).1) ?_
      rintro θ' η' H' i v H2 e R' st ⟨rfl, k, w, hi, rfl⟩
      obtain ⟨x, hx, rx⟩ := (at' θ' η' H2 e R' st).2.at hi
      exact ⟨kA k, by rw [List.getElem?_map, hx]; rfl, .refl, R', kA_rep⟩
    · obtain ⟨d', e', vs, rfl, hv, rv⟩ := R1.at n _ hd
      rw [hn] at e'; cases e'
      refine .inr ⟨vs, hv, C θ1 η1 H1 _ _ _ e1 R1 ?_ h1⟩
      have at' : ∀ θ' η' H', Ext θ1 H1 θ' H' → RelH K θ' η' H' → η' n = some (.fz (.dT kvs) od (.dT vs)) → H' d = some (.frz od (.dT vs)) ∧ RepK K θ' H' kvs vs := by
        intro θ' η' H' e R' st
        obtain ⟨d', e', vs', z, hv', rv'⟩ := R'.at n _ st
        rw [e.mono _ _ hn] at e'; cases e'
        cases z
        exact ⟨hv', rv'⟩
      refine walks_of walk_keysT (by rw [List.length_map]; exact rv.len.symm) (fun θ' η' H' e R' st => (at' θ' η' H' e R' st).1) ?_
      rintro θ' η' H' i v H2 e R' st ⟨rfl, k, w, q', hi, rfl, hq⟩
      obtain ⟨x, hx, rx⟩ := (at' θ' η' H2 e R' st).2.at hi
      exact ⟨.tup (k.map kA), by rw [List.getElem?_map, hx]; rfl, .refl, R', .tup (R'.untrT hq) hq kA_reps⟩
end
/-! ### slices -/
abbrev AO1 := Sta → Eta → (Option Int → Eta → Prop) → Prop
def AbO (K : KG) (a : AO1) (t : TO) : Prop := ∀ θ ρ η σ H AQ Q, RelH K θ η H → Rst K θ H ρ σ → a ρ η AQ → Cg K (fun _ _ (a b : Option Int) => a = b) θ H AQ Q → t σ H Q
def XPo (K : KG) (X : Cx) (e : Option Expr) (a : AO1) : Prop := ∃ t, PO X e t ∧ AbO K a t
def aNoPart : AO1 := fun _ η Q => Q none η
def aPart (te : AE) : AO1 := fun ρ η Q => te ρ η fun x η1 => ∃ i, x = .int i ∧ Q (some i) η1
def cutA (xs : List AV) (lo hi : Option Int) : List AV := (xs.drop (HT.sIx xs.length 0 lo)).take (HT.sIx xs.length xs.length hi - HT.sIx xs.length 0 lo)
abbrev AR3 := AV → Option Int → Option Int → Eta → AK → Prop
def kSlT : AR3 := fun x lo hi η Q => ∃ xs, x = .tup xs ∧ Q (.tup (cutA xs lo hi)) η
def kSlL : AR3 := fun x lo hi η Q => ∃ xs, LstOf η x xs ∧ ∀ n, η n = none → Q (.rf n) (pt η n (.lst (cutA xs lo hi)))
def aSl (r : AR3) (te : AE) (tl th : AO1) : AE := fun ρ η Q => te ρ η fun x η1 => tl ρ η1 fun l η2 => th ρ η2 fun u η3 => r x l u η3 Q
def XSl (K : KG) (X : Cx) (r : AR3) : Prop := ∃ t, SlR X t ∧ ∀ θ η H x v lo hi AQ Q, RelH K θ η H → Rep K θ H x v → r x lo hi η AQ → Cg K (Rep K) θ H AQ Q → t v lo hi H Q
def aRevL (te : AE) : AE := fun ρ η Q => te ρ η fun x η1 => ∃ xs, LstOf η1 x xs ∧ ∀ n, η1 n = none → Q (.rf n) (pt η1 n (.lst xs.reverse))
section
variable {K : KG} {X : Cx} {e : Expr} {te : AE} {pos : Pos}
theorem xpo_none : XPo K X none aNoPart := ⟨_, po_none, fun θ ρ η σ H AQ Q R S q C => C θ η H _ _ .refl R rfl q⟩
theorem xpo_some (h : XE K X e te) : XPo K X (some e) (aPart te) := by
  obtain ⟨t, p, q⟩ := h
  refine ⟨_, po_some p, ?_⟩
  intro θ ρ η σ H AQ Q R S h C
  refine q θ ρ η σ H _ _ R S h ?_
  rintro θ1 η1 H1 x v e1 R1 r1 ⟨i, rfl, h1⟩
  cases r1
  exact ⟨i, rfl, C θ1 η1 H1 _ _ e1 R1 rfl h1⟩
theorem reps_cut {θ : Th} {H : Hp} {xs : List AV} {vs : List V} (r : Reps K θ H xs vs) (lo hi : Option Int) : Reps K θ H (cutA xs lo hi) (cutV vs lo hi) := by
  unfold cutA cutV
  rw [r.len]
  exact (r.drop _).take _
theorem xsl_tup (hK : X.K = K) : XSl K X kSlT := by
  refine ⟨_, MyK.sl_tupA (K := K) hK, ?_⟩
  rintro θ η H x v lo hi AQ Q R r ⟨xs, rfl, q⟩ C
  cases r with
  | tup u h r =>
    refine MyK.r_slA h fun p H' s hp => ?_
    exact C θ η H' _ _ (.same s) (R.same s) (.tup ((R.same s).untrT hp) hp ((reps_cut r lo hi).ext (.same s))) q
theorem xsl_list (hK : X.K = K) : XSl K X kSlL := by
  refine ⟨_, MyK.sl_list (K := K) hK, ?_⟩
  rintro θ η H x v lo hi AQ Q R r ⟨xs, hx, q⟩ C
  obtain ⟨a, vs, rfl, hv, rv⟩ := hx.sq R r
  exact ⟨a, vs, rfl, hv, fun p hp => new_lst R hp (reps_cut rv lo hi) C q⟩
theorem xe_slice {r : AR3} {lo hi : Option Expr} {tl th : AO1} {p2 : Pos} (hr : XSl K X r) (he : XE K X e te) (hl : XPo K X lo tl) (hu : XPo K X hi th) : XE K X (.Subscript e (.Slice lo hi none p2) pos) (aSl r te tl th) := by
  obtain ⟨t, s1, s2⟩ := hr
  obtain ⟨t1, p1, q1⟩ := he
  obtain ⟨t2, p2, q2⟩ := hl
  obtain ⟨t3, p3, q3⟩ := hu
  refine ⟨_, pe_slice s1 p1 p2 p3, ?_⟩
  intro θ ρ η σ H AQ Q R S h C
  refine q1 θ ρ η σ H _ _ R S h ?_
  intro θ1 η1 H1 x v e1 R1 r1 h1
  refine q2 θ1 ρ η1 σ H1 _ _ R1 (S.ext e1) h1 ?_
  rintro θ2 η2 H2 l _ e2 R2 rfl h2
  refine q3 θ2 ρ η2 σ H2 _ _ R2 (S.ext (e1.trans e2)) h2 ?_
  rintro θ3 η3 H3 u _ e3 R3 rfl h3
  exact s2 θ3 η3 H3 x v l u AQ Q R3 (r1.ext (e2.trans e3)) h3 (C.ext (e1.trans (e2.trans e3)))
theorem xe_revL {k : Nat} {p1 p2 p3 pos : Pos} (hK : X.K = K) (he : XE K X e te) : XE K X (.Subscript e (.Slice none none (some (.UnaryOp .USub (.Constant (.int 1) k p1) p2)) p3) pos) (aRevL te) := by
  obtain ⟨t1, q1, q2⟩ := he
  obtain ⟨K, Gg, mn⟩ := K; have hK : X.K = K := hK; subst hK
  refine ⟨_, pe_revL q1, ?_⟩
  intro θ ρ η σ H AQ Q R S h C
  refine q2 θ ρ η σ H _ _ R S h ?_
  rintro θ1 η1 H1 x v e1 R1 r1 ⟨xs, hx, h1⟩
  obtain ⟨a, vs, rfl, hv, rv⟩ := hx.sq R1 r1
  exact ⟨a, vs, rfl, hv, fun p hp => new_lst R1 hp rv.rev (C.ext e1) h1⟩
/-! ### methods of lists -/
def IsL (x : AV) (η : Eta) : Prop := ∃ n xs, x = .rf n ∧ η n = some (.lst xs)
def aBM (r : ARm) (to : AE) (ts : AA) : AE := fun ρ η Q => to ρ η fun x η1 => IsL x η1 ∧ ts ρ η1 fun xs η2 => r x xs η2 Q
def kAppend : ARm := fun x zs η Q => ∃ n xs y, x = .rf n ∧ zs = [y] ∧ η n = some (.lst xs) ∧ xs.length < 16000000 ∧ Q .non (pt η n (.lst (xs ++ [y])))
def kExtend : ARm := fun x zs η Q => ∃ n m xs ys, x = .rf n ∧ zs = [.rf m] ∧ η n = some (.lst xs) ∧ η m = some (.lst ys) ∧ xs.length + ys.length ≤ 16000000 ∧ Q .non (pt η n (.lst (xs ++ ys)))
def kPop (x : AV) (η : Eta) (Q : AK) : Prop := ∃ n xs y, x = .rf n ∧ η n = some (.lst xs) ∧ xs[xs.length - 1]? = some y ∧ Q y (pt η n (.lst xs.dropLast))
def XMt (K : KG) (X : Cx) (id : String) (r : ARm) : Prop := ∃ t, MtR X id t ∧ Abm K r t
theorem xmt_append : XMt K X "list.append" kAppend := by
  refine ⟨_, mt_append, ?_⟩
  rintro θ η H x v zs vs AQ Q R r rs ⟨n, xs, y, rfl, rfl, hn, hl, q⟩ C
  obtain ⟨w, rfl, rw'⟩ := reps1 rs
  cases r with
  | rf h =>
    obtain ⟨a, e, us, hu, ru⟩ := R.at n _ hn
    rw [h] at e; cases e
    have R2 := R.put (o := .lst (xs ++ [y])) (v := .lst (us ++ [w])) h hu ⟨_, upd_same, (ru.app (.cons rw' .nil)).ext (ext_at R h hu)⟩
    exact ⟨_, us, w, rfl, rfl, hu, szlt (by rw [← ru.len]; exact hl), C θ _ _ _ _ (ext_at R h hu) R2 .non q⟩
theorem xmt_extend : XMt K X "list.extend" kExtend := by
  refine ⟨_, mt_extend, ?_⟩
  rintro θ η H x v zs vs AQ Q R r rs ⟨n, m, xs, ys, rfl, rfl, hn, hm, hl, q⟩ C
  obtain ⟨w, rfl, rw'⟩ := reps1 rs
  cases r with
  | rf h =>
    cases rw' with
    | rf h2 =>
      obtain ⟨a, e, us, hu, ru⟩ := R.at n _ hn
      rw [h] at e; cases e
      obtain ⟨b, e2, ws, hw, rw'⟩ := R.at m _ hm
      rw [h2] at e2; cases e2
      have R2 := R.put (o := .lst (xs ++ ys)) (v := .lst (us ++ ws)) h hu ⟨_, upd_same, (ru.app rw').ext (ext_at R h hu)⟩
      exact ⟨_, _, us, ws, rfl, rfl, hu, hw, szl (by rw [← ru.len, ← rw'.len]; exact hl), C θ _ _ _ _ (ext_at R h hu) R2 .non q⟩
theorem isL_ty {θ : Th} {H : Hp} {η : Eta} {x : AV} {v : V} (h : IsL x η) (R : RelH K θ η H) (r : Rep K θ H x v) : tyV K "list" v H := by
  obtain ⟨n, xs, rfl, hn⟩ := h
  cases r with
  | rf h =>
    obtain ⟨a, e, us, hu, ru⟩ := R.at n _ hn
    rw [h] at e; cases e
    exact tyL (sqL hu)
theorem xe_bm {o e : Expr} {es : List Expr} {to : AE} {ts : AA} {name : Str} {apos cpos : Pos} {id : String} {r : ARm} (hK : X.K = K) (pa : PlainAttrs "list") (slot : Slot "list" name id) (hty : typeOf (.builtin id) = pure (.type "method_descriptor")) (hm : XMt K X id r) (ho : XE K X o to) (ha : XA K X (e :: es) ts)
    (hbase : attributeBase o name X.env (eval o X.env) = eval o X.env := by rfl)
    (hfew : ((backTo cpos (starEach (e :: es) X.env)).all (fun x => !x.1) && (backToKw cpos (keywordEach [] X.env)).all (fun x => x.1.isSome)
      && decide ((e :: es).length + ([] : List Keyword).length + (if ([] : List Keyword).isEmpty then 0 else 1) < 30)) = true := by rfl)
    (hline : (apos.endLine == cpos.line) = true := by rfl) (hs : starEach (e :: es) X.env = (false, eval e X.env) :: starEach es X.env := by rfl) (hplain : (backTo cpos (starEach es X.env)).any (·.1) = false := by rfl) :
    XE K X (.Call (.Attribute o name apos) (e :: es) [] cpos) (aBM r to ts) := by
  obtain ⟨t, s1, s2⟩ := hm
  obtain ⟨t1, p1, q1⟩ := ho
  obtain ⟨t2, p2, q2⟩ := ha
  obtain ⟨K, Gg, mn⟩ := K; have hK : X.K = K := hK; subst hK
  refine ⟨_, pe_bm pa slot hty s1 p1 p2 hbase hfew hline hs hplain, ?_⟩
  intro θ ρ η σ H AQ Q R S h C
  refine q1 θ ρ η σ H _ _ R S h ?_
  rintro θ1 η1 H1 x v e1 R1 r1 ⟨hl, h1⟩
  refine ⟨isL_ty hl R1 r1, q2 θ1 ρ η1 σ H1 _ _ R1 (S.ext e1) h1 ?_⟩
  intro θ2 η2 H2 xs vs e2 R2 r2 h2
  exact s2 θ2 η2 H2 x v xs vs AQ Q R2 (r1.ext e2) r2 h2 (C.ext (e1.trans e2))
end
/-! ### defs -/
abbrev ASp := List AV → Eta → AK → Prop
def lift (K : PySem.W.Frag) (asp : ASp) : Sp := fun vs H Q _ => ∃ θ η xs AQ, RelH (KG.top K) θ η H ∧ Reps K θ H xs vs ∧ asp xs η AQ ∧ Cg (KG.top K) (Rep K) θ H AQ Q
def XDef (P : Program) (w : World) (K : PySem.W.Frag) (mg : Str → Option Value) (base : Heap) (k : Nat) (x : Str) (ps : List Str) (asp : ASp) : Prop := IsDef P w K mg base k x ps (lift K asp)
def aCall (asp : ASp) (ts : AA) : AE := fun ρ η Q => ts ρ η fun xs η1 => asp xs η1 Q
def startA (N : List Str) (xs : List AV) : Sta := xs.map some ++ List.replicate (N.length - xs.length) none
/-- what is made in the def may be forgotten -/
def Dr (Q : AK) : AK := fun x η => ∃ η', (∀ n o, η' n = some o → η n = some o) ∧ Q x η'
section
variable {P : Program} {w : World} {K : PySem.W.Frag} {mg : Str → Option Value} {base : Heap} {k : Nat} {ps : List Str} {asp : ASp} {x : Str}
theorem Cg.tp {α β : Type} {K : KG} {R : Th → Hp → α → β → Prop} {θ : Th} {H : Hp} {AQ : α → Eta → Prop} {Q : β → Hp → Prop} (C : Cg K R θ H AQ Q) (g : K.G θ H) : Cg (KG.top K.k) R θ H AQ Q := fun θ' η' H' x v e R' r q => C θ' η' H' x v e (RelH.up (K := K) R' (K.mono _ _ _ _ e g)) r q
theorem RelH.drop {K : KG} {θ : Th} {η η' : Eta} {H : Hp} (R : RelH K θ η H) (h : ∀ n o, η' n = some o → η n = some o) : RelH K θ η' H := ⟨fun n o e => R.at n o (h n o e), R.inj, R.live, R.top, R.gh⟩
theorem Dr.same {Q : AK} {x : AV} {η : Eta} (h : Q x η) : Dr Q x η := ⟨η, fun _ _ e => e, h⟩
theorem Dr.put {Q : AK} {x : AV} {η η1 : Eta} {n : Nat} {o : AO} (h : Dr Q x η) (hn : η n = none) : Dr Q x (pt η n o) := by
  obtain ⟨η', s, q⟩ := h
  refine ⟨η', fun m u e => ?_, q⟩
  have e' := s m u e
  rw [pt_ne (by rintro rfl; rw [hn] at e'; cases e')]
  exact e'
theorem Rst.start {K : PySem.W.Frag} {θ : Th} {H : Hp} {N : List Str} {xs : List AV} {vs : List V} (r : Reps K θ H xs vs) : Rst K θ H (startA N xs) (L2.start N vs) := by
  unfold startA L2.start
  refine ⟨by simp [r.len], fun i x e => ?_⟩
  by_cases c : i < xs.length
  · rw [List.getElem?_append_left (by simpa using c), List.getElem?_map] at e
    obtain ⟨y, hy, e⟩ := Option.map_eq_some_iff.mp e
    cases e
    obtain ⟨v, hv, rv⟩ := r.at hy
    refine ⟨v, ?_, rv⟩
    rw [List.getElem?_append_left (by rw [List.length_map, ← r.len]; exact c), List.getElem?_map, hv]
    rfl
  · rw [List.getElem?_append_right (by simpa using c)] at e
    have := List.mem_replicate.mp (List.mem_of_getElem? e)
    exact absurd this.2 (by simp)
theorem XDef.of {st : Stmt} {N : List Str} (R : Raw K mg x st) (S : FnScope N ps (defScope st))
    (bind : ∀ (kV doc pm : Value) (an : Option Addr) (cdv ct : Value) (us : List Value), us.length = ps.length → bindArgs (PySem.W.fnOf x x (defArgs st) (defBody st) (defScope st) .none kV doc pm an cdv ct) ⟨us, []⟩ = pure (ps.zip us))
    (len : ∀ xs η Q, asp xs η Q → xs.length = ps.length)
    (hbody : ∀ (f : Addr) (cdv : Value) (A : Around) (outer : List Env) (s : Shared) (H : Hp) (E : XK), Room k (A.deeper (envOfC x (defScope st) s.heap.objs.size f cdv)) →
      ∃ t, XSs (KG.top K) (cxOf CX0 P w K mg base N x (defScope st) f cdv A outer s H E).nox (defBody st) t ∧ ∀ xs η Q, asp xs η Q → t { nx := fun _ η' => Dr Q .non η', rt := Dr Q } (startA N xs) η) : XDef P w K mg base (k + 1) x ps asp := by
  refine Raw.ok R S bind (fun vs H Q E h => ?_) (fun f cdv A outer s H vs Q E hr h => ?_)
  · obtain ⟨θ, η, xs, AQ, _, r, h, _⟩ := h
    rw [← r.len]
    exact len xs η AQ h
  · obtain ⟨θ, η, xs, AQ, R, r, h, C⟩ := h
    obtain ⟨t, ⟨t1, p1, q1⟩, hb⟩ := hbody f cdv A outer s H E hr
    refine ⟨t1, p1, q1 θ _ η _ H _ _ R (Rst.start r) (hb xs η AQ h) ⟨?_, ?_, ?_, ?_⟩⟩
    · rintro θ1 η1 H1 ρ1 σ1 e1 R1 S1 ⟨η2, hs, q⟩
      exact C θ1 η2 H1 _ _ e1 (R1.drop hs) .non q
    · rintro θ1 η1 H1 x v e1 R1 r1 ⟨η2, hs, q⟩
      exact C θ1 η2 H1 _ _ e1 (R1.drop hs) r1 q
    · exact fun _ _ _ _ _ _ _ _ z => z.elim
    · exact fun _ _ _ _ _ _ _ _ z => z.elim
end
section
variable {K : KG} {X : Cx} {k : Nat} {ps : List Str} {asp : ASp} {x : Str} {p pos : Pos} {e : Expr} {es : List Expr} {ts : AA} {C : Addr}
theorem xe_callD (hK : X.K = K.k) (D : XDef X.prog X.w K.k X.mg X.base k x ps asp) (hr : Room k X.A) (hg : Gl X x) (ha : XA K X (e :: es) ts) (hdb : (x == ("__debug__" : Str)) = false := by decide)
    (he : starEach (e :: es) X.env = (false, eval e X.env) :: starEach es X.env := by rfl) (hpl : (backTo pos (starEach es X.env)).any (·.1) = false := by rfl) :
    XE K X (.Call (.Name x p) (e :: es) [] pos) (aCall asp ts) := by
  obtain ⟨t1, p1, q1⟩ := ha
  obtain ⟨K, Gg, mn⟩ := K; have hK : X.K = K := hK; subst hK
  refine ⟨_, pe_callD D hr hg p1 hdb he hpl, ?_⟩
  intro θ ρ η σ H AQ Q R S h C
  refine q1 θ ρ η σ H _ _ R S h ?_
  intro θ1 η1 H1 xs vs e1 R1 r1 h1
  rw [List.append_nil]
  exact ⟨θ1, η1, xs, AQ, R1.tp, r1, h1, (C.ext e1).tp R1.gh⟩
theorem xe_callD0 (hK : X.K = K.k) (D : XDef X.prog X.w K.k X.mg X.base k x ps asp) (hr : Room k X.A) (hg : Gl X x) (hdb : (x == ("__debug__" : Str)) = false := by decide) :
    XE K X (.Call (.Name x p) [] [] pos) (aCall asp aNil) := by
  obtain ⟨K, Gg, mn⟩ := K; have hK : X.K = K := hK; subst hK
  refine ⟨_, pe_callD0 D hr hg hdb, ?_⟩
  intro θ ρ η σ H AQ Q R S h C
  exact ⟨θ, η, [], AQ, R.tp, .nil, h, C.tp R.gh⟩
/-- a class whose instances never change: what C(..) makes -/
def XNew (P : Program) (w : World) (K : PySem.W.Frag) (mg : Str → Option Value) (base : Heap) (k : Nat) (x : Str) (C : Addr) (ps : List Str) (asp : ASp) : Prop := ∃ sp, IsMake P w K mg base k x C ps sp ∧
  ∀ θ η H xs vs AQ Q, RelH (KG.top K) θ η H → Reps K θ H xs vs → asp xs η AQ → Cg (KG.top K) (Rep K) θ H AQ Q → ∀ x dx, H x = none → H dx = none → dx ≠ x → sp (.ref x :: vs) (upd (upd H dx (.own x)) x (.ins C dx [])) (fun v H2 => v = .non ∧ Q (.ref x) H2) E0
theorem xe_makeD (hK : X.K = K.k) (D : XNew X.prog X.w K.k X.mg X.base k x C ps asp) (hr : Room (k + 1) X.A) (hg : Gl X x) (ha : XA K X (e :: es) ts) (hdb : (x == ("__debug__" : Str)) = false := by decide)
    (he : starEach (e :: es) X.env = (false, eval e X.env) :: starEach es X.env := by rfl) (hpl : (backTo pos (starEach es X.env)).any (·.1) = false := by rfl) :
    XE K X (.Call (.Name x p) (e :: es) [] pos) (aCall asp ts) := by
  obtain ⟨sp, M, w⟩ := D
  obtain ⟨t1, p1, q1⟩ := ha
  obtain ⟨K, Gg, mn⟩ := K; have hK : X.K = K := hK; subst hK
  refine ⟨_, pe_makeD M hr hg p1 hdb he hpl, ?_⟩
  intro θ ρ η σ H AQ Q R S h C
  refine q1 θ ρ η σ H _ _ R S h ?_
  intro θ1 η1 H1 xs vs e1 R1 r1 h1 a dx ha hdx hne
  rw [List.append_nil]
  exact w θ1 η1 H1 xs vs AQ Q R1.tp r1 h1 ((C.ext e1).tp R1.gh) a dx ha hdx hne
end
end Ab

/-! the abstract layer: rules that choose by the values, steps of a reading. -/
namespace Ab
open PySem PySem.Spec PyProof.Rows L2 MyB MyR MyD
section
variable {K : KG} {X : Cx}
theorem XO.or {f : Value → Value → Sem Value} {a b : AR2} (h : XO K X f a) (g : XO K X f b) : XO K X f (fun x y η Q => a x y η Q ∨ b x y η Q) := by
  obtain ⟨t, p, q⟩ := h
  obtain ⟨u, p', q'⟩ := g
  refine ⟨fun x y H Q => t x y H Q ∨ u x y H Q, fun pins s σ H x y v w Q I r1 r2 h => ?_, fun θ η H x y v w AQ Q R r1 r2 h C => ?_⟩
  · rcases h with h | h
    · exact p pins s σ H x y v w Q I r1 r2 h
    · exact p' pins s σ H x y v w Q I r1 r2 h
  · rcases h with h | h
    · exact .inl (q θ η H x y v w AQ Q R r1 r2 h C)
    · exact .inr (q' θ η H x y v w AQ Q R r1 r2 h C)
theorem XI.or {a b : AR2} (h : XI K X a) (g : XI K X b) : XI K X (fun x y η Q => a x y η Q ∨ b x y η Q) := by
  obtain ⟨t, p, q⟩ := h
  obtain ⟨u, p', q'⟩ := g
  refine ⟨fun x y H Q => t x y H Q ∨ u x y H Q, fun va sl pins s σ H x y v w Q I r1 r2 h hs => ?_, fun θ η H x y v w AQ Q R r1 r2 h C => ?_⟩
  · rcases h with h | h
    · exact p va sl pins s σ H x y v w Q I r1 r2 h hs
    · exact p' va sl pins s σ H x y v w Q I r1 r2 h hs
  · rcases h with h | h
    · exact .inl (q θ η H x y v w AQ Q R r1 r2 h C)
    · exact .inr (q' θ η H x y v w AQ Q R r1 r2 h C)
theorem XC.or {f : Value} {a b : ARn} (h : XC K X f a) (g : XC K X f b) : XC K X f (fun xs η Q => a xs η Q ∨ b xs η Q) := by
  obtain ⟨t, p, q⟩ := h
  obtain ⟨u, p', q'⟩ := g
  refine ⟨fun x H Q => t x H Q ∨ u x H Q, fun pins s σ H x v Q I r1 h => ?_, fun θ η H x v AQ Q R r1 h C => ?_⟩
  · rcases h with h | h
    · exact p pins s σ H x v Q I r1 h
    · exact p' pins s σ H x v Q I r1 h
  · rcases h with h | h
    · exact .inl (q θ η H x v AQ Q R r1 h C)
    · exact .inr (q' θ η H x v AQ Q R r1 h C)
theorem XSl.or {a b : AR3} (h : XSl K X a) (g : XSl K X b) : XSl K X (fun x l u η Q => a x l u η Q ∨ b x l u η Q) := by
  obtain ⟨t, p, q⟩ := h
  obtain ⟨u, p', q'⟩ := g
  refine ⟨fun x l w H Q => t x l w H Q ∨ u x l w H Q, p.or p', fun θ η H x v lo hi AQ Q R r1 h C => ?_⟩
  rcases h with h | h
  · exact .inl (q θ η H x v lo hi AQ Q R r1 h C)
  · exact .inr (q' θ η H x v lo hi AQ Q R r1 h C)
def uAdd : AR2 := fun x y η Q => kII (fun i j => i + j) x y η Q ∨ kCatT x y η Q ∨ kCatL x y η Q
theorem xu_add (hK : X.K = K) : XO K X (binaryOp .Add) uAdd := xo_add.or ((xo_catT hK).or xo_catL)
def uMul : AR2 := fun x y η Q => kIC CMul (fun i j => i * j) x y η Q ∨ kIC CMulW (fun i j => i * j) x y η Q ∨ kRepT x y η Q ∨ kRepL x y η Q
theorem xu_mul (hK : X.K = K) : XO K X (binaryOp .Mult) uMul := xo_mul.or (xo_mulW.or ((xo_repT hK).or xo_repL))
def uDiv : AR2 := fun x y η Q => kIC CDiv (fun i j => i / j) x y η Q ∨ kIC CDivW (fun i j => i / j) x y η Q
theorem xu_div : XO K X (binaryOp .FloorDiv) uDiv := xo_fdiv.or xo_fdivW
def uEq : AR2 := fun x y η Q => kEq x y η Q ∨ kEqD x y η Q
theorem xu_eq (hK : X.K = K) (hu : X.A.units + 64 < cLine) : XO K X (compareOp .Eq) uEq := xo_eq.or (xo_eqD hK hu)
def uNe : AR2 := fun x y η Q => kNe x y η Q ∨ kNeD x y η Q
theorem xu_ne (hK : X.K = K) (hu : X.A.units + 64 < cLine) : XO K X (compareOp .NotEq) uNe := xo_ne.or (xo_neD hK hu)
def uLt : AR2 := fun x y η Q => kIB (fun i j => decide (i < j)) x y η Q ∨ kLtT x y η Q
theorem xu_lt (hK : X.K = K) (hu : X.A.units + 64 < cLine) : XO K X (compareOp .Lt) uLt := xo_lt.or (xo_ltT hK (by omega))
def uIx : AR2 := fun x y η Q => kIxT x y η Q ∨ kIxL x y η Q
theorem xu_ix (hK : X.K = K) : XI K X uIx := (xi_tupIx hK).or (xi_lstIx hK)
def uSl : AR3 := fun x l u η Q => kSlT x l u η Q ∨ kSlL x l u η Q
theorem xu_sl (hK : X.K = K) : XSl K X uSl := (xsl_tup hK).or (xsl_list hK)
def uSum : ARn := fun xs η Q => kSum xs η Q ∨ kSumT xs η Q
theorem xu_sum (hK : X.K = K) (hc : X.calm = true) : XC K X (.builtin "sum") uSum := (xc_sum hK hc).or (xc_sumT hK hc)
end
/-! ### the iterators' choice -/
def aiSeq (te : AE) : AI := fun ρ η R => te ρ η fun x η1 => (∃ xs, LstOf η1 x xs ∧ R xs (fun η => LstOf η x xs) η1) ∨ ∃ xs, x = .tup xs ∧ R xs (fun _ => True) η1
section
variable {K : KG} {X : Cx} {tg l : Expr} {tl : AE}
theorem XIt.or {e : Expr} {a b : AI} (h : XIt K X tg e a) (g : XIt K X tg e b) : XIt K X tg e (fun ρ η R => a ρ η R ∨ b ρ η R) := by
  obtain ⟨t, p, q⟩ := h
  obtain ⟨u, p', q'⟩ := g
  refine ⟨fun σ H R => t σ H R ∨ u σ H R, ⟨fun pins s σ H R I h => ?_⟩, fun θ ρ η σ H AQ Q R S h C => ?_⟩
  · rcases h with h | h
    · exact p.run pins s σ H R I h
    · exact p'.run pins s σ H R I h
  · rcases h with h | h
    · exact .inl (q θ ρ η σ H AQ Q R S h C)
    · exact .inr (q' θ ρ η σ H AQ Q R S h C)
end
/-! ### steps -/
section
variable {K : PySem.W.Frag} {ρ : Sta} {η : Eta} {Q : AK} {D : AEnds} {ta tb tc te : AE} {ts : AA} {t u : AS} {x y v : AV}
theorem s_var {i : Nat} (h : ρ[i]? = some (some v)) (k : Q v η) : aVar i ρ η Q := ⟨v, h, k⟩
theorem s_c (k : Q v η) : aC v ρ η Q := k
theorem s_op {r : AR2} (k : ta ρ η fun x η1 => tb ρ η1 fun y η2 => r x y η2 Q) : aOp r ta tb ρ η Q := k
theorem s_un {r : AR1} (k : ta ρ η fun x η1 => r x η1 Q) : aUn r ta ρ η Q := k
theorem s_add {i j : Int} (k : Q (.int (i + j)) η) : uAdd (.int i) (.int j) η Q := .inl ⟨i, j, rfl, rfl, k⟩
theorem s_catT {xs ys : List AV} (hl : xs.length + ys.length ≤ 16000000) (k : Q (.tup (xs ++ ys)) η) : uAdd (.tup xs) (.tup ys) η Q := .inr (.inl ⟨xs, ys, rfl, rfl, hl, k⟩)
theorem s_II {g : Int → Int → Int} {i j : Int} (k : Q (.int (g i j)) η) : kII g (.int i) (.int j) η Q := ⟨i, j, rfl, rfl, k⟩
theorem s_IC {C : Int → Int → Prop} {g : Int → Int → Int} {i j : Int} (c : C i j) (k : Q (.int (g i j)) η) : kIC C g (.int i) (.int j) η Q := ⟨i, j, rfl, rfl, c, k⟩
theorem s_mul {i j : Int} (c : CMul i j) (k : Q (.int (i * j)) η) : uMul (.int i) (.int j) η Q := .inl ⟨i, j, rfl, rfl, c, k⟩
theorem s_mulW {i j : Int} (c : CMulW i j) (k : Q (.int (i * j)) η) : uMul (.int i) (.int j) η Q := .inr (.inl ⟨i, j, rfl, rfl, c, k⟩)
theorem s_div {i j : Int} (c : CDiv i j) (k : Q (.int (i / j)) η) : uDiv (.int i) (.int j) η Q := .inl ⟨i, j, rfl, rfl, c, k⟩
theorem s_divW {i j : Int} (c : CDivW i j) (k : Q (.int (i / j)) η) : uDiv (.int i) (.int j) η Q := .inr ⟨i, j, rfl, rfl, c, k⟩
theorem s_IB {p : Int → Int → Bool} {i j : Int} (k : Q (.bl (p i j)) η) : kIB p (.int i) (.int j) η Q := ⟨i, j, rfl, rfl, k⟩
theorem s_lt {i j : Int} (k : Q (.bl (decide (i < j))) η) : uLt (.int i) (.int j) η Q := .inl ⟨i, j, rfl, rfl, k⟩
theorem s_ltT {ns ms : List Int} (k : Q (.bl (HT.lexLt ns ms)) η) : uLt (tI ns) (tI ms) η Q := .inr ⟨ns, ms, rfl, rfl, k⟩
theorem s_U {g : Int → Int} {i : Int} (k : Q (.int (g i)) η) : kU g (.int i) η Q := ⟨i, rfl, k⟩
theorem s_eqI {i j : Int} (k : Q (.bl (decide (i = j))) η) : uEq (.int i) (.int j) η Q := .inl ⟨_, rfl, k⟩
theorem s_eqB {i j : Bool} (k : Q (.bl (i == j)) η) : uEq (.bl i) (.bl j) η Q := .inl ⟨_, rfl, k⟩
theorem s_eqX {i j : Str} (k : Q (.bl (decide (i = j))) η) : uEq (.str i) (.str j) η Q := .inl ⟨_, rfl, k⟩
theorem s_neI {i j : Int} (k : Q (.bl (!decide (i = j))) η) : uNe (.int i) (.int j) η Q := .inl ⟨_, rfl, k⟩
theorem s_neB {i j : Bool} (k : Q (.bl (!(i == j))) η) : uNe (.bl i) (.bl j) η Q := .inl ⟨_, rfl, k⟩
theorem s_neX {i j : Str} (k : Q (.bl (!decide (i = j))) η) : uNe (.str i) (.str j) η Q := .inl ⟨_, rfl, k⟩
theorem s_isNn (k : Q (.bl true) η) : kIsN .non .non η Q := ⟨rfl, k⟩
theorem s_isNi {i : Int} (k : Q (.bl false) η) : kIsN (.int i) .non η Q := ⟨rfl, k⟩
theorem s_isNt {xs : List AV} (k : Q (.bl false) η) : kIsN (.tup xs) .non η Q := ⟨rfl, k⟩
theorem s_isNr {n : Nat} (k : Q (.bl false) η) : kIsN (.rf n) .non η Q := ⟨rfl, k⟩
theorem s_isNb {b : Bool} (k : Q (.bl false) η) : kIsN (.bl b) .non η Q := ⟨rfl, k⟩
theorem s_ntNn (k : Q (.bl false) η) : kNotN .non .non η Q := ⟨rfl, k⟩
theorem s_ntNi {i : Int} (k : Q (.bl true) η) : kNotN (.int i) .non η Q := ⟨rfl, k⟩
theorem s_ntNt {xs : List AV} (k : Q (.bl true) η) : kNotN (.tup xs) .non η Q := ⟨rfl, k⟩
theorem s_ntNr {n : Nat} (k : Q (.bl true) η) : kNotN (.rf n) .non η Q := ⟨rfl, k⟩
theorem s_isB {b : Bool} (k : Q (.bl b) η) : (fun x y η Q => ∃ b, x = .bl b ∧ y = .bl true ∧ Q (.bl b) η : AR2) (.bl b) (.bl true) η Q := ⟨b, rfl, rfl, k⟩
theorem s_test {R : Bool → Eta → Prop} (k : te ρ η fun x η1 => ∃ c, x = .bl c ∧ R c η1) : aTest te ρ η R := k
theorem s_bl {c : Bool} {R : Bool → Prop} (k : R c) : ∃ d, AV.bl c = AV.bl d ∧ R d := ⟨c, rfl, k⟩
theorem s_not {tt : AT} {R : Bool → Eta → Prop} (k : tt ρ η fun c η1 => R (!c) η1) : aNot tt ρ η R := k
theorem s_and {tt uu : AT} {R : Bool → Eta → Prop} (k : tt ρ η fun c η1 => if c = true then uu ρ η1 R else R false η1) : aAnd tt uu ρ η R := k
theorem s_or {tt uu : AT} {R : Bool → Eta → Prop} (k : tt ρ η fun c η1 => if c = true then R true η1 else uu ρ η1 R) : aOr tt uu ρ η R := k
theorem s_yes {R : Bool → Eta → Prop} (k : R true η) : aYes ρ η R := k
theorem s_andV (k : ta ρ η fun x η1 => ∃ c, x = .bl c ∧ if c = true then tb ρ η1 Q else Q (.bl false) η1) : aAndV ta tb ρ η Q := k
theorem s_orV (k : ta ρ η fun x η1 => ∃ c, x = .bl c ∧ if c = true then Q (.bl true) η1 else tb ρ η1 Q) : aOrV ta tb ρ η Q := k
theorem s_notV (k : ta ρ η fun x η1 => ∃ c, x = .bl c ∧ Q (.bl (!c)) η1) : aNotV ta ρ η Q := k
theorem s_chain {r r' : AR2} (k : ta ρ η fun x η1 => tb ρ η1 fun y η2 => r x y η2 fun z η3 => ∃ k, z = .bl k ∧ (if k = true then tc ρ η3 fun w η4 => r' y w η4 Q else Q (.bl false) η3)) : aChain r r' ta tb tc ρ η Q := k
theorem s_if {tt : AT} (k : tt ρ η fun c η1 => if c = true then ta ρ η1 Q else tb ρ η1 Q) : aIf tt ta tb ρ η Q := k
theorem s_nil {R : List AV → Eta → Prop} (k : R [] η) : aNil ρ η R := k
theorem s_cons {R : List AV → Eta → Prop} (k : te ρ η fun x η1 => ts ρ η1 fun xs η2 => R (x :: xs) η2) : aCons te ts ρ η R := k
def mkT (xs : List AV) (η : Eta) (Q : AK) : Prop := xs.length ≤ 16000000 ∧ Q (.tup xs) η
def mkL (xs : List AV) (η : Eta) (Q : AK) : Prop := xs.length ≤ 16000000 ∧ ∀ n, η n = none → Q (.rf n) (pt η n (.lst xs))
theorem s_tup (k : ts ρ η fun xs η1 => mkT xs η1 Q) : aTup ts ρ η Q := k
theorem s_lst (k : ts ρ η fun xs η1 => mkL xs η1 Q) : aLst ts ρ η Q := k
theorem s_mkT0 (k : Q (.tup []) η) : mkT [] η Q := ⟨Nat.zero_le _, k⟩
theorem s_mkT1 {a : AV} (k : Q (.tup [a]) η) : mkT [a] η Q := ⟨by simp, k⟩
theorem s_mkT2 {a b : AV} (k : Q (.tup [a, b]) η) : mkT [a, b] η Q := ⟨by simp, k⟩
theorem s_mkT3 {a b c : AV} (k : Q (.tup [a, b, c]) η) : mkT [a, b, c] η Q := ⟨by simp, k⟩
theorem s_mkT4 {a b c d : AV} (k : Q (.tup [a, b, c, d]) η) : mkT [a, b, c, d] η Q := ⟨by simp, k⟩
theorem s_mkT5 {a b c d e : AV} (k : Q (.tup [a, b, c, d, e]) η) : mkT [a, b, c, d, e] η Q := ⟨by simp, k⟩
theorem s_mkL {xs : List AV} (h : xs.length ≤ 16000000) (k : ∀ n, η n = none → Q (.rf n) (pt η n (.lst xs))) : mkL xs η Q := ⟨h, k⟩
theorem s_cb {r : ARn} (k : ts ρ η fun xs η1 => r xs η1 Q) : aCB r ts ρ η Q := k
theorem s_call {asp : ASp} (k : ts ρ η fun xs η1 => asp xs η1 Q) : aCall asp ts ρ η Q := k
theorem s_ixT {xs : List AV} {i : Int} (h : atI xs i = some v) (k : Q v η) : uIx (.tup xs) (.int i) η Q := .inl ⟨xs, i, v, rfl, rfl, h, k⟩
theorem s_ixL {xs : List AV} {i : Int} (hx : LstOf η x xs) (h : atI xs i = some v) (k : Q v η) : uIx x (.int i) η Q := .inr ⟨xs, i, v, hx, rfl, h, k⟩
theorem s_slT {xs : List AV} {lo hi : Option Int} (k : Q (.tup (cutA xs lo hi)) η) : uSl (.tup xs) lo hi η Q := .inl ⟨xs, rfl, k⟩
theorem s_slL {xs : List AV} {lo hi : Option Int} (hx : LstOf η x xs) (k : ∀ n, η n = none → Q (.rf n) (pt η n (.lst (cutA xs lo hi)))) : uSl x lo hi η Q := .inr ⟨xs, hx, k⟩
theorem s_sl {r : AR3} {tl th : AO1} (k : te ρ η fun x η1 => tl ρ η1 fun l η2 => th ρ η2 fun u η3 => r x l u η3 Q) : aSl r te tl th ρ η Q := k
theorem s_noPart {R : Option Int → Eta → Prop} (k : R none η) : aNoPart ρ η R := k
theorem s_part {R : Option Int → Eta → Prop} (k : te ρ η fun x η1 => ∃ i, x = .int i ∧ R (some i) η1) : aPart te ρ η R := k
theorem s_theInt {i : Int} {R : Int → Prop} (k : R i) : ∃ j, AV.int i = AV.int j ∧ R j := ⟨i, rfl, k⟩
theorem s_lenT {xs : List AV} (k : Q (.int xs.length) η) : kLen [.tup xs] η Q := ⟨_, xs, rfl, .inr rfl, k⟩
theorem s_lenL {xs : List AV} (hx : LstOf η x xs) (k : Q (.int xs.length) η) : kLen [x] η Q := ⟨_, xs, rfl, .inl hx, k⟩
theorem s_abs {i : Int} (k : Q (.int (if i < 0 then -i else i)) η) : kAbs [.int i] η Q := ⟨i, rfl, k⟩
theorem s_int {i : Int} (k : Q (.int i) η) : kInt [.int i] η Q := .inl ⟨i, rfl, k⟩
theorem s_intB {b : Bool} (k : Q (.int (if b = true then 1 else 0)) η) : kInt [.bl b] η Q := .inr ⟨b, rfl, k⟩
theorem s_max {i j : Int} (k : Q (.int (max i j)) η) : kMax [.int i, .int j] η Q := ⟨i, j, rfl, k⟩
theorem s_min {i j : Int} (k : Q (.int (min i j)) η) : kMin [.int i, .int j] η Q := ⟨i, j, rfl, k⟩
theorem s_max3 {i j l : Int} (k : Q (.int (max (max i j) l)) η) : kMax3 [.int i, .int j, .int l] η Q := ⟨i, j, l, rfl, k⟩
theorem s_sum {ns : List Int} (hx : LstOf η x (ns.map AV.int)) (k : Q (.int ns.sum) η) : uSum [x] η Q := .inl ⟨x, ns, rfl, hx, k⟩
theorem s_sumT {ns : List Int} (k : Q (.int ns.sum) η) : uSum [.tup (ns.map AV.int)] η Q := .inr ⟨ns, rfl, k⟩
theorem s_all {bs : List Bool} (hx : LstOf η x (bs.map AV.bl)) (k : Q (.bl (bs.all id)) η) : kAll [x] η Q := ⟨x, bs, rfl, hx, k⟩
theorem s_any {bs : List Bool} (hx : LstOf η x (bs.map AV.bl)) (k : Q (.bl (bs.any id)) η) : kAny [x] η Q := ⟨x, bs, rfl, hx, k⟩
theorem s_tupT {xs : List AV} (k : Q (.tup xs) η) : kTup [.tup xs] η Q := ⟨_, xs, rfl, .inr rfl, k⟩
theorem s_tupL {xs : List AV} (hx : LstOf η x xs) (k : Q (.tup xs) η) : kTup [x] η Q := ⟨_, xs, rfl, .inl hx, k⟩
theorem s_listL {xs : List AV} (hx : LstOf η x xs) (k : ∀ n, η n = none → Q (.rf n) (pt η n (.lst xs))) : kList [x] η Q := ⟨_, xs, rfl, .inl hx, k⟩
theorem s_listT {xs : List AV} (k : ∀ n, η n = none → Q (.rf n) (pt η n (.lst xs))) : kList [.tup xs] η Q := ⟨_, xs, rfl, .inr rfl, k⟩
theorem s_seq (k : t { D with nx := u D } ρ η) : asSeq t u D ρ η := k
theorem s_next (k : D.nx ρ η) : asNext D ρ η := k
theorem s_brk (k : D.bk ρ η) : asBreak D ρ η := k
theorem s_cnt (k : D.ct ρ η) : asCont D ρ η := k
theorem s_ifS {tt : AT} (k : tt ρ η fun b η1 => if b = true then t D ρ η1 else u D ρ η1) : asIf tt t u D ρ η := k
theorem s_asg {g : AG} (k : te ρ η fun x η1 => g x ρ η1 D.nx) : asAsg te g D ρ η := k
theorem s_ret (k : te ρ η D.rt) : asRet te D ρ η := k
theorem s_retN (k : D.rt .non η) : asRetN D ρ η := k
theorem s_drop (k : te ρ η fun _ η1 => D.nx ρ η1) : asDrop te D ρ η := k
theorem s_aug {i : Nat} {f : Int → Int → Int} {a : Int} (h : ρ[i]? = some (some (.int a))) (k : te ρ η fun y η1 => ∃ b, y = .int b ∧ D.nx (ρ.set i (some (.int (f a b)))) η1) : asAug i te f D ρ η := ⟨a, h, k⟩
theorem s_name {i : Nat} {R : Sta → Eta → Prop} (k : R (ρ.set i (some v)) η) : agName i v ρ η R := k
theorem s_sub {to ti : AE} {r : ATSet} {R : Sta → Eta → Prop} (k : to ρ η fun o η1 => ti ρ η1 fun i η2 => r o i v η2 fun η3 => R ρ η3) : agSub to ti r v ρ η R := k
theorem s_gTup {n : Nat} {g : AGs} {R : Sta → Eta → Prop} {xs : List AV} (e : xs.length = n) (k : g xs ρ η R) : agTup n g (.tup xs) ρ η R := ⟨xs, rfl, e, k⟩
theorem s_gCons {g : AG} {gs : AGs} {R : Sta → Eta → Prop} {xs : List AV} (k : g x ρ η fun ρ' η' => gs xs ρ' η' R) : agCons g gs (x :: xs) ρ η R := ⟨x, xs, rfl, k⟩
theorem s_gNil {R : Sta → Eta → Prop} (k : R ρ η) : agNil [] ρ η R := ⟨rfl, k⟩
theorem s_par {i j : Nat} (k : ts ρ η fun xs η1 => ∃ x y, xs = [x, y] ∧ D.nx ((ρ.set i (some x)).set j (some y)) η1) : asPar i j ts D ρ η := k
theorem s_par2 {R : AV → AV → Prop} (k : R x y) : ∃ v w, ([x, y] : List AV) = [v, w] ∧ R v w := ⟨x, y, rfl, k⟩
theorem s_par3 {i j l : Nat} (k : ts ρ η fun xs η1 => ∃ x y z, xs = [x, y, z] ∧ D.nx (((ρ.set i (some x)).set j (some y)).set l (some z)) η1) : asPar3 i j l ts D ρ η := k
theorem s_par33 {z : AV} {R : AV → AV → AV → Prop} (k : R x y z) : ∃ v w u, ([x, y, z] : List AV) = [v, w, u] ∧ R v w u := ⟨x, y, z, rfl, k⟩
theorem s_setL {n : Nat} {xs : List AV} {i : Int} {j : Nat} {R : Eta → Prop} (h : η n = some (.lst xs)) (a : ixN xs.length i = some j) (k : R (pt η n (.lst (xs.set j v)))) : kSetL (.rf n) (.int i) v η R := ⟨n, xs, i, j, rfl, rfl, h, a, k⟩
theorem s_bm {r : ARm} {to : AE} (k : to ρ η fun x η1 => IsL x η1 ∧ ts ρ η1 fun xs η2 => r x xs η2 Q) : aBM r to ts ρ η Q := k
theorem s_isL {n : Nat} {xs : List AV} (h : η n = some (.lst xs)) : IsL (.rf n) η := ⟨n, xs, rfl, h⟩
theorem s_append {n : Nat} {xs : List AV} (h : η n = some (.lst xs)) (z : xs.length < 16000000) (k : Q .non (pt η n (.lst (xs ++ [v])))) : kAppend (.rf n) [v] η Q := ⟨n, xs, v, rfl, rfl, h, z, k⟩
theorem s_while {c : AT} (k : ∃ W : Nat → Sta → Eta → Prop, (∃ m, W m ρ η) ∧ ∀ m ρ η, W m ρ η → c ρ η fun b η1 => if b = true then ∃ N : Sta → Eta → Prop, (∀ ρ' η', N ρ' η' → ∃ m', m' < m ∧ W m' ρ' η') ∧ t { D with nx := N, ct := N, bk := D.nx } ρ η1 else D.nx ρ η1) : asWhile c t D ρ η := k
def forK (xs : List AV) (stay : Eta → Prop) (g : AG) (tb : AS) (D : AEnds) (ρ : Sta) (η1 : Eta) : Prop := ∃ W : Nat → Sta → Eta → Prop, W 0 ρ η1 ∧ (∀ i ρ η, i ≤ xs.length → W i ρ η → stay η) ∧
  (∀ i ρ η x, xs[i]? = some x → W i ρ η → g x ρ η fun ρ2 η2 => tb { D with nx := W (i + 1), ct := W (i + 1), bk := D.nx } ρ2 η2) ∧ ∀ ρ η, W xs.length ρ η → D.nx ρ η
theorem s_for {ai : AI} {g : AG} {tb : AS} (k : ai ρ η fun xs stay η1 => forK xs stay g tb D ρ η1) : asFor ai g tb D ρ η := k
def lcK (xs : List AV) (stay : Eta → Prop) (g : AG) (tt : AT) (te : AE) (vs : List Nat) (ρ : Sta) (η1 : Eta) (Q : AK) : Prop := ∃ W : Nat → List AV → Eta → Prop, W 0 [] η1 ∧ (∀ i acc η, i ≤ xs.length → W i acc η → stay η) ∧
  (∀ i acc η x, xs[i]? = some x → W i acc η → g x (wipeA ρ vs) η fun ρ2 η2 => tt ρ2 η2 fun b η3 => if b = true then te ρ2 η3 fun y η4 => acc.length < 16000000 ∧ W (i + 1) (acc ++ [y]) η4 else W (i + 1) acc η3) ∧
  ∀ acc η, W xs.length acc η → ∀ n, η n = none → Q (.rf n) (pt η n (.lst acc))
theorem s_lc {ai : AI} {g : AG} {tt : AT} {vs : List Nat} (k : ai ρ η fun xs stay η1 => lcK xs stay g tt te vs ρ η1 Q) : aLc ai g tt te vs ρ η Q := k
theorem s_iList {R : AR} (k : te ρ η fun x η1 => ∃ xs, LstOf η1 x xs ∧ R xs (fun η => LstOf η x xs) η1) : aiList te ρ η R := k
theorem s_iTup {R : AR} (k : te ρ η fun x η1 => ∃ xs, x = .tup xs ∧ R xs (fun _ => True) η1) : aiTup te ρ η R := k
theorem s_theTup {xs : List AV} {R : List AV → Prop} (k : R xs) : ∃ ys, AV.tup xs = AV.tup ys ∧ R ys := ⟨xs, rfl, k⟩
theorem s_iRng1 {R : AR} (k : ts ρ η fun xs η1 => ∃ j : Int, xs = [.int j] ∧ -(2 ^ 62) ≤ j ∧ j < 2 ^ 62 ∧ R (rngA 0 j.toNat) (fun _ => True) η1) : aiRng1 ts ρ η R := k
theorem s_iRng2 {R : AR} (k : ts ρ η fun xs η1 => ∃ i j : Int, xs = [.int i, .int j] ∧ (-(2 ^ 62) ≤ i ∧ i < 2 ^ 62 ∧ -(2 ^ 62) ≤ j ∧ j < 2 ^ 62) ∧ R (rngA i (j - i).toNat) (fun _ => True) η1) : aiRng2 ts ρ η R := k
theorem s_dget {td ti : AE} (k : td ρ η fun o η1 => ti ρ η1 fun i η2 => ∃ x, GetD η2 o i (some x) ∧ Q x η2) : aDGet td ti ρ η Q := k
theorem s_dget2 {td ti tx : AE} (k : td ρ η fun o η1 => IsDA η1 o ∧ ti ρ η1 fun i η2 => tx ρ η2 fun z η3 => ∃ r, GetD η3 o i r ∧ Q (r.getD z) η3) : aDGet2 td ti tx ρ η Q := k
theorem s_din {neg : Bool} {td ti : AE} (k : ti ρ η fun i η1 => td ρ η1 fun o η2 => ∃ r, GetD η2 o i r ∧ Q (.bl (if neg then !r.isSome else r.isSome)) η2) : aDIn neg ti td ρ η Q := k
theorem lo_rf {n : Nat} {xs : List AV} (h : η n = some (.lst xs)) : LstOf η (.rf n) xs := .inl ⟨n, rfl, h⟩
/-! the walks at once -/
section
variable {α : Type} {xs : List AV} {stay : Eta → Prop} {g : AG} {tt : AT} {vs : List Nat}
/-- a comprehension that makes f x of each x, and changes nothing -/
theorem lc_map (L : List α) (enc : α → AV) (f : α → AV) (hx : xs = L.map enc) (hl : L.length ≤ 16000000) (hst : stay η)
    (hs : ∀ x ∈ L, ∀ Add : AK, Add (f x) η → g (enc x) (wipeA ρ vs) η fun ρ2 η2 => te ρ2 η2 Add) (k : ∀ n, η n = none → Q (.rf n) (pt η n (.lst (L.map f)))) : lcK xs stay g aYes te vs ρ η Q := by
  subst hx
  refine ⟨fun i acc η' => η' = η ∧ acc = (L.take i).map f, ⟨rfl, rfl⟩, fun i acc η' _ h => h.1 ▸ hst, ?_, ?_⟩
  · rintro i acc η' x e ⟨rfl, rfl⟩
    rw [List.getElem?_map] at e
    obtain ⟨z, hz, rfl⟩ := Option.map_eq_some_iff.mp e
    have key := hs z (List.mem_of_getElem? hz) (fun y η4 => ((L.take i).map f).length < 16000000 ∧ η4 = η' ∧ (L.take i).map f ++ [y] = (L.take (i + 1)).map f) ?_
    · exact key
    · obtain ⟨hi, hzz⟩ := List.getElem?_eq_some_iff.mp hz
      refine ⟨by rw [List.length_map, List.length_take]; omega, rfl, ?_⟩
      rw [List.take_add_one, hz, List.map_append]
      rfl
  · rintro acc η' ⟨rfl, rfl⟩ n hn
    rw [List.length_map, List.take_length]
    exact k n hn
/-- .. of those with p x -/
theorem lc_filter (L : List α) (enc : α → AV) (p : α → Bool) (f : α → AV) (hx : xs = L.map enc) (hl : L.length ≤ 16000000) (hst : stay η)
    (hs : ∀ x ∈ L, ∀ (Add : AK) (Nx : Eta → Prop), (p x = true → Add (f x) η) → (p x = false → Nx η) → g (enc x) (wipeA ρ vs) η fun ρ2 η2 => tt ρ2 η2 fun b η3 => if b = true then te ρ2 η3 Add else Nx η3)
    (k : ∀ n, η n = none → Q (.rf n) (pt η n (.lst ((L.filter p).map f)))) : lcK xs stay g tt te vs ρ η Q := by
  subst hx
  refine ⟨fun i acc η' => η' = η ∧ acc = ((L.take i).filter p).map f, ⟨rfl, rfl⟩, fun i acc η' _ h => h.1 ▸ hst, ?_, ?_⟩
  · rintro i acc η' x e ⟨rfl, rfl⟩
    rw [List.getElem?_map] at e
    obtain ⟨z, hz, rfl⟩ := Option.map_eq_some_iff.mp e
    obtain ⟨hi, hzz⟩ := List.getElem?_eq_some_iff.mp hz
    have et : L.take (i + 1) = L.take i ++ [z] := by rw [List.take_add_one, hz]; rfl
    have key := hs z (List.mem_of_getElem? hz) (fun y η4 => (((L.take i).filter p).map f).length < 16000000 ∧ η4 = η' ∧ ((L.take i).filter p).map f ++ [y] = ((L.take (i + 1)).filter p).map f)
      (fun η3 => η3 = η' ∧ ((L.take i).filter p).map f = ((L.take (i + 1)).filter p).map f) ?_ ?_
    · exact key
    · intro hp
      refine ⟨?_, rfl, ?_⟩
      · have := List.length_filter_le p (L.take i)
        rw [List.length_take] at this
        rw [List.length_map]
        omega
      · rw [et, List.filter_append, List.map_append]
        simp [hp]
    · intro hp
      refine ⟨rfl, ?_⟩
      rw [et, List.filter_append, List.map_append]
      simp [hp]
  · rintro acc η' ⟨rfl, rfl⟩ n hn
    rw [List.length_map, List.take_length]
    exact k n hn
/-- a walk over things told by a list -/
theorem for_map {tb : AS} (L : List α) (enc : α → AV) (hx : xs = L.map enc) (W : Nat → Sta → Eta → Prop) (h0 : W 0 ρ η) (hst : ∀ i ρ η, i ≤ L.length → W i ρ η → stay η)
    (hs : ∀ i ρ η x, L[i]? = some x → W i ρ η → g (enc x) ρ η fun ρ2 η2 => tb { D with nx := W (i + 1), ct := W (i + 1), bk := D.nx } ρ2 η2) (hd : ∀ ρ η, W L.length ρ η → D.nx ρ η) : forK xs stay g tb D ρ η := by
  subst hx
  refine ⟨W, h0, fun i ρ η h => hst i ρ η (by rw [List.length_map] at h; exact h), fun i ρ η x e w => ?_, fun ρ η w => hd ρ η (by rw [List.length_map] at w; exact w)⟩
  rw [List.getElem?_map] at e
  obtain ⟨z, hz, rfl⟩ := Option.map_eq_some_iff.mp e
  exact hs i ρ η z hz w
theorem for_rng {tb : AS} {lo : Int} {n : Nat} (W : Nat → Sta → Eta → Prop) (h0 : W 0 ρ η)
    (hs : ∀ i ρ η, i < n → W i ρ η → g (.int (lo + (i : Int))) ρ η fun ρ2 η2 => tb { D with nx := W (i + 1), ct := W (i + 1), bk := D.nx } ρ2 η2) (hd : ∀ ρ η, W n ρ η → D.nx ρ η) : forK (rngA lo n) (fun _ => True) g tb D ρ η := by
  refine for_map (List.range n) (fun (k : Nat) => .int (lo + (k : Int))) rfl W h0 (fun _ _ _ _ _ => trivial) (fun i ρ η x e w => ?_) (fun ρ η w => hd ρ η (by rw [List.length_range] at w; exact w))
  obtain ⟨hi, e⟩ := List.getElem?_eq_some_iff.mp e
  rw [List.length_range] at hi
  rw [List.getElem_range] at e
  subst e
  exact hs i ρ η hi w
end
end
section
variable {K : KG} {X : Cx}
theorem xv (i : Nat) {x : Str} {pos : Pos} (hN : X.N[i]? = some x := by rfl) (hv : Vis X.env.scope x := by first | exact Or.inl rfl | exact Or.inr (Or.inl rfl) | exact Or.inr (Or.inr rfl)) (hd : (x == ("__debug__" : Str)) = false := by decide)
    (hcd : (x == ("__classdict__" : Str)) = false := by decide) : XE K X (.Name x pos) (aVar i) := xe_var hN hv hd hcd
/-- list(range(n)) -/
def aListRg (te : AE) : AE := fun ρ η Q => te ρ η fun x η1 => ∃ n : Int, x = .int n ∧ 0 ≤ n ∧ n ≤ 1000000 ∧ ∀ m, η1 m = none → Q (.rf m) (pt η1 m (.lst (rngA 0 n.toNat)))
theorem reps_fnL {θ : Th} {H : Hp} (n : Nat) : Reps K θ H (rngA 0 n) (fnL n fun i => .int i) := by
  unfold rngA fnL
  induction (List.range n) with
  | nil => exact .nil
  | cons a l ih =>
    refine .cons ?_ ih
    show Rep K θ H (.int (0 + (a : Int))) (.int (a : Int))
    rw [Int.zero_add]
    exact .int
theorem xe_listRg {e : Expr} {te : AE} {p p2 pos pos2 : Pos} (hc : X.calm = true) (hg : Gl X "list") (hm : X.mg "list" = none) (hg2 : Gl X "range") (hm2 : X.mg "range" = none) (he : XE K X e te)
    (na : starEach [Expr.Call (.Name "range" p2) [e] [] pos2] X.env = (false, eval (Expr.Call (.Name "range" p2) [e] [] pos2) X.env) :: starEach [] X.env := by rfl) (na2 : starEach [e] X.env = (false, eval e X.env) :: starEach [] X.env := by rfl) :
    XE K X (.Call (.Name "list" p) [.Call (.Name "range" p2) [e] [] pos2] [] pos) (aListRg te) := by
  obtain ⟨t, p1, q⟩ := he
  refine ⟨_, pe_listRg hc hg hm (prg_1 hg2 hm2 p1 na2) na, ?_⟩
  intro θ ρ η σ H AQ Q R S h C
  refine q θ ρ η σ H _ _ R S h ?_
  rintro θ1 η1 H1 x v e1 R1 r1 ⟨n, rfl, h0, h2, h1⟩
  cases r1
  refine ⟨n, rfl, ?_⟩
  refine MyK.r_kRg h0 h2 fun p H' hp s hl => ?_
  obtain ⟨m, hm, he⟩ := R1.pick
  have R2 := (R1.same s).track (n := m) (p := p) (o := .lst (rngA 0 n.toNat)) hm (R1.untr hp) hl (.inl ⟨_, rfl⟩) ⟨_, hl, reps_fnL _⟩ (K.mono _ _ _ _ (ext_track (.same s) hm hp) R1.gh)
  exact C (pt θ1 m p) _ _ _ _ (e1.trans (ext_track (.same s) hm hp)) R2 (.rf pt_same) (h1 m he)
end
end Ab

/-! the abstract layer: dict comprehensions, a dict's keys as a list. -/
namespace Ab
open PySem PySem.Spec PyProof.Rows L2 MyB MyR MyD
def aDcT (ai : AI) (g : AG) (tt : AT) (tk tv : AE) (vs : List Nat) : AE := fun ρ η Q => ai ρ η fun xs stay η1 => ∃ W : Nat → List (List Key × AV) → Eta → Prop, W 0 [] η1 ∧ (∀ i acc η, i ≤ xs.length → W i acc η → stay η) ∧
  (∀ i acc η x, xs[i]? = some x → W i acc η → g x (wipeA ρ vs) η fun ρ2 η2 => tt ρ2 η2 fun b η3 => if b = true then tk ρ2 η3 fun y η4 => tv ρ2 η4 fun z η5 => ∃ k, y = .tup (k.map kA) ∧ acc.length < 16000000 ∧ W (i + 1) (putA acc k z) η5 else W (i + 1) acc η3) ∧
  ∀ acc η, W xs.length acc η → ∀ n, η n = none → Q (.rf n) (pt η n (.dT acc))
section
variable {K : KG} {X : Cx}
theorem AbE.dcT {ai : AI} {wi : TI} {is : List Nat} {g : AG} {tt : AT} {tk tv : AE} {vs : List Nat} (hi : AbI K ai wi) (his : ∀ i ∈ is, i ∈ vs) : AbE K (aDcT ai g tt tk tv vs) (MyC.tDcT wi (liGc K is g) (liT K tt) (liE K tk) (liE K tv) vs) := by
  intro θ ρ η σ H AQ Q R S q C
  refine hi θ ρ η σ H _ _ R S q ?_
  rintro θ1 η1 H1 xs stay J e1 R1 wk ⟨W, w0, hst, turn, fin⟩ D hD
  have S1 := S.ext e1
  refine ⟨fun i m H' => m = xs.length - i ∧ i ≤ xs.length ∧ ∃ θ' η' acc ys, Ext θ1 H1 θ' H' ∧ RelH K θ' η' H' ∧ Untr θ' D ∧ H' D = some (.dT ys) ∧ RepK K θ' H' acc ys ∧ W i acc η', ⟨_, rfl, Nat.zero_le _, θ1, η1, [], [], ext_new hD, R1.new0 hD, R1.untr hD, upd_same, .nil, w0⟩, ?_⟩
  rintro i m H2 ⟨rfl, hle, θ2, η2, acc, ys, e2, R2, u2, h2, r2, w2⟩
  have hw := wk θ2 η2 H2 i e2 R2 (hst i acc η2 hle w2)
  by_cases c : i < xs.length
  · refine .inr ⟨(hw.1 c).1, fun H' => ∃ θ' η' acc ys, Ext θ1 H1 θ' H' ∧ RelH K θ' η' H' ∧ Untr θ' D ∧ H' D = some (.dT ys) ∧ RepK K θ' H' acc ys ∧ W (i + 1) acc η', fun H' n => ⟨_, ?_, rfl, by omega, n⟩, ?_⟩
    · omega
    · intro v H3 y
      obtain ⟨x, hx, e3, R3, r3⟩ := (hw.1 c).2 v H3 y
      have S3 : Rst K θ2 H3 ρ σ := S1.ext (e2.trans e3)
      refine ⟨θ2, wipeA ρ vs, η2, x, _, R3, S3.wipe vs, r3, turn i acc η2 x hx w2, ?_⟩
      intro θ4 η4 H4 ρ4 σ4 e4 R4 S4 o4 h4
      refine ⟨(o4 vs his).trans (wipe_wipe σ vs), θ4, ρ4, η4, _, R4, S4, h4, ?_⟩
      rintro θ5 η5 H5 b _ e5 R5 rfl h5
      have e25 := e3.trans (e4.trans e5)
      have h5D := e25.keep _ _ h2 u2
      have u5 := e25.untr h2 u2
      have r5 := r2.ext e25
      cases b with
      | true =>
        rw [if_pos rfl] at h5 ⊢
        refine ⟨θ5, ρ4, η5, _, R5, S4.ext e5, h5, ?_⟩
        intro θ6 η6 H6 y yv e6 R6 r6 h6
        refine ⟨θ6, ρ4, η6, _, R6, S4.ext (e5.trans e6), h6, ?_⟩
        rintro θ7 η7 H7 z zv e7 R7 r7 ⟨k, rfl, hacc, w7⟩
        have e57 := e6.trans e7
        have h7D := e57.keep _ _ h5D u5
        have u7 := e57.untr h5D u5
        have r7a := r5.ext e57
        have r6' := r6.ext e7
        cases r6' with
        | tup uk hk rk =>
          have ek := reps_kA rk
          subst ek
          refine ⟨_, .inr ⟨ys, k, _, h7D, rfl, hk, szlt (r7a.len ▸ hacc), rfl⟩, ?_⟩
          have m7 : MutK (.dT ys) := .inr (.inr ⟨_, rfl⟩)
          exact ⟨θ7, η7, putA acc k z, putK ys k zv, (e2.trans (e25.trans e57)).mut hD, R7.mut m7 h7D u7 (K.mono _ _ _ _ ((e2.trans (e25.trans e57)).mut hD) R1.gh), u7, upd_same, (r7a.put r7).mut m7 h7D, w7⟩
      | false =>
        rw [if_neg (by decide)] at h5 ⊢
        exact ⟨θ5, η5, acc, ys, e2.trans e25, R5, u5, h5D, r5, h5⟩
  · have ei : i = xs.length := by omega
    subst ei
    refine .inl ⟨hw.2 rfl, ?_⟩
    obtain ⟨n, hn, he⟩ := R2.pick
    have m2 : MutK (.dT ys) := .inr (.inr ⟨_, rfl⟩)
    exact C (pt θ2 n D) _ _ _ _ (e1.trans (ext_track e2 hn hD)) (R2.track hn u2 h2 m2 (show RepO K θ2 H2 D (.dT acc) from ⟨ys, h2, r2⟩) (K.mono _ _ _ _ (e1.trans (ext_track e2 hn hD)) R.gh)) (.rf pt_same) (fin acc η2 w2 n he)
variable {kx vx tg iter : Expr} {ifs : List Expr} {scope : Scope} {own : List (Str × Nat)} {pos : Pos} {ai : AI} {is : List Nat} {g : AG} {tt : AT} {tk tv te : AE}
theorem xe_dcT (hu : X.A.units + 1 < cLine) (hc : X.calm = true) (hN : X.N.Nodup) (hi : XIt K X tg iter ai) (ok : BlkOk X.N X.env.scope scope own)
    (hg : ∀ (s : Shared) (H : Hp) (C : Addr) (cl : List (Str × Addr)) (fp : List Addr), XGc K (X.blk s H scope (compEnvC scope cl C X.env) fp) tg is g) (ht : ∀ (s : Shared) (H : Hp) (C : Addr) (cl : List (Str × Addr)) (fp : List Addr), XTs K (X.blk s H scope (compEnvC scope cl C X.env) fp) ifs tt)
    (hk : ∀ (s : Shared) (H : Hp) (C : Addr) (cl : List (Str × Addr)) (fp : List Addr), XE K (X.blk s H scope (compEnvC scope cl C X.env) fp) kx tk)
    (he : ∀ (s : Shared) (H : Hp) (C : Addr) (cl : List (Str × Addr)) (fp : List Addr), XE K (X.blk s H scope (compEnvC scope cl C X.env) fp) vx tv) (his : ∀ i ∈ is, i ∈ own.map (·.2) := by decide) (hs : ∀ x, foldedSetIterable iter X.env x = pure x := by intro _; rfl) :
    XE K X (.DictComp kx vx [⟨tg, iter, ifs, 0⟩] scope pos) (aDcT ai g tt tk tv (own.map (·.2))) := by
  obtain ⟨wi, p0, q0⟩ := hi
  exact ⟨_, MyC.pe_dcT hu hc hN p0 ok (fun s H C cl fp => (hg s H C cl fp).li) (fun s H C cl fp => (ht s H C cl fp).li) (fun s H C cl fp => (hk s H C cl fp).li) (fun s H C cl fp => (he s H C cl fp).li) hs, AbE.dcT q0 his⟩
/-- list(d), d with tuples as keys -/
def kListD : ARn := fun xs η Q => ∃ n kvs, xs = [.rf n] ∧ η n = some (.dT kvs) ∧ ∀ m, η m = none → Q (.rf m) (pt η m (.lst (kvs.map fun kv => .tup (kv.1.map kA))))
theorem keys_rep {θ : Th} {H : Hp} {η : Eta} (R : RelH K θ η H) {kvs : List (List Key × AV)} {vs : List (List Key × V)} (r : RepK K θ H kvs vs) : ∀ {bs : List Addr}, IsKeys H vs bs → Reps K θ H (kvs.map fun kv => .tup (kv.1.map kA)) (bs.map V.ref) := by
  induction r with
  | nil => intro bs h; cases h; exact .nil
  | cons a b ih => intro bs h; cases h with | cons h t => exact .cons (.tup (R.untrT h) h kA_reps) (ih t)
theorem xc_listD (hc : X.calm = true) : XC K X (.type "list") kListD := by
  refine ⟨_, call_list_dT hc, ?_⟩
  rintro θ η H xs vs AQ Q R r ⟨n, kvs, rfl, hn, q⟩ C
  obtain ⟨v, rfl, r1⟩ := reps1 r
  cases r1 with
  | rf h =>
    obtain ⟨a, e, us, hu, ru⟩ := R.at n _ hn
    rw [h] at e; cases e
    exact ⟨_, us, rfl, .inl hu, fun p bs hp hb => new_lst R hp (keys_rep R ru hb) C q⟩
def uList : ARn := fun xs η Q => kList xs η Q ∨ kListD xs η Q
theorem xu_list (hK : X.K = K) (hc : X.calm = true) : XC K X (.type "list") uList := (xc_list hK).or (xc_listD hc)
end
/-! ### steps -/
def dcK (xs : List AV) (stay : Eta → Prop) (g : AG) (tt : AT) (tk tv : AE) (vs : List Nat) (ρ : Sta) (η1 : Eta) (Q : AK) : Prop := ∃ W : Nat → List (List Key × AV) → Eta → Prop, W 0 [] η1 ∧ (∀ i acc η, i ≤ xs.length → W i acc η → stay η) ∧
  (∀ i acc η x, xs[i]? = some x → W i acc η → g x (wipeA ρ vs) η fun ρ2 η2 => tt ρ2 η2 fun b η3 => if b = true then tk ρ2 η3 fun y η4 => tv ρ2 η4 fun z η5 => ∃ k, y = .tup (k.map kA) ∧ acc.length < 16000000 ∧ W (i + 1) (putA acc k z) η5 else W (i + 1) acc η3) ∧
  ∀ acc η, W xs.length acc η → ∀ n, η n = none → Q (.rf n) (pt η n (.dT acc))
section
variable {ρ : Sta} {η : Eta} {Q : AK} {tk tv te : AE} {x : AV}
theorem s_dc {ai : AI} {g : AG} {tt : AT} {vs : List Nat} (k : ai ρ η fun xs stay η1 => dcK xs stay g tt tk tv vs ρ η1 Q) : aDcT ai g tt tk tv vs ρ η Q := k
theorem s_sumM {α : Type} {n : Nat} {L : List α} {f : α → Int} (k : Q (.int (L.map f).sum) (pt η n (.lst (L.map fun x => .int (f x))))) : uSum [.rf n] (pt η n (.lst (L.map fun x => .int (f x)))) Q :=
  s_sum (ns := L.map f) (lo_rf (by rw [pt_same, List.map_map]; rfl)) k
theorem s_anyM {α : Type} {n : Nat} {L : List α} {f : α → Bool} (k : Q (.bl (L.any f)) (pt η n (.lst (L.map fun x => .bl (f x))))) : kAny [.rf n] (pt η n (.lst (L.map fun x => .bl (f x)))) Q :=
  s_any (bs := L.map f) (lo_rf (by rw [pt_same, List.map_map]; rfl)) (by rw [List.any_map]; exact k)
theorem s_allM {α : Type} {n : Nat} {L : List α} {f : α → Bool} (k : Q (.bl (L.all f)) (pt η n (.lst (L.map fun x => .bl (f x))))) : kAll [.rf n] (pt η n (.lst (L.map fun x => .bl (f x)))) Q :=
  s_all (bs := L.map f) (lo_rf (by rw [pt_same, List.map_map]; rfl)) (by rw [List.all_map]; exact k)
theorem s_iKeys {td : AE} {R : AR} (k : td ρ η fun x η1 => ∃ n od u, x = .rf n ∧ ((∃ kvs, η1 n = some (.fz (.dK kvs) od u) ∧ R (kvs.map fun kv => kA kv.1) (fun η => η n = some (.fz (.dK kvs) od u)) η1) ∨
  ∃ kvs, η1 n = some (.fz (.dT kvs) od u) ∧ R (kvs.map fun kv => .tup (kv.1.map kA)) (fun η => η n = some (.fz (.dT kvs) od u)) η1)) : aiKeys td ρ η R := k
def zipK (zs : List AV) (η : Eta) (R : AR) : Prop := ∃ x y xs ys, zs = [x, y] ∧ ((LstOf η x xs ∧ LstOf η y ys ∧ R (zipA xs ys) (fun η => LstOf η x xs ∧ LstOf η y ys) η) ∨ (x = .tup xs ∧ y = .tup ys ∧ R (zipA xs ys) (fun _ => True) η))
theorem s_iZip {ts : AA} {R : AR} (k : ts ρ η fun zs η1 => zipK zs η1 R) : aiZip ts ρ η R := k
theorem s_zipT {as bs : List AV} {R : AR} (k : R (zipA as bs) (fun _ => True) η) : zipK [.tup as, .tup bs] η R := ⟨_, _, as, bs, rfl, .inr ⟨rfl, rfl, k⟩⟩
theorem s_zipL {x y : AV} {as bs : List AV} {R : AR} (hx : LstOf η x as) (hy : LstOf η y bs) (k : R (zipA as bs) (fun η => LstOf η x as ∧ LstOf η y bs) η) : zipK [x, y] η R := ⟨_, _, as, bs, rfl, .inl ⟨hx, hy, k⟩⟩
theorem s_iEnum {ts : AA} {R : AR} (k : ts ρ η fun zs η1 => ∃ x xs, zs = [x] ∧ LstOf η1 x xs ∧ R (enumA xs) (fun η => LstOf η x xs) η1) : aiEnum ts ρ η R := k
theorem zipA_map {α β : Type} (f : α → AV) (g : β → AV) : ∀ (as : List α) (bs : List β), zipA (as.map f) (bs.map g) = (as.zip bs).map fun p => .tup [f p.1, g p.2]
  | [], _ => by simp [zipA]
  | _ :: _, [] => by simp [zipA]
  | a :: as, b :: bs => by
    have h := zipA_map f g as bs
    unfold zipA at h ⊢
    rw [List.map_cons, List.map_cons, List.zipWith_cons_cons, h]
    rfl
theorem s_listL' {xs : List AV} (hx : LstOf η x xs) (k : ∀ n, η n = none → Q (.rf n) (pt η n (.lst xs))) : uList [x] η Q := .inl (s_listL hx k)
theorem s_listT' {xs : List AV} (k : ∀ n, η n = none → Q (.rf n) (pt η n (.lst xs))) : uList [.tup xs] η Q := .inl (s_listT k)
theorem s_listD {n : Nat} {kvs : List (List Key × AV)} (h : η n = some (.dT kvs)) (k : ∀ m, η m = none → Q (.rf m) (pt η m (.lst (kvs.map fun kv => .tup (kv.1.map kA))))) : uList [.rf n] η Q := .inr ⟨n, kvs, rfl, h, k⟩
variable {α : Type} {xs : List AV} {stay : Eta → Prop} {g : AG} {vs : List Nat}
/-- a dict of distinct keys, all items taken -/
theorem dc_map (L : List α) (enc : α → AV) (key : α → List Key) (f : α → AV) (hx : xs = L.map enc) (hl : L.length ≤ 16000000) (nd : (L.map key).Nodup) (hst : stay η)
    (hs : ∀ x ∈ L, ∀ Add : AV → AV → Eta → Prop, Add (.tup ((key x).map kA)) (f x) η → g (enc x) (wipeA ρ vs) η fun ρ2 η2 => tk ρ2 η2 fun y η4 => tv ρ2 η4 (Add y))
    (k : ∀ n, η n = none → Q (.rf n) (pt η n (.dT (L.map fun x => (key x, f x))))) : dcK xs stay g aYes tk tv vs ρ η Q := by
  subst hx
  refine ⟨fun i acc η' => η' = η ∧ acc = (L.take i).map fun x => (key x, f x), ⟨rfl, rfl⟩, fun i acc η' _ h => h.1 ▸ hst, ?_, ?_⟩
  · rintro i acc η' x e ⟨rfl, rfl⟩
    rw [List.getElem?_map] at e
    obtain ⟨z, hz, rfl⟩ := Option.map_eq_some_iff.mp e
    obtain ⟨hi, hzz⟩ := List.getElem?_eq_some_iff.mp hz
    have et : L.take (i + 1) = L.take i ++ [z] := by rw [List.take_add_one, hz]; rfl
    have key' := hs z (List.mem_of_getElem? hz) (fun y w η5 => ∃ k, y = .tup (k.map kA) ∧ ((L.take i).map fun x => (key x, f x)).length < 16000000 ∧ η5 = η' ∧ putA ((L.take i).map fun x => (key x, f x)) k w = (L.take (i + 1)).map fun x => (key x, f x)) ?_
    · exact key'
    · refine ⟨key z, rfl, by rw [List.length_map, List.length_take]; omega, rfl, ?_⟩
      unfold putA
      rw [if_neg ?_, et, List.map_append]
      · rfl
      · rw [List.any_eq_true]
        rintro ⟨kv, hkv, ek⟩
        obtain ⟨y, hy, rfl⟩ := List.mem_map.mp hkv
        have ek' : key y = key z := by simpa using ek
        have nd' : ((L.take (i + 1)).map key).Nodup := nd.sublist ((List.take_sublist _ _).map _)
        rw [et, List.map_append, List.nodup_append] at nd'
        exact nd'.2.2 (key y) (List.mem_map_of_mem hy) (key z) (by simp) ek'
  · rintro acc η' ⟨rfl, rfl⟩ n hn
    rw [List.length_map, List.take_length]
    exact k n hn
end
/-! ### what may be forgotten -/
def Kept (η η' : Eta) : Prop := ∀ n o, η n = some o → η' n = some o
theorem Kept.refl {η : Eta} : Kept η η := fun _ _ e => e
theorem Kept.put {η η' : Eta} {n : Nat} {o : AO} (h : Kept η η') (hn : η n = none) : Kept η (pt η' n o) := fun m u e => by
  rw [pt_ne (by rintro rfl; rw [hn] at e; cases e)]
  exact h m u e
theorem Kept.none {η η' : Eta} {n : Nat} (h : Kept η η') (hn : η' n = none) : η n = none := by
  cases e : η n with
  | none => rfl
  | some o => rw [h n o e] at hn; cases hn
theorem Kept.trans {η η1 η2 : Eta} (h : Kept η η1) (g : Kept η1 η2) : Kept η η2 := fun n o e => g n o (h n o e)
theorem Kept.back {η η' : Eta} {n : Nat} {o : AO} (h : Kept η η') (hn : η n = some o) : Kept η (pt η' n o) := fun m u e => by
  by_cases c : m = n
  · subst c
    rw [pt_same, ← hn, e]
  · rw [pt_ne c]
    exact h m u e
theorem Dr.sub {Q : AK} {x : AV} {η η' : Eta} (h : Kept η η') (q : Q x η) : Dr Q x η' := ⟨η, h, q⟩
theorem s_slT3 {η : Eta} {Q : AK} {a b c : AV} (k : Q (.tup [a, b]) η) : uSl (.tup [a, b, c]) none (some 2) η Q := .inl ⟨_, rfl, k⟩
/-- locked, a new thing made, unlocked -/
theorem unlock1 {η : Eta} {n m : Nat} {f l o : AO} (hn : η n = some o) (nm : m ≠ n) : pt (pt (pt η n f) m l) n o = pt η m l := by
  funext q
  by_cases c : q = n
  · subst c
    rw [pt_same, pt_ne (Ne.symm nm), hn]
  · rw [pt_ne c]
    by_cases c2 : q = m
    · subst c2
      rw [pt_same, pt_same]
    · rw [pt_ne c2, pt_ne c2, pt_ne c]
theorem unlock0 {η : Eta} {n : Nat} {f o : AO} (hn : η n = some o) : pt (pt η n f) n o = η := by
  funext q
  by_cases c : q = n
  · subst c
    rw [pt_same, hn]
  · rw [pt_ne c, pt_ne c]
end Ab

/-! min and max of one list or tuple of ints. -/
namespace MyK
open PySem L2 MyB MyR MyD
section
open PySem.Spec PySem.Calls PyProof.Rows PyProof.V
variable {prog : Program} {w : World} {A : Around} {E : Value → Shared → Prop} {s : Shared} {l : Addr} {xs : Array (Int × Tok)} {its : List Value} {ns : List Int}
theorem min_tup0 {Q : Value → Shared → Prop} (hh : A.handled = none) (ht : s.heap.IsTuple l (intItems xs)) (hne : 0 < xs.size)
    (h : ∀ v h' tk, (intItems xs)[argBest (fun i j => decide (numAt xs i < numAt xs j)) (xs.size - 1)]? = some v → (∀ b o, s.heap.get? b = some o → h'.get? b = some o) → Q v { s with heap := h', toks := tk }) :
    wpAny (model prog w) A (call (.builtin "min") [.ref l]) Q E s := by
  obtain ⟨o, ho, hc, n, hd⟩ := id ht
  have hne' : l ≠ s.heap.objs.size := Nat.ne_of_lt (Heap.lt_size ho)
  refine call_min_walk (wpAny_pyIter_tuple ht ?_)
  refine ⟨s.heap.objs.size, _, _, _, _, _, _, rfl, Walks.tuple (A := A.in1) hh _ l hne' (intItems xs), ⟨⟨_, Heap.get?_push_size _ rfl, rfl, rfl⟩, ht.at fun o e => Heap.get?_push_of_some _ e⟩, fun b hb => ?_, by simpa [intItems] using hne, CmpOf.ints_lt (numAt xs) (fun _ _ => intItems_at), fun v h' tk hP hk => ?_⟩
  · rcases List.mem_cons.mp hb with rfl | hb
    · exact Heap.lt_size (Heap.get?_push_size _ rfl)
    · obtain rfl := List.mem_singleton.mp hb
      exact Heap.lt_size (Heap.get?_push_of_some _ ho)
  · refine h v h' tk (by simpa [intItems] using hP) fun b o e => hk b o (fun hm => ?_) (Heap.get?_push_of_some _ e)
    have := List.mem_singleton.mp hm
    exact absurd (this ▸ Heap.lt_size e) (Nat.lt_irrefl _)
theorem max_tup0 {Q : Value → Shared → Prop} (hh : A.handled = none) (ht : s.heap.IsTuple l (intItems xs)) (hne : 0 < xs.size)
    (h : ∀ v h' tk, (intItems xs)[argBest (fun i j => decide (numAt xs i > numAt xs j)) (xs.size - 1)]? = some v → (∀ b o, s.heap.get? b = some o → h'.get? b = some o) → Q v { s with heap := h', toks := tk }) :
    wpAny (model prog w) A (call (.builtin "max") [.ref l]) Q E s := by
  obtain ⟨o, ho, hc, n, hd⟩ := id ht
  have hne' : l ≠ s.heap.objs.size := Nat.ne_of_lt (Heap.lt_size ho)
  refine call_max_walk (wpAny_pyIter_tuple ht ?_)
  refine ⟨s.heap.objs.size, _, _, _, _, _, _, rfl, Walks.tuple (A := A.in1) hh _ l hne' (intItems xs), ⟨⟨_, Heap.get?_push_size _ rfl, rfl, rfl⟩, ht.at fun o e => Heap.get?_push_of_some _ e⟩, fun b hb => ?_, by simpa [intItems] using hne, CmpOf.ints_gt (numAt xs) (fun _ _ => intItems_at), fun v h' tk hP hk => ?_⟩
  · rcases List.mem_cons.mp hb with rfl | hb
    · exact Heap.lt_size (Heap.get?_push_size _ rfl)
    · obtain rfl := List.mem_singleton.mp hb
      exact Heap.lt_size (Heap.get?_push_of_some _ ho)
  · refine h v h' tk (by simpa [intItems] using hP) fun b o e => hk b o (fun hm => ?_) (Heap.get?_push_of_some _ e)
    have := List.mem_singleton.mp hm
    exact absurd (this ▸ Heap.lt_size e) (Nat.lt_irrefl _)
theorem min_tup {Q : Value → Shared → Prop} (hh : A.handled = none) (hl : s.heap.IsTuple l its.toArray) (hi : IntsAre its ns) (hne : 0 < ns.length)
    (h : ∀ h' tk M t', (∀ b o, s.heap.get? b = some o → h'.get? b = some o) → M ∈ ns → (∀ a, a ∈ ns → M ≤ a) → Q (.int M t') { s with heap := h', toks := tk }) : wpAny (model prog w) A (call (.builtin "min") [.ref l]) Q E s := by
  obtain ⟨xs, e⟩ := hi.allInts.items
  have hn : numsOf (intItems xs).toList = ns := by rw [← e]; exact hi.numsOf
  rw [nums_intItems] at hn
  subst hn
  rw [e] at hl
  have hsz : 0 < xs.size := by simpa using hne
  refine min_tup0 hh hl hsz fun v h' tk hv hk => ?_
  obtain ⟨t, rfl⟩ := intItems_at hv
  obtain ⟨h1, h2⟩ := argBest_lt (numAt xs) (xs.size - 1)
  refine h h' tk _ t hk ?_ fun a ha => ?_
  · rw [numAt_eq]; exact PySem.getD_mem (by rw [List.length_map, Array.length_toList]; omega)
  · obtain ⟨j, hj, rfl⟩ := mem_getD ha
    rw [List.length_map, Array.length_toList] at hj
    rw [← numAt_eq]; exact h2 j (by omega)
theorem max_tup {Q : Value → Shared → Prop} (hh : A.handled = none) (hl : s.heap.IsTuple l its.toArray) (hi : IntsAre its ns) (hne : 0 < ns.length)
    (h : ∀ h' tk M t', (∀ b o, s.heap.get? b = some o → h'.get? b = some o) → M ∈ ns → (∀ a, a ∈ ns → a ≤ M) → Q (.int M t') { s with heap := h', toks := tk }) : wpAny (model prog w) A (call (.builtin "max") [.ref l]) Q E s := by
  obtain ⟨xs, e⟩ := hi.allInts.items
  have hn : numsOf (intItems xs).toList = ns := by rw [← e]; exact hi.numsOf
  rw [nums_intItems] at hn
  subst hn
  rw [e] at hl
  have hsz : 0 < xs.size := by simpa using hne
  refine max_tup0 hh hl hsz fun v h' tk hv hk => ?_
  obtain ⟨t, rfl⟩ := intItems_at hv
  obtain ⟨h1, h2⟩ := argBest_gt (numAt xs) (xs.size - 1)
  refine h h' tk _ t hk ?_ fun a ha => ?_
  · rw [numAt_eq]; exact PySem.getD_mem (by rw [List.length_map, Array.length_toList]; omega)
  · obtain ⟨j, hj, rfl⟩ := mem_getD ha
    rw [List.length_map, Array.length_toList] at hj
    rw [← numAt_eq]; exact h2 j (by omega)
end
end MyK
namespace Ab
open PySem PySem.Spec PyProof.Rows L2 MyB MyR MyD
def kMin1 : ARn := fun xs η Q => ∃ (x : AV) (ns : List Int), xs = [x] ∧ (LstOf η x (ns.map AV.int) ∨ x = .tup (ns.map AV.int)) ∧ 0 < ns.length ∧ ∀ m, m ∈ ns → (∀ y, y ∈ ns → m ≤ y) → Q (.int m) η
def kMax1 : ARn := fun xs η Q => ∃ (x : AV) (ns : List Int), xs = [x] ∧ (LstOf η x (ns.map AV.int) ∨ x = .tup (ns.map AV.int)) ∧ 0 < ns.length ∧ ∀ m, m ∈ ns → (∀ y, y ∈ ns → y ≤ m) → Q (.int m) η
section
variable {K : KG} {X : Cx}
theorem xc_min1 (hK : X.K = K) (hc : X.calm = true) : XC K X (.builtin "min") kMin1 := by
  obtain ⟨K, Gg, mn⟩ := K; have hK : X.K = K := hK; subst hK
  refine ⟨fun vs H Q => ∃ (a : Addr) (ns : List Int), vs = [V.ref a] ∧ (SqL X.K H a (ns.map V.int) ∨ SqT X.K H a (ns.map V.int)) ∧ 0 < ns.length ∧ ∀ m, m ∈ ns → (∀ y, y ∈ ns → m ≤ y) → Q (.int m) H, ?_, ?_⟩
  · rintro pins s σ H vs us Q I r ⟨a, ns, rfl, hs | hs, hne, q⟩
    · exact cr_min hc pins s σ H _ us Q I r ⟨a, ns, rfl, hs, hne, q⟩
    · obtain ⟨its, rv, hl, _⟩ := I.tuple hs
      rw [Vals.ref1 r]
      exact MyK.min_tup (I.ok.hd hc) hl rv.ints hne fun h' tk m t' hk h1 h2 => ⟨.int _, H, I.kept hk, ⟨_, rfl⟩, q m h1 h2⟩
  · rintro θ η H xs vs AQ Q R r ⟨x, ns, rfl, hx, hne, q⟩ C
    obtain ⟨v, rfl, r1⟩ := reps1 r
    obtain ⟨p, us, rfl, hu, ru⟩ := seq_rep hx R r1
    rw [ru.ints] at hu
    exact ⟨p, ns, rfl, hu, hne, fun m h1 h2 => C θ η H _ _ .refl R .int (q m h1 h2)⟩
theorem xc_max1 (hK : X.K = K) (hc : X.calm = true) : XC K X (.builtin "max") kMax1 := by
  obtain ⟨K, Gg, mn⟩ := K; have hK : X.K = K := hK; subst hK
  refine ⟨fun vs H Q => ∃ (a : Addr) (ns : List Int), vs = [V.ref a] ∧ (SqL X.K H a (ns.map V.int) ∨ SqT X.K H a (ns.map V.int)) ∧ 0 < ns.length ∧ ∀ m, m ∈ ns → (∀ y, y ∈ ns → y ≤ m) → Q (.int m) H, ?_, ?_⟩
  · rintro pins s σ H vs us Q I r ⟨a, ns, rfl, hs | hs, hne, q⟩
    · exact cr_max hc pins s σ H _ us Q I r ⟨a, ns, rfl, hs, hne, q⟩
    · obtain ⟨its, rv, hl, _⟩ := I.tuple hs
      rw [Vals.ref1 r]
      exact MyK.max_tup (I.ok.hd hc) hl rv.ints hne fun h' tk m t' hk h1 h2 => ⟨.int _, H, I.kept hk, ⟨_, rfl⟩, q m h1 h2⟩
  · rintro θ η H xs vs AQ Q R r ⟨x, ns, rfl, hx, hne, q⟩ C
    obtain ⟨v, rfl, r1⟩ := reps1 r
    obtain ⟨p, us, rfl, hu, ru⟩ := seq_rep hx R r1
    rw [ru.ints] at hu
    exact ⟨p, ns, rfl, hu, hne, fun m h1 h2 => C θ η H _ _ .refl R .int (q m h1 h2)⟩
end
end Ab

/-! `is True`, `is not True` of a bool. -/
namespace Ab
open PySem PySem.Spec PyProof.Rows L2 MyB MyR MyD MyC
def kIsB (neg : Bool) : AR2 := fun x y η Q => ∃ a b : Bool, x = .bl a ∧ y = .bl b ∧ Q (.bl (if neg then !decide (a = b) else decide (a = b))) η
section
variable {K : KG} {X : Cx}
theorem xo_isB : XO K X (compareOp .Is) (kIsB false) := by
  refine ⟨_, op_is_bl, ?_⟩
  rintro θ η H x y v u AQ Q R r1 r2 ⟨a, b, rfl, rfl, q⟩ C
  cases r1
  cases r2
  exact ⟨a, b, rfl, rfl, C θ η H _ _ .refl R .bl q⟩
theorem xo_notB : XO K X (compareOp .IsNot) (kIsB true) := by
  refine ⟨_, op_isnot_bl, ?_⟩
  rintro θ η H x y v u AQ Q R r1 r2 ⟨a, b, rfl, rfl, q⟩ C
  cases r1
  cases r2
  exact ⟨a, b, rfl, rfl, C θ η H _ _ .refl R .bl q⟩
end
section
variable {η : Eta} {Q : AK}
theorem s_isT {a : Bool} (k : Q (.bl a) η) : kIsB false (.bl a) (.bl true) η Q := ⟨a, true, rfl, rfl, by cases a <;> exact k⟩
theorem s_notT {a : Bool} (k : Q (.bl (!a)) η) : kIsB true (.bl a) (.bl true) η Q := ⟨a, true, rfl, rfl, by cases a <;> exact k⟩
theorem s_isF {a : Bool} (k : Q (.bl (!a)) η) : kIsB false (.bl a) (.bl false) η Q := ⟨a, false, rfl, rfl, by cases a <;> exact k⟩
theorem s_notF {a : Bool} (k : Q (.bl a) η) : kIsB true (.bl a) (.bl false) η Q := ⟨a, false, rfl, rfl, by cases a <;> exact k⟩
end
end Ab

/-! the law itself, over its script -/
namespace Ab
open PySem PySem.Spec PyProof.Rows L2 MyB MyR MyD
def SLaw (K : PySem.W.Frag) : Sp := fun vs H Q _ => ∃ (a : Addr) (ns : List Int), vs = [.ref a] ∧ SqL K H a (ns.map V.int) ∧ ns.length ≤ 63 ∧ ∀ H', Q (.bl true) H'
/-- the script as a value -/
theorem script_rel {K : PySem.W.Frag} {H : Hp} {a : Addr} {ns : List Int} (h : SqL K H a (ns.map V.int)) : ∃ θ η x, RelH (KG.top K) θ η H ∧ Rep K θ H x (.ref a) ∧ LstOf η x (ns.map AV.int) := by
  have r0 : ∀ θ, Reps K θ H (ns.map AV.int) (ns.map V.int) := fun θ => Reps.ofInts
  have e0 : RelH (KG.top K) (fun _ => none) (fun _ => none) H := ⟨fun _ _ h => (by cases h), fun _ _ _ h => (by cases h), fun _ _ h => (by cases h), ⟨0, fun _ _ => rfl⟩, trivial⟩
  have ut : Untr (fun _ => none) a := fun n h => by cases h
  rcases h with (h | ⟨o, h⟩) | h
  · refine ⟨pt (fun _ => none) 0 a, pt (fun _ => none) 0 (.lst (ns.map AV.int)), .rf 0, ?_, .rf pt_same, .inl ⟨0, rfl, pt_same⟩⟩
    exact e0.track rfl ut h (.inl ⟨_, rfl⟩) ⟨_, h, r0 _⟩
  · exact ⟨fun _ => none, fun _ => none, .kl (ns.map AV.int), e0, .kl (.inl ⟨ut, o, h⟩) (r0 _), .inr rfl⟩
  · exact ⟨fun _ => none, fun _ => none, .kl (ns.map AV.int), e0, .kl (.inr (.inr h)) (r0 _), .inr rfl⟩
theorem law_okA {P : Program} {w : World} {K : PySem.W.Frag} {mg : Str → Option Value} {base : Heap} {k : Nat} {p x qual : Str} {st : Stmt} {f : Addr} {fd : FuncData} {N : List Str} (F : Fun K x qual st f fd) (S : FnScope N [p] (defScope st))
    (hbody : ∀ (cdv : Value) (A : Around) (outer : List Env) (s : Shared) (H : Hp) (E : XK), Room k (A.deeper (envOfC qual (defScope st) s.heap.objs.size f cdv)) →
      ∃ t, XSs (KG.top K) (cxOf CX0 P w K mg base N qual (defScope st) f cdv A outer s H E).nox (defBody st) t ∧
        ∀ (x : AV) (ns : List Int) (η : Eta) (Q : AK), LstOf η x (ns.map AV.int) → ns.length ≤ 63 → (∀ η', Q (.bl true) η') → t { nx := fun _ _ => False, rt := Q } (startA N [x]) η) : FnOk P w K mg base CX0 (k + 1) f fd [p] (SLaw K) := by
  refine F.ok S (fun vs H Q E h => ?_) (fun cdv A outer s H vs Q E hr h => ?_)
  · obtain ⟨a, ns, rfl, _⟩ := h
    rfl
  · obtain ⟨a, ns, rfl, hS, hl, kk⟩ := h
    obtain ⟨θ, η, x, R, r, hx⟩ := script_rel hS
    obtain ⟨t, ⟨t1, p1, q1⟩, hb⟩ := hbody cdv A outer s H E hr
    refine ⟨t1, p1, q1 θ _ η _ H _ _ R (Rst.start (.cons r .nil)) (hb x ns η (fun y _ => y = .bl true) hx hl fun _ => rfl) ⟨?_, ?_, ?_, ?_⟩⟩
    · exact fun _ _ _ _ _ _ _ _ z => z.elim
    · rintro θ1 η1 H1 y v e1 R1 r1 rfl
      cases r1
      exact kk _
    · exact fun _ _ _ _ _ _ _ _ z => z.elim
    · exact fun _ _ _ _ _ _ _ _ z => z.elim
end Ab

/-! enumerate over a tuple; a, b = a list. -/
namespace PySem
open Sem (wp)
theorem meets_enumerate_newB1 {v : Value} {o : Obj} {H : Heap → Prop} (B : Begins v o H) :
    Meets (Builtin.«enumerate.__new__» ⟨[.type "enumerate", v], []⟩) (fun _ R s => H s.heap ∧
      R (.ok (.ret (.ref (s.heap.push o).objs.size))) { s with heap := (s.heap.push o).push { cls := .type "enumerate", data := .fields #[.none, .bool false, .ref s.heap.objs.size, rawInt 0, .none, .none] } }) :=
  .of_wp fun prog w A R s h => by
    obtain ⟨hp, g, d, tk, os⟩ := s; obtain ⟨h1, h⟩ := h
    have hsub := sub_enumerate
    have q1 : ∀ {A' : Around} {E : Value → Shared → Prop} {Q : Value → Shared → Prop}, Q (.ref hp.objs.size) ⟨hp.push o, g, d, tk, os⟩ → wpAny (model prog w) A' (pyIter v) Q E ⟨hp, g, d, tk, os⟩ :=
      fun q => B.iter prog w _ _ ⟨hp, g, d, tk, os⟩ _ h1 q
    wp_walk using q1
    refine wpAny_stack_any fun st => wpAny_pure ?_
    split
    · rename_i c _ _ _ _ _
      cases (c == Value.type "enumerate")
      · wp_walk using q1
        exact ⟨_, rfl, h⟩
      · wp_walk using q1
        exact ⟨_, rfl, h⟩
    · wp_walk using q1
      exact ⟨_, rfl, h⟩
section
variable {prog : Program} {w : World} {A : Around} {E : Value → Shared → Prop} {s : Shared}
theorem enum_begins1 {v : Value} {o : Obj} {H : Heap → Prop} {Q : Value → Shared → Prop} (B : Begins v o H) (h1 : H s.heap)
    (h : ∀ h', IsEnum h' (s.heap.objs.size + 1) s.heap.objs.size 0 .none → h'.get? s.heap.objs.size = some o → h'.objs.size = s.heap.objs.size + 2 →
      (∀ b o, s.heap.get? b = some o → h'.get? b = some o) → Q (.ref (s.heap.objs.size + 1)) { s with heap := h' }) :
    wpAny (model prog w) A (call (.type "enumerate") [v]) Q E s := by
  refine callType_new F.called_enumerate (by decide) (F.typeCall_enumerate_1 _) (F.newCall_enumerate_1 _) (fun obj => F.args_object_init_2 obj _) F.entry_enumerate_new
    (meets_enumerate_newB1 B) ⟨h1, ?_⟩
  have hz : (s.heap.push o).objs.size = s.heap.objs.size + 1 := Heap.size_push ..
  show _ ∧ _
  rw [hz]
  have he : IsEnum ((s.heap.push o).push { cls := .type "enumerate", data := .fields #[.none, .bool false, .ref s.heap.objs.size, rawInt 0, .none, .none] }) (s.heap.objs.size + 1) s.heap.objs.size 0 .none := by
    have := Heap.get?_push_size (s.heap.push o) (o := { cls := .type "enumerate", data := .fields #[.none, .bool false, .ref s.heap.objs.size, rawInt 0, .none, .none] }) rfl
    rw [hz] at this; exact this
  refine ⟨⟨_, he, rfl⟩, h _ he (Heap.get?_push_of_some _ (Heap.get?_push_size _ B.free)) (by rw [Heap.size_push, hz]) fun b o x => Heap.get?_push_of_some _ (Heap.get?_push_of_some _ x)⟩
end
end PySem
namespace MyK
open PySem PySem.Spec PyProof.Rows L2
/-- the tuple at a, each item in a new pair -/
def IteT (K : PySem.W.Frag) (a : Addr) : It :=
  ⟨fun i H => ∃ (xs : List V) (x : V), SqT K H a xs ∧ xs[i]? = some x, fun i H v H' => ∃ T x, v = .ref T ∧ H T = none ∧ H' = upd H T (.tup [.int (i : Nat), x]) ∧ ∀ xs, SqT K H a xs → xs[i]? = some x, fun i H => ∃ xs : List V, SqT K H a xs ∧ xs.length ≤ i⟩
theorem turn_enumT {P : Program} {w : World} {K : PySem.W.Frag} {elts : List Expr} {kk : Nat} {tpos : Pos} (a e it : Addr) :
    Turn P w K (.Tuple elts kk tpos) (IteT K a) [e, it] e (fun i h => (∃ old, IsEnum h e it ((i : Nat) : Int) old) ∧ h.IsTupleIter it a i ∧ e ≠ it ∧ e ≠ a ∧ a ≠ it) where
  mem := by simp
  obj := fun i h st b hb => by
    obtain ⟨⟨old, he⟩, ⟨o, ho, hc, hd⟩, _⟩ := st
    have e' : b = e ∨ b = it := by simpa using hb
    rcases e' with z | z
    · rw [z]; exact ⟨_, he, fun v q => nomatch q⟩
    · rw [z]; exact ⟨o, ho, fun v q => by rw [hd] at q; cases q⟩
  keep := fun i h h' st k => let ⟨⟨old, he⟩, hi, hne⟩ := st; ⟨⟨old, k e (by simp) _ he⟩, hi.at fun o q => k it (by simp) o q, hne⟩
  item := by
    intro X hP hw hK hc i pins s σ H E I hf st hg
    subst hP hw hK
    obtain ⟨⟨old, he⟩, hit, hne, hea, hai⟩ := st
    obtain ⟨xs, x, hq, hx⟩ := hg
    obtain ⟨its, rv, p, hz⟩ := I.tuple hq
    have p : s.heap.IsTuple a its.toArray := p
    obtain ⟨u, hu, ru⟩ := rv.get hx
    have hel : e < s.heap.objs.size := Heap.lt_size he
    have hil : it < s.heap.objs.size := by obtain ⟨_, q, _⟩ := hit; exact Heap.lt_size q
    have hlt : i < its.toArray.size := by
      have := (List.getElem?_eq_some_iff.mp hu).1
      simpa using this
    refine wpAny_pyNext_enum_itemD (Draws.tuple (A := X.A.in1) (show X.A.in1.handled = none from I.ok.hd hc) it a hai its.toArray) he ⟨hit, p⟩ hlt hne (by simp [hne, hea]) fun x' h' tk hP ho hst' hT hsz hk => ?_
    have hu' : its.toArray[i]? = some u := by simpa using hu
    rw [hu'] at hP
    cases hP
    refine ⟨_, rfl, wpAny_letOwnedTupleGo_enum (s := { s with heap := h', toks := tk + 1 }) ho fun h'' he' sb => ?_⟩
    have hT2 : h''.get? s.heap.objs.size = some { cls := .type "tuple", data := .seq #[.int i tk, u] } := (sb.2 _ (Nat.ne_of_gt hel)).trans hT
    have new : ObjOk X.prog X.w (upd H s.heap.objs.size (.tup [.int (i : Nat), x])) h'' s.heap.objs.size (.tup [.int (i : Nat), x]) :=
      ⟨by show 2 ≤ sizeLine; decide, [.int i tk, u], .cons ⟨_, rfl⟩ (.cons ru .nil), ⟨_, hT2, rfl, _, rfl⟩⟩
    have I1 : Inv X pins σ (upd H s.heap.objs.size (.tup [.int (i : Nat), x])) { s with heap := h'', toks := tk + 1 } :=
      I.turnedNew (ch := [e, it]) (fun b ob hb q => (sb.2 b (fun z => hb (by simp [z]))).trans (hk b ob (fun z => hb (by simp [z])) (fun z => hb (by simp [z])) q)) hf (Nat.le_refl _) new
    refine ⟨.ref s.heap.objs.size, _, I1, rfl, ⟨_, x, rfl, I.hok.fresh (Nat.le_refl _), rfl, fun ys hy => by rw [I.tuple_inj hy hq]; exact hx⟩, ⟨⟨u, ?_⟩, hst'.1.at fun o q => (sb.2 it (Ne.symm hne)).trans q, hne, hea, hai⟩, fun b hb => ?_⟩
    · have e1 : ((i + 1 : Nat) : Int) = (i : Int) + 1 := by omega
      rw [e1]; exact he'
    · have hb' : b < s.heap.objs.size := by
        have e' : b = e ∨ b = it := by simpa using hb
        rcases e' with z | z
        · rw [z]; exact hel
        · rw [z]; exact hil
      rw [upd_ne (Nat.ne_of_lt hb')]
      exact (hf b hb).1
  done := by
    intro X hP hw hK hc i pins s σ H E I hf st hg
    subst hP hw hK
    obtain ⟨⟨old, he⟩, hit, hne, hea, hai⟩ := st
    obtain ⟨xs, hq, hx⟩ := hg
    obtain ⟨its, rv, p, hz⟩ := I.tuple hq
    have p : s.heap.IsTuple a its.toArray := p
    obtain ⟨f0, f1, f2, f3, f4, f5⟩ := hf it (by simp)
    have hl := rv.length
    have hno : its.toArray[i]? = none := by simp; omega
    have hh : X.A.in1.handled = none := I.ok.hd hc
    have D : Draws X.prog X.w X.A.in1 it [it, a] i (fun _ _ => True) (fun j h => j = i ∧ h.IsTupleIter it a i ∧ h.IsTuple a its.toArray) :=
      ⟨fun _ _ st => let ⟨o, ho, _⟩ := st.2.1; ⟨o, ho⟩, fun _ _ _ st hk => ⟨st.1, st.2.1.at fun o e => hk it (by simp) o e, st.2.2.at fun o e => hk a (by simp) o e⟩, fun j s Q E hi st hQ => absurd st.1 (Nat.ne_of_lt hi), fun s Q E st hE => wpAny_nextOf_tuple_end hh st.2.1 st.2.2 hno hE⟩
    exact wpAny_pyNext_enum_endD D he ⟨rfl, hit, p⟩ fun h' eb => ⟨rfl, I.turned (t' := s.toks) (fun b o hb q => eb b o hb q) f0 f1 f3 f4 f5⟩
  self := fun A i s Q E st h => let ⟨⟨_, he⟩, _⟩ := st; wpAny_pyIter_enum he h
def iEnumT (K : PySem.W.Frag) (ta : TA) : TI := fun σ H R => ta σ H fun vs H1 => ∃ a xs, vs = [.ref a] ∧ SqT K H1 a xs ∧ R (IteT K a) H1
theorem pi_enumT {X : Cx} {e : Expr} {ta : TA} {p pos tpos : Pos} {elts : List Expr} {kk : Nat} (hg : Gl X "enumerate") (hm : X.mg "enumerate" = none) (ha : PA X [e] ta) (hs : starEach [e] X.env = [(false, eval e X.env)] := by rfl) :
    PI X (.Tuple elts kk tpos) (.Call (.Name "enumerate" p) [e] [] pos) (iEnumT X.K ta) := by
  refine ⟨fun pins s σ H R I h => ?_⟩
  refine Call_ (ld_blt I hg hm boot_enumerate (PyProof.Rows.callWith_type1 (thn (ha.run pos pins s σ H _ I h) fun us s1 ⟨vs, H1, I1, r1, q1⟩ => ?_) hs rfl))
  obtain ⟨a, xs, ex, hq, q⟩ := q1
  subst ex
  cases r1 with
  | cons r rr =>
    cases rr
    cases r
    obtain ⟨its, rv, p', hz⟩ := I1.tuple hq
    have p' : s1.heap.IsTuple a its.toArray := p'
    have hal : a < s1.heap.objs.size := by obtain ⟨_, q, _⟩ := id p'; exact Heap.lt_size q
    refine enum_begins1 (begins_tuple a its.toArray) p' fun h' he hit hsz hk => wpAny_pyIter_enum he ?_
    have I2 : Inv X pins σ H1 { s1 with heap := h' } := I1.kept (t' := s1.toks) hk
    refine ⟨s1.heap.objs.size + 1, [s1.heap.objs.size + 1, s1.heap.objs.size], _, _, H1, rfl, I2, turn_enumT a (s1.heap.objs.size + 1) s1.heap.objs.size, ⟨⟨.none, he⟩, ⟨_, hit, rfl, rfl⟩, Nat.succ_ne_self _, Nat.ne_of_gt (Nat.lt_succ_of_lt hal), Nat.ne_of_lt hal⟩, fun b hb => ?_, q⟩
    have e' : b = s1.heap.objs.size + 1 ∨ b = s1.heap.objs.size := by simpa using hb
    have hle : s1.heap.objs.size ≤ b := by
      rcases e' with z | z
      · rw [z]; exact Nat.le_add_right _ _
      · rw [z]; exact Nat.le_refl _
    exact I1.fpOk hle (I1.hok.fresh hle)
theorem walk_enumT {K : PySem.W.Frag} {a : Addr} {xs : List V} : Walk (IteT K a) xs.length (fun H => SqT K H a xs) (YPair (fun i => some (.int (i : Nat))) (fun i => xs[i]?)) := by
  refine ⟨fun i _ hi q => ⟨xs, xs[i], q, by simp [hi]⟩, fun _ q => ⟨xs, q, Nat.le_refl _⟩, fun i H v H' _ q y => ?_⟩
  obtain ⟨T, x, h1, h2, h3, h4⟩ := y
  exact ⟨T, .int (i : Nat), x, h1, h2, h3, rfl, h4 xs q⟩
end MyK
namespace Ab
open PySem PySem.Spec PyProof.Rows L2 MyB MyR MyD
def aiEnumT (ta : AA) : AI := fun ρ η R => ta ρ η fun zs η1 => ∃ xs, zs = [.tup xs] ∧ R (enumA xs) (fun _ => True) η1
def agLst (n : Nat) (gs : AGs) : AG := fun x ρ η Q => ∃ xs, LstOf η x xs ∧ xs.length = n ∧ gs xs ρ η Q
section
variable {K : KG} {X : Cx} {pos : Pos}
theorem xi_enumT {e : Expr} {ta : AA} {p tpos : Pos} {elts : List Expr} {kk : Nat} (hK : X.K = K) (hg : Gl X "enumerate") (hm : X.mg "enumerate" = none) (ha : XA K X [e] ta) (hs : starEach [e] X.env = [(false, eval e X.env)] := by rfl) :
    XIt K X (.Tuple elts kk tpos) (.Call (.Name "enumerate" p) [e] [] pos) (aiEnumT ta) := by
  obtain ⟨t, p1, q⟩ := ha
  obtain ⟨K, Gg, mn⟩ := K; have hK : X.K = K := hK; subst hK
  refine ⟨_, MyK.pi_enumT hg hm p1 hs, ?_⟩
  intro θ ρ η σ H AQ Q R S h C
  refine q θ ρ η σ H _ _ R S h ?_
  rintro θ1 η1 H1 zs ws e1 R1 r1 ⟨xs, rfl, h1⟩
  cases r1 with
  | cons r1 r2 =>
    cases r2
    cases r1 with
    | tup un hv rv =>
      rename_i a vs
      refine ⟨a, vs, rfl, sqT hv, C θ1 η1 H1 _ _ _ e1 R1 ?_ h1⟩
      intro θ' η' H' i e R' st
      have hv' : SqT X.K H' a vs := sqT (e.keep _ _ hv un)
      have rv' := rv.ext e
      have w := MyK.walk_enumT (K := X.K) (a := a) (xs := vs)
      have hl : (enumA xs).length = vs.length := by unfold enumA; rw [List.length_mapIdx]; exact rv'.len
      refine ⟨fun c => ?_, ?_⟩
      · have c' : i < vs.length := hl ▸ c
        refine ⟨w.goes i H' c' hv', fun v H2 y => ?_⟩
        have hx' : i < xs.length := by rw [rv'.len]; exact c'
        refine ⟨.tup [.int (i : Int), xs[i]], by unfold enumA; rw [List.getElem?_mapIdx, List.getElem?_eq_getElem hx']; rfl, ?_⟩
        refine ypair R' (w.yields i H' v H2 c' hv' y) (fun w hw => by cases hw; exact .int) fun w hw => ?_
        obtain ⟨z, hz, rz⟩ := rv'.back hw
        rw [List.getElem?_eq_getElem hx'] at hz
        cases hz
        exact rz
      · rintro rfl
        rw [hl]
        exact w.stops H' hv'
theorem s_iEnumT {ts : AA} {R : AR} {ρ : Sta} {η : Eta} (k : ts ρ η fun zs η1 => ∃ xs, zs = [.tup xs] ∧ R (enumA xs) (fun _ => True) η1) : aiEnumT ts ρ η R := k
theorem xg_lst {es : List Expr} {k : Nat} {gs : AGs} {n : Nat} (hK : X.K = K) (hc : X.calm = true) (h : XGs K X es gs) (hn : (assignEach es X.env).length = n := by rfl) (hst : (assignEach es X.env).findIdx? (·.1) = none := by rfl) : XG K X (.Tuple es k pos) (agLst n gs) := by
  obtain ⟨t, p, q⟩ := h
  obtain ⟨K, Gg, mn⟩ := K; have hK : X.K = K := hK; subst hK
  refine ⟨_, pg_lst hc p hn hst, ?_⟩
  rintro θ ρ η σ H x v AQ Q R S r ⟨xs, hx, hl, h⟩ C
  obtain ⟨a, vs, rfl, hv, rv⟩ := hx.sq R r
  exact ⟨a, vs, rfl, hv, rv.len ▸ hl, q θ ρ η σ H xs _ AQ Q R S rv h C⟩
theorem s_gLst {n : Nat} {gs : AGs} {x : AV} {xs : List AV} {ρ : Sta} {η : Eta} {Q : Sta → Eta → Prop} (h : LstOf η x xs) (hl : xs.length = n) (k : gs xs ρ η Q) : agLst n gs x ρ η Q := ⟨xs, h, hl, k⟩
/-- one item more of an enumeration -/
theorem enumA_map {α : Type} (f : α → AV) (L : List α) : enumA (L.map f) = (L.mapIdx fun i x => (i, x)).map fun p => .tup [.int (p.1 : Int), f p.2] := by
  unfold enumA
  apply List.ext_getElem?
  intro i
  simp only [List.getElem?_mapIdx, List.getElem?_map, Option.map_map]
  cases L[i]? <;> rfl
end
end Ab

/-! comprehensions whose elements make things of their own -/
namespace Ab
open PySem PySem.Spec PyProof.Rows L2 MyB MyR MyD
theorem Kept.upd {η η' : Eta} {n : Nat} {o : AO} (h : Kept η η') (hn : η n = Option.none) : Kept η (pt η' n o) := fun m u e => by
  rw [pt_ne (by rintro rfl; rw [hn] at e; cases e)]
  exact h m u e
theorem Kept.both {η η' : Eta} {n : Nat} {o : AO} (h : Kept η η') : Kept (pt η n o) (pt η' n o) := fun m u e => by
  by_cases c : m = n
  · subst c
    rw [pt_same] at e ⊢
    exact e
  · rw [pt_ne c] at e ⊢
    exact h m u e
section
variable {α : Type} {xs : List AV} {stay : Eta → Prop} {g : AG} {tt : AT} {te : AE} {vs : List Nat} {ρ : Sta} {η : Eta} {Q : AK}
theorem lc_mapK (L : List α) (enc : α → AV) (f : α → AV) (hx : xs = L.map enc) (hl : L.length ≤ 16000000) (hst : ∀ η', Kept η η' → stay η')
    (hs : ∀ x ∈ L, ∀ η1, Kept η η1 → ∀ Add : AK, (∀ η2, Kept η η2 → Add (f x) η2) → g (enc x) (wipeA ρ vs) η1 fun ρ2 η2 => te ρ2 η2 Add) (k : ∀ n η1, Kept η η1 → η1 n = none → Q (.rf n) (pt η1 n (.lst (L.map f)))) : lcK xs stay g aYes te vs ρ η Q := by
  subst hx
  refine ⟨fun i acc η' => Kept η η' ∧ acc = (L.take i).map f, ⟨.refl, rfl⟩, fun i acc η' _ h => hst _ h.1, ?_, ?_⟩
  · rintro i acc η' x e ⟨kp, rfl⟩
    rw [List.getElem?_map] at e
    obtain ⟨z, hz, rfl⟩ := Option.map_eq_some_iff.mp e
    have key := hs z (List.mem_of_getElem? hz) η' kp (fun y η4 => ((L.take i).map f).length < 16000000 ∧ Kept η η4 ∧ (L.take i).map f ++ [y] = (L.take (i + 1)).map f) fun η2 k2 => ?_
    · exact key
    · obtain ⟨hi, hzz⟩ := List.getElem?_eq_some_iff.mp hz
      refine ⟨by rw [List.length_map, List.length_take]; omega, k2, ?_⟩
      rw [List.take_add_one, hz, List.map_append]
      rfl
  · rintro acc η' ⟨kp, rfl⟩ n hn
    rw [List.length_map, List.take_length]
    exact k n η' kp hn
end
end Ab

/-! comprehensions of which only a property of the elements is kept -/
namespace Ab
open PySem PySem.Spec PyProof.Rows L2 MyB MyR MyD
section
variable {α : Type} {xs : List AV} {stay : Eta → Prop} {g : AG} {tt : AT} {te : AE} {vs : List Nat} {ρ : Sta} {η : Eta} {Q : AK}
theorem lc_any (P : AV → Prop) (L : List α) (enc : α → AV) (hx : xs = L.map enc) (hl : L.length ≤ 16000000) (hst : ∀ η', Kept η η' → stay η')
    (hs : ∀ x ∈ L, ∀ η1, Kept η η1 → ∀ (Add : AK) (Nx : Eta → Prop), (∀ y η2, Kept η η2 → P y → Add y η2) → (∀ η2, Kept η η2 → Nx η2) → g (enc x) (wipeA ρ vs) η1 fun ρ2 η2 => tt ρ2 η2 fun b η3 => if b = true then te ρ2 η3 Add else Nx η3)
    (k : ∀ ys n η1, Kept η η1 → η1 n = none → (∀ y ∈ ys, P y) → ys.length ≤ L.length → Q (.rf n) (pt η1 n (.lst ys))) : lcK xs stay g tt te vs ρ η Q := by
  subst hx
  refine ⟨fun i acc η' => Kept η η' ∧ acc.length ≤ i ∧ ∀ y ∈ acc, P y, ⟨.refl, Nat.le_refl _, fun y hy => (by cases hy)⟩, fun i acc η' _ h => hst _ h.1, ?_, ?_⟩
  · rintro i acc η' x e ⟨kp, la, pa⟩
    rw [List.getElem?_map] at e
    obtain ⟨z, hz, rfl⟩ := Option.map_eq_some_iff.mp e
    have hi := (List.getElem?_eq_some_iff.mp hz).1
    exact hs z (List.mem_of_getElem? hz) η' kp (fun y η4 => acc.length < 16000000 ∧ Kept η η4 ∧ (acc ++ [y]).length ≤ i + 1 ∧ ∀ u ∈ acc ++ [y], P u) (fun η3 => Kept η η3 ∧ acc.length ≤ i + 1 ∧ ∀ u ∈ acc, P u)
      (fun y η2 k2 py => ⟨by omega, k2, by rw [List.length_append]; simp; omega, fun u hu => by
        rcases List.mem_append.mp hu with hu | hu
        · exact pa u hu
        · rw [List.mem_singleton] at hu
          subst hu
          exact py⟩) (fun η2 k2 => ⟨k2, by omega, pa⟩)
  · rintro acc η' ⟨kp, la, pa⟩ n hn
    rw [List.length_map] at la
    exact k acc n η' kp hn pa la
end
theorem cutA_to {xs : List AV} {i : Int} (h : 0 ≤ i) (h' : i ≤ xs.length) : cutA xs none (some i) = xs.take i.toNat := by
  obtain ⟨k, rfl⟩ : ∃ k : Nat, i = (k : Int) := ⟨i.toNat, by omega⟩
  unfold cutA
  rw [HT.sIx_none, HT.sIx_nat, List.drop_zero, Nat.sub_zero, Int.toNat_natCast, Nat.min_eq_left (by omega)]
theorem cutA_from {xs : List AV} {i : Int} (h : 0 ≤ i) (h' : i ≤ xs.length) : cutA xs (some i) none = xs.drop i.toNat := by
  obtain ⟨k, rfl⟩ : ∃ k : Nat, i = (k : Int) := ⟨i.toNat, by omega⟩
  unfold cutA
  rw [HT.sIx_none, HT.sIx_nat, Int.toNat_natCast, Nat.min_eq_left (by omega), List.take_of_length_le (by rw [List.length_drop]; omega)]
end Ab

/-! exceptions in the abstract layer: what is raised, what is wished of it, try. -/
namespace Ab
open PySem PySem.Spec PyProof.Rows L2 MyB MyR MyD
/-- an exception: its class, its fields -/
abbrev AX := Addr × List (Str × AV)
def RepX (K : PySem.W.Frag) (θ : Th) (H : Hp) (x : AX) (cls : Value) (d : Option Addr) : Prop := cls = .ref x.1 ∧ ((x.2 = [] ∧ d = none) ∨ ∃ dd gs, x.2 ≠ [] ∧ d = some dd ∧ Untr θ dd ∧ H dd = some (.xd gs) ∧ RepF K θ H x.2 gs)
theorem RepX.ext {K : PySem.W.Frag} {θ θ' : Th} {H H' : Hp} {x : AX} {cls : Value} {d : Option Addr} (e : Ext θ H θ' H') (h : RepX K θ H x cls d) : RepX K θ' H' x cls d := by
  obtain ⟨h1, h2⟩ := h
  refine ⟨h1, ?_⟩
  rcases h2 with h2 | ⟨dd, gs, n, a, b, c, r⟩
  · exact .inl h2
  · exact .inr ⟨dd, gs, n, a, e.untr c b, e.keep _ _ c b, r.ext e⟩
/-- what is wished of an exception, over values -/
abbrev AWish := AX → Sta → Eta → Prop
def GW (K : KG) (AW : AWish) (W : WX) (θ : Th) (H : Hp) : Prop := ∀ θ' η' H' ρ σ x cls d, Ext θ H θ' H' → RelH K θ' η' H' → Rst K θ' H' ρ σ → RepX K θ' H' x cls d → AW x ρ η' → W cls d σ H'
theorem GW.ext {K : KG} {AW : AWish} {W : WX} {θ θ1 : Th} {H H1 : Hp} (h : GW K AW W θ H) (e : Ext θ H θ1 H1) : GW K AW W θ1 H1 := fun θ' η' H' ρ σ x cls d e' R' S' rx q => h θ' η' H' ρ σ x cls d (e.trans e') R' S' rx q
/-- within a body whose exceptions are wished for -/
abbrev KG.wish (K : KG) (AW : AWish) (W : WX) : KG := ⟨K.k, fun θ H => K.G θ H ∧ GW K AW W θ H, fun θ H θ' H' e h => ⟨K.mono _ _ _ _ e h.1, h.2.ext e⟩⟩
/-- where an exception is handled -/
abbrev KG.exc (K : KG) (x : AX) (cls : Value) (d : Option Addr) : KG := ⟨K.k, fun θ H => K.G θ H ∧ RepX K.k θ H x cls d, fun θ H θ' H' e h => ⟨K.mono _ _ _ _ e h.1, h.2.ext e⟩⟩
section
variable {K : KG} {θ θ' : Th} {H H' : Hp} {η : Eta} {AW : AWish} {W : WX} {x : AX} {cls : Value} {d : Option Addr}
theorem RelH.unwish (R : RelH (K.wish AW W) θ η H) : RelH K θ η H := ⟨R.at, R.inj, R.live, R.top, R.gh.1⟩
theorem RelH.towish (R : RelH K θ η H) (g : GW K AW W θ H) : RelH (K.wish AW W) θ η H := ⟨R.at, R.inj, R.live, R.top, R.gh, g⟩
theorem RelH.unexc (R : RelH (K.exc x cls d) θ η H) : RelH K θ η H := ⟨R.at, R.inj, R.live, R.top, R.gh.1⟩
theorem RelH.toexc (R : RelH K θ η H) (g : RepX K.k θ H x cls d) : RelH (K.exc x cls d) θ η H := ⟨R.at, R.inj, R.live, R.top, R.gh, g⟩
theorem Cg.towish {α β : Type} {R : Th → Hp → α → β → Prop} {AQ : α → Eta → Prop} {Q : β → Hp → Prop} (C : Cg K R θ H AQ Q) : Cg (K.wish AW W) R θ H AQ Q := fun θ' η' H' y v e R' r q => C θ' η' H' y v e R'.unwish r q
theorem Cg.toexc {α β : Type} {R : Th → Hp → α → β → Prop} {AQ : α → Eta → Prop} {Q : β → Hp → Prop} (C : Cg K R θ H AQ Q) : Cg (K.exc x cls d) R θ H AQ Q := fun θ' η' H' y v e R' r q => C θ' η' H' y v e R'.unexc r q
theorem Ce.towish {A : AEnds} {D : Ends} (C : Ce K θ H A D) : Ce (K.wish AW W) θ H A D := ⟨C.nx.towish, C.rt.towish, C.bk.towish, C.ct.towish⟩
theorem Ce.toexc {A : AEnds} {D : Ends} (C : Ce K θ H A D) : Ce (K.exc x cls d) θ H A D := ⟨C.nx.toexc, C.rt.toexc, C.bk.toexc, C.ct.toexc⟩
end
/-! ### defs that may raise -/
abbrev AXK := AX → Eta → Prop
abbrev ASpX := List AV → Eta → AK → AXK → Prop
def CgX (K : KG) (θ : Th) (H : Hp) (AE : AXK) (E : XK) : Prop := ∀ θ' η' H' x cls d, Ext θ H θ' H' → RelH K θ' η' H' → RepX K θ' H' x cls d → AE x η' → E cls d H'
def liftX (K : PySem.W.Frag) (asp : ASpX) : Sp := fun vs H Q E => ∃ θ η xs AQ AE, RelH (KG.top K) θ η H ∧ Reps K θ H xs vs ∧ asp xs η AQ AE ∧ Cg (KG.top K) (Rep K) θ H AQ Q ∧ CgX (KG.top K) θ H AE E
def XDefX (P : Program) (w : World) (K : PySem.W.Frag) (mg : Str → Option Value) (base : Heap) (k : Nat) (x : Str) (ps : List Str) (asp : ASpX) : Prop :=
  ∃ f fd, FnOk P w K mg base (L2.CX P w) k f fd ps (liftX K asp) ∧ mg x = some (.ref f) ∧ PySem.W.keepIn K (.ref f) = true ∧ Binds K fd ps []
def aCallX (asp : ASpX) (AW : AWish) (ts : AA) : AE := fun ρ η Q => ts ρ η fun xs η1 => asp xs η1 Q fun x η' => AW x ρ η'
section
variable {K : KG} {X : Cx} {k : Nat} {ps : List Str} {asp : ASpX} {x : Str} {p pos : Pos} {e : Expr} {es : List Expr} {ts : AA} {C : Addr} {W : WX} {AW : AWish}
theorem CgX.of {θ : Th} {H : Hp} {ρ : Sta} {σ : L2.St} (R : K.G θ H) (g : GW K AW W θ H) (S : Rst K θ H ρ σ) : CgX (KG.top K.k) θ H (fun x η' => AW x ρ η') (WE W σ) := fun θ' η' H' x cls d e R' rx q =>
  g θ' η' H' ρ σ x cls d e (RelH.up (K := K) R' (K.mono _ _ _ _ e R)) (S.ext e) rx q
/-- f(e, ..), f may raise -/
theorem xe_callX (hK : X.K = K.k) (tk : Takes X W) (D : XDefX X.prog X.w K.k X.mg X.base k x ps asp) (hr : Room k X.A) (hg : Gl X x) (ha : XA (K.wish AW W) X (e :: es) ts) (hdb : (x == ("__debug__" : Str)) = false := by decide)
    (he : starEach (e :: es) X.env = (false, eval e X.env) :: starEach es X.env := by rfl) (hpl : (backTo pos (starEach es X.env)).any (·.1) = false := by rfl) :
    XE (K.wish AW W) X (.Call (.Name x p) (e :: es) [] pos) (aCallX asp AW ts) := by
  obtain ⟨t1, p1, q1⟩ := ha
  obtain ⟨f, fd, F, m, kp, b⟩ := D
  rw [← hK] at F kp b
  refine ⟨_, pe_callS F hr hg m kp b (fun σ => passAt tk σ) p1 hdb he hpl, ?_⟩
  intro θ ρ η σ H AQ Q R S h Cc
  refine q1 θ ρ η σ H _ _ R S h ?_
  intro θ1 η1 H1 xs vs e1 R1 r1 h1
  have g1 := R1.gh
  rw [hK]
  exact ⟨θ1, η1, xs, AQ, _, R1.tp, r1, h1, fun θ' η' H' y v e' R' r q => (Cc.ext e1) θ' η' H' y v e' (RelH.up (K := K.wish AW W) R' ((K.wish AW W).mono _ _ _ _ e' g1)) r q, CgX.of g1.1 g1.2 (S.ext e1)⟩
/-- raise C() -/
def asRaise (AW : AWish) (x : AX) : AS := fun _ ρ η => AW x ρ η
/-- raise C(e), C keeps it under f -/
def asRaise1 (AW : AWish) (C : Addr) (f : Str) (te : AE) : AS := fun _ ρ η => te ρ η fun y η1 => AW (C, [(f, y)]) ρ η1
end
/-- what the written part says of an own exception class without own __init__ -/
structure ErrC (K : PySem.W.Frag) (C : Addr) : Prop where
  q : PySem.W.excIn K C [.type "ValueError", .type "Exception", .type "BaseException", .type "object"] "ValueError.__new__" = true
  kp : PySem.W.keepIn K (.ref C) = true
  sub : PySem.W.subIn K (.ref C) (.type "BaseException") = some true
  ty : PySem.W.typeIn K (.ref C) = some (.type "type")
section
variable {X : Cx} {x : Str} {p pos : Pos} {C : Addr}
/-- C() of such a class -/
theorem pmk_err0 (T : ErrC X.K C) (gC : X.mg x = some (.ref C)) (hg : Gl X x) (hdb : (x == ("__debug__" : Str)) = false := by decide) : PMk X (.Call (.Name x p) [] [] pos) (fun _ H Q => Q (.ref C) none H) := by
  intro pins s σ H Q I h
  refine wpAny_Call_Name_kw (ld_glob I hg gC ?_ hdb)
  refine PySem.W.callWith_K0 I.kIn T.kp ?_
  obtain ⟨bm, N, nm, qn, bs, hdct, sn, sub, ab, col, dd, k0, k1, k2, k3, k5, mN, hC, hN, hni, TT⟩ := exc_obj I.kIn T.q
  refine wpAny_call_exc_subT PySem.F.excBase_ValueError TT hC hN hni (fun h' e hm => ?_) (Nat.zero_le _)
  exact mk_of I hm (raises_own T.sub T.ty) h (I.hok.gone hm.new)
end
end Ab

/-! raise, try, defs that may raise, in the abstract layer. -/
namespace Ab
open PySem PySem.Spec PyProof.Rows L2 MyB MyR MyD
/-! ### raise -/
/-- an error's own __init__: self.f = f -/
def spErr (C : Addr) (f : Str) : Sp := fun vs H Q _ => ∃ (a : Addr) (v : V), vs = [.ref a, v] ∧ H a = some (exo a C none) ∧ ∀ d, H d = none → d ≠ a → Q .non (upd (upd H d (exd d [(f, v)])) a (exo a C (some d)))
structure ErrF (P : Program) (w : World) (K : PySem.W.Frag) (mg : Str → Option Value) (base : Heap) (x : Str) (C : Addr) (f : Str) : Prop where
  ox : OexC K C
  gC : mg x = some (.ref C)
  ex : ∃ fI fd, PySem.W.findIn K (.ref C) "__init__" = some (some (.ref fI)) ∧ PySem.W.typeIn K (.ref fI) = some (.type "function") ∧ FnOk P w K mg base CX0 1 fI fd ["self", f] (spErr C f) ∧ Binds K fd ["self", f] []
section
variable {K : KG} {X : Cx} {W : WX} {AW : AWish} {x : Str} {C : Addr} {f : Str} {p p2 pos pos' : Pos} {e : Expr} {te : AE}
theorem xs_raise0 (hK : X.K = K.k) (hc : X.calm = true) (tk : Takes X W) (T : ErrC K.k C) (gC : X.mg x = some (.ref C)) (hg : Gl X x) (hdb : (x == ("__debug__" : Str)) = false := by decide) :
    XS (K.wish AW W) X (.Raise (some (.Call (.Name x p) [] [] pos)) none pos') (asRaise AW (C, [])) := by
  rw [← hK] at T
  refine ⟨_, ps_raise hc tk (pmk_err0 T gC hg hdb), ?_⟩
  intro θ ρ η σ H A D R S h Cc
  exact R.gh.2 θ η H ρ σ (C, []) _ _ .refl R.unwish S ⟨rfl, .inl ⟨rfl, rfl⟩⟩ h
theorem xs_raise1 (hK : X.K = K.k) (hc : X.calm = true) (tk : Takes X W) (T : ErrF X.prog X.w K.k X.mg X.base x C f) (hr : Room 2 X.A) (ha : XE (K.wish AW W) X e te) (hg : Gl X x) (hdb : (x == ("__debug__" : Str)) = false := by decide)
    (he : starEach [e] X.env = (false, eval e X.env) :: starEach [] X.env := by rfl) (hpl : (backTo pos (starEach [] X.env)).any (·.1) = false := by rfl) :
    XS (K.wish AW W) X (.Raise (some (.Call (.Name x p) [e] [] pos)) none pos') (asRaise1 AW C f te) := by
  obtain ⟨ox, gC, fI, fd, iC, tI, F, b⟩ := T
  rw [← hK] at ox iC tI F b
  obtain ⟨t1, p1, q1⟩ := ha
  refine ⟨_, ps_raise hc tk (pmk_oex ox iC tI F hr b .nil pass0 hg gC (pa_cons p1 pa_nil he) hdb he hpl), ?_⟩
  intro θ ρ η σ H A D R S h Cc
  refine q1 θ ρ η σ H (fun y η1 => AW (C, [(f, y)]) ρ η1) _ R S h ?_
  intro θ1 η1 H1 y v e1 R1 r1 h1
  refine ⟨by simp, fun a ha => ⟨a, v, rfl, upd_same, fun d hd hda => ?_⟩⟩
  have hd1 : H1 d = none := by rw [upd_ne hda] at hd; exact hd
  refine ⟨rfl, d, [(f, v)], upd_same, (upd_ne hda).trans upd_same, hd1, ?_⟩
  have same : Same H1 (upd (del (upd (upd (upd H1 a (exo a C none)) d (exd d [(f, v)])) a (exo a C (some d))) a) d (.xd [(f, v)])) := fun b o hb => by
    have ba : b ≠ a := ne_of_none hb ha
    have bd : b ≠ d := ne_of_none hb hd1
    rw [upd_ne bd, del_ne ba, upd_ne ba, upd_ne bd, upd_ne ba]
    exact hb
  have un : Untr θ1 d := R1.untr hd1
  exact R1.gh.2 θ1 η1 _ ρ σ (C, [(f, y)]) _ _ (.same same) (R1.unwish.same same) (S.ext (e1.trans (.same same))) ⟨rfl, .inr ⟨d, [(f, v)], by simp, rfl, un, upd_same, .cons (by simp) (r1.ext (.same same)) .nil⟩⟩ h1
end
/-! ### defs -/
def DrX (AE : AXK) : AXK := fun x η => ∃ η', (∀ n o, η' n = some o → η n = some o) ∧ AE x η'
theorem DrX.same {AE : AXK} {x : AX} {η : Eta} (h : AE x η) : DrX AE x η := ⟨η, fun _ _ e => e, h⟩
theorem DrX.sub {AE : AXK} {x : AX} {η η' : Eta} (h : Kept η η') (q : AE x η) : DrX AE x η' := ⟨η, h, q⟩
section
variable {P : Program} {w : World} {K : PySem.W.Frag} {mg : Str → Option Value} {base : Heap} {k : Nat} {ps : List Str} {asp : ASpX} {x : Str}
abbrev WF (E : XK) : WX := fun cls d _ H => E cls d H
theorem XDefX.of {st : Stmt} {N : List Str} (R : Raw K mg x st) (S : FnScope N ps (defScope st))
    (bind : ∀ (kV doc pm : Value) (an : Option Addr) (cdv ct : Value) (us : List Value), us.length = ps.length → bindArgs (PySem.W.fnOf x x (defArgs st) (defBody st) (defScope st) .none kV doc pm an cdv ct) ⟨us, []⟩ = pure (ps.zip us))
    (len : ∀ xs η Q AE, asp xs η Q AE → xs.length = ps.length)
    (hbody : ∀ (f : Addr) (cdv : Value) (A : Around) (outer : List Env) (s : Shared) (H : Hp) (E : XK), Room k (A.deeper (envOfC x (defScope st) s.heap.objs.size f cdv)) →
      Takes (cxOf (L2.CX P w) P w K mg base N x (defScope st) f cdv A outer s H E) (WF E) →
      PassesOwn (model P w) (cxOf (L2.CX P w) P w K mg base N x (defScope st) f cdv A outer s H E).A (cxOf (L2.CX P w) P w K mg base N x (defScope st) f cdv A outer s H E).env (cxOf (L2.CX P w) P w K mg base N x (defScope st) f cdv A outer s H E).xe →
      ∃ tb : AWish → AS, (∀ AW, XSs ((KG.top K).wish AW (WF E)) (cxOf (L2.CX P w) P w K mg base N x (defScope st) f cdv A outer s H E) (defBody st) (tb AW)) ∧
        ∀ xs η Q AE, asp xs η Q AE → tb (fun x _ η' => DrX AE x η') { nx := fun _ η' => Dr Q .non η', rt := Dr Q } (startA N xs) η) : XDefX P w K mg base (k + 1) x ps asp := by
  obtain ⟨f, fd, F, m⟩ := R
  refine ⟨f, fd, F.okX S (fun vs H Q E h => ?_) (fun cdv A outer s H vs Q E hr h => ?_), m, F.kp, F.binds bind⟩
  · obtain ⟨θ, η, xs, AQ, AE, _, r, h, _⟩ := h
    rw [← r.len]
    exact len xs η AQ AE h
  · obtain ⟨θ, η, xs, AQ, AE, R, r, h, C, CE⟩ := h
    obtain ⟨tb, hb, hw⟩ := hbody f cdv A outer s H E hr (takes_of rfl rfl rfl rfl) (passes_of rfl)
    obtain ⟨t1, p1, q1⟩ := hb fun x _ η' => DrX AE x η'
    have g : GW (KG.top K) (fun x _ η' => DrX AE x η') (WF E) θ H := fun θ' η' H' ρ σ x cls d e R' S' rx ⟨η2, hs, q⟩ => CE θ' η2 H' x cls d e (R'.drop hs) rx q
    refine ⟨t1, p1, q1 θ _ η _ H _ _ (R.towish g) (Rst.start r) (hw xs η AQ AE h) (Ce.towish ⟨?_, ?_, ?_, ?_⟩)⟩
    · rintro θ1 η1 H1 ρ1 σ1 e1 R1 S1 ⟨η2, hs, q⟩
      exact C θ1 η2 H1 _ _ e1 (R1.drop hs) .non q
    · rintro θ1 η1 H1 x v e1 R1 r1 ⟨η2, hs, q⟩
      exact C θ1 η2 H1 _ _ e1 (R1.drop hs) r1 q
    · exact fun _ _ _ _ _ _ _ _ z => z.elim
    · exact fun _ _ _ _ _ _ _ _ z => z.elim
/-- a def that never raises, as one that may -/
theorem XDefX.imp {asp' : ASpX} (D : XDefX P w K mg base k x ps asp) (h : ∀ xs η Q AE, asp' xs η Q AE → asp xs η Q AE) : XDefX P w K mg base k x ps asp' := by
  obtain ⟨f, fd, F, a, b, c⟩ := D
  exact ⟨f, fd, F.imp fun vs H Q E ⟨θ, η, xs, AQ, AE, R, r, q, C, CE⟩ => ⟨θ, η, xs, AQ, AE, R, r, h _ _ _ _ q, C, CE⟩, a, b, c⟩
end
/-! ### try -/
def asTryAs (K : PySem.W.Frag) (C : Addr) (i : Nat) (tb : AWish → AS) (ts : Addr → AX → AS) (AWout : AWish) : AS := fun D ρ η => tb (fun x ρ' η' => ∃ b, PySem.W.exmOne K (.ref x.1) (.ref C) = some b ∧
  (b = true → ∀ a, ts a x { nx := fun ρ2 η2 => D.nx (ρ2.set i none) η2, rt := D.rt, bk := fun ρ2 η2 => D.bk (ρ2.set i none) η2, ct := fun ρ2 η2 => D.ct (ρ2.set i none) η2 } (ρ'.set i (some (.gl a))) η') ∧ (b = false → AWout x ρ' η')) D ρ η
def asTryOnly (K : PySem.W.Frag) (C : Addr) (tb : AWish → AS) (ts : Addr → AX → AS) (AWout : AWish) : AS := fun D ρ η => tb (fun x ρ' η' => ∃ b, PySem.W.exmOne K (.ref x.1) (.ref C) = some b ∧
  (b = true → ∀ a, ts a x D ρ' η') ∧ (b = false → AWout x ρ' η')) D ρ η
def liB (K : KG) (W : WX) (tb : AWish → AS) : TS := fun D σ H => ∃ AW θ ρ η A, RelH (K.wish AW W) θ η H ∧ Rst K.k θ H ρ σ ∧ tb AW A ρ η ∧ Ce (K.wish AW W) θ H A D
def liS (K : KG) (ts : Addr → AX → AS) (a : Addr) (cls : Value) (d : Option Addr) : TS := fun D σ H => ∃ x θ ρ η A, RelH (K.exc x cls d) θ η H ∧ Rst K.k θ H ρ σ ∧ ts a x A ρ η ∧ Ce (K.exc x cls d) θ H A D
section
variable {K : KG} {X : Cx} {x n : Str} {C : Addr} {i : Nat} {body suite : List Stmt} {b₀ : Stmt} {np pos pos' : Pos} {tb : AWish → AS} {ts : Addr → AX → AS} {Wout : WX} {AWout : AWish}
theorem liB_ok {W : WX} (h : ∀ AW, XSs (K.wish AW W) X body (tb AW)) : PSs X body (liB K W tb) := ⟨fun pins s σ H D I hh => by
  obtain ⟨AW, θ, ρ, η, A, R, S, q, Cc⟩ := hh
  obtain ⟨t, p, ab⟩ := h AW
  exact p.run pins s σ H D I (ab θ ρ η σ H A D R S q Cc)⟩
theorem liS_ok {a : Addr} {cls : Value} {d : Option Addr} (h : ∀ x, XSs (K.exc x cls d) X body (ts a x)) : PSs X body (liS K ts a cls d) := ⟨fun pins s σ H D I hh => by
  obtain ⟨y, θ, ρ, η, A, R, S, q, Cc⟩ := hh
  obtain ⟨t, p, ab⟩ := h y
  exact p.run pins s σ H D I (ab θ ρ η σ H A D R S q Cc)⟩
theorem xs_tryAs (hs : X.stack = X.env :: X.outer) (hf : X.env.frame = some X.env.locals) (hK : X.K = K.k) (hN : X.N.Nodup) (hi : X.N[i]? = some n) (hln : X.env.kindOf n = some .local) (hc : Names X x (.ref C)) (tk : Takes X Wout)
    (hout : ∀ θ H, K.G θ H → GW K AWout Wout θ H)
    (hb : ∀ (W : WX) (pn : List (Addr × Obj)) (xe : Value → Shared → Prop), Takes (X.tr pn xe) W → PassesOwn (model X.prog X.w) X.A X.env xe → ∀ AW, XSs (K.wish AW W) (X.tr pn xe) body (tb AW))
    (hsu : ∀ (a : Addr) (oe : Obj) (cls : Value) (d : Option Addr) (pn : List (Addr × Obj)), Zc cls d oe → (∃ vs, oe.data = .fields vs) → ∀ y, XSs (K.exc y cls d) (X.suite a ((a, oe) :: pn)) (b₀ :: suite) (ts a y)) :
    XS K X (.Try body [.ExceptHandler (some (.Name x np)) (some n) (b₀ :: suite) pos'] [] [] pos) (asTryAs K.k C i tb ts AWout) := by
  refine ⟨_, ps_try_as (i := i) (tb := fun W => liB K W tb) (ts := liS K ts) hs hf hN hi hln hc tk (fun W pn xe t1 po => liB_ok (hb W pn xe t1 po)) (fun a oe cls d pn z v => liS_ok (hsu a oe cls d pn z v)), ?_⟩
  intro θ ρ η σ H A D R S h Cc
  refine ⟨_, θ, ρ, η, A, R.towish ?_, S, h, Cc.towish⟩
  rintro θ' η' H' ρ' σ' y cls d e R' S' rx ⟨b, h1, h2, h3⟩
  have ec := rx.1
  refine ⟨b, by rw [hK, ec]; exact h1, fun hb a _ => ⟨y, θ', _, η', _, R'.toexc rx, S'.set .gl, h2 hb a, Ce.toexc ⟨?_, Cc.rt.ext e, ?_, ?_⟩⟩, fun hb => hout θ H R.gh θ' η' H' ρ' σ' y cls d e R' S' rx (h3 hb)⟩
  · exact fun θ2 η2 H2 ρ2 σ2 e2 R2 S2 q => Cc.nx θ2 η2 H2 _ _ (e.trans e2) R2 (S2.del i) q
  · exact fun θ2 η2 H2 ρ2 σ2 e2 R2 S2 q => Cc.bk θ2 η2 H2 _ _ (e.trans e2) R2 (S2.del i) q
  · exact fun θ2 η2 H2 ρ2 σ2 e2 R2 S2 q => Cc.ct θ2 η2 H2 _ _ (e.trans e2) R2 (S2.del i) q
theorem xs_tryOnly (hs : X.stack = X.env :: X.outer) (hf : X.env.frame = some X.env.locals) (hK : X.K = K.k) (hc : Names X x (.ref C)) (tk : Takes X Wout)
    (hout : ∀ θ H, K.G θ H → GW K AWout Wout θ H)
    (hb : ∀ (W : WX) (pn : List (Addr × Obj)) (xe : Value → Shared → Prop), Takes (X.tr pn xe) W → PassesOwn (model X.prog X.w) X.A X.env xe → ∀ AW, XSs (K.wish AW W) (X.tr pn xe) body (tb AW))
    (hsu : ∀ (a : Addr) (oe : Obj) (cls : Value) (d : Option Addr) (pn : List (Addr × Obj)), Zc cls d oe → (∃ vs, oe.data = .fields vs) → ∀ y, XSs (K.exc y cls d) (X.suite a ((a, oe) :: pn)) (b₀ :: suite) (ts a y)) :
    XS K X (.Try body [.ExceptHandler (some (.Name x np)) none (b₀ :: suite) pos'] [] [] pos) (asTryOnly K.k C tb ts AWout) := by
  refine ⟨_, ps_try_only (tb := fun W => liB K W tb) (ts := liS K ts) hs hf hc tk (fun W pn xe t1 po => liB_ok (hb W pn xe t1 po)) (fun a oe cls d pn z v => liS_ok (hsu a oe cls d pn z v)), ?_⟩
  intro θ ρ η σ H A D R S h Cc
  refine ⟨_, θ, ρ, η, A, R.towish ?_, S, h, Cc.towish⟩
  rintro θ' η' H' ρ' σ' y cls d e R' S' rx ⟨b, h1, h2, h3⟩
  have ec := rx.1
  exact ⟨b, by rw [hK, ec]; exact h1, fun hb a _ => ⟨y, θ', _, η', _, R'.toexc rx, S', h2 hb a, (Cc.ext e).toexc⟩, fun hb => hout θ H R.gh θ' η' H' ρ' σ' y cls d e R' S' rx (h3 hb)⟩
/-- where nothing more is wished for -/
theorem out0 {K : KG} : ∀ θ H, K.G θ H → GW K (fun _ _ _ => False) (fun _ _ _ _ => False) θ H := fun _ _ _ _ _ _ _ _ _ _ _ _ _ _ _ q => q
end
/-! ### in an except suite -/
def aXf (a : Addr) (x : AX) (C : Addr) (f : Str) (te : AE) : AE := fun ρ η Q => te ρ η fun v η1 => v = .gl a ∧ x.1 = C ∧ ∃ y, x.2.lookup f = some y ∧ Q y η1
def kIsE (K : PySem.W.Frag) (a : Addr) (x : AX) : ARn := fun xs η Q => ∃ C b, xs = [.gl a, .gl C] ∧ x.2 = [] ∧ ExcC K x.1 ∧ PySem.W.kitOne K (.ref x.1) (.ref C) = some b ∧ Q (.bl b) η
section
variable {K : KG} {X : Cx} {a C : Addr} {oe : Obj} {cls : Value} {d : Option Addr} {pn : List (Addr × Obj)} {y : AX} {e : Expr} {te : AE} {f : Str} {pos : Pos}
theorem xe_xf (hK : X.K = K.k) (T : XfC K.k C) (hno : PySem.W.findIn K.k (.ref C) f = some none) (hz : Zc cls d oe) (hf : ∃ vs, oe.data = .fields vs) (he : XE (K.exc y cls d) (X.suite a ((a, oe) :: pn)) e te) (hb : attributeBase e f X.env (eval e X.env) = eval e X.env := by rfl) :
    XE (K.exc y cls d) (X.suite a ((a, oe) :: pn)) (.Attribute e f pos) (aXf a y C f te) := by
  obtain ⟨t, p, q⟩ := he
  rw [← hK] at T hno
  refine ⟨_, pe_xf T hno hz hf p hb, ?_⟩
  intro θ ρ η σ H AQ Q R S h Cc
  refine q θ ρ η σ H _ _ R S h ?_
  rintro θ1 η1 H1 v u e1 R1 r1 ⟨rfl, ec, z, hl, k⟩
  cases r1
  have rx := R1.gh.2
  refine ⟨rfl, by rw [rx.1, ec], ?_⟩
  rcases rx.2 with ⟨e0, _⟩ | ⟨dd, gs, _, e1', _, e2, rf⟩
  · rw [e0] at hl
    simp at hl
  · obtain ⟨w, hw, rw'⟩ := rf.get hl
    exact ⟨dd, gs, w, e1', e2, hw, Cc θ1 η1 H1 _ _ e1 R1 rw' k⟩
theorem xc_isE (hK : X.K = K.k) (hz : Zc cls d oe) (hf : ∃ vs, oe.data = .fields vs) : XC (K.exc y cls d) (X.suite a ((a, oe) :: pn)) (.builtin "isinstance") (kIsE K.k a y) := by
  refine ⟨fun xs H Q => ∃ D : Addr, cls = .ref D ∧ d = none ∧ ExcC X.K D ∧ rIsE X.K D a xs H Q, ?_, ?_⟩
  · intro pins s σ H xs us Q I r h
    obtain ⟨D, rfl, rfl, c, h⟩ := h
    exact call_isE c hz hf pins s σ H xs us Q I r h
  · rintro θ η H xs vs AQ Q R r ⟨C, b, rfl, e0, c, kt, k⟩ Cc
    obtain ⟨v, u, rfl, r1, r2⟩ := reps2 r
    cases r1
    cases r2
    have rx := R.gh.2
    have hd : d = none := by
      rcases rx.2 with ⟨_, z⟩ | ⟨dd, gs, nn, _⟩
      · exact z
      · exact absurd e0 nn
    exact ⟨y.1, rx.1, hd, by rw [hK]; exact c, .ref C, .ref C, b, rfl, fun u z => z, by rw [hK]; exact kt, Cc θ η H _ _ .refl R .bl k⟩
end
end Ab
namespace Ab
open PySem PySem.Spec PyProof.Rows L2 MyB MyR MyD
section
variable {K : PySem.W.Frag} {C : Addr} {i : Nat} {tb : AWish → AS} {ts : Addr → AX → AS} {AWout : AWish} {D : AEnds} {ρ : Sta} {η : Eta} {Q : AK}
theorem s_tryAs (k : tb (fun x ρ' η' => ∃ b, PySem.W.exmOne K (.ref x.1) (.ref C) = some b ∧
  (b = true → ∀ a, ts a x { nx := fun ρ2 η2 => D.nx (ρ2.set i none) η2, rt := D.rt, bk := fun ρ2 η2 => D.bk (ρ2.set i none) η2, ct := fun ρ2 η2 => D.ct (ρ2.set i none) η2 } (ρ'.set i (some (.gl a))) η') ∧ (b = false → AWout x ρ' η')) D ρ η) : asTryAs K C i tb ts AWout D ρ η := k
theorem s_tryOnly (k : tb (fun x ρ' η' => ∃ b, PySem.W.exmOne K (.ref x.1) (.ref C) = some b ∧ (b = true → ∀ a, ts a x D ρ' η') ∧ (b = false → AWout x ρ' η')) D ρ η) : asTryOnly K C tb ts AWout D ρ η := k
theorem s_raise {AW : AWish} {x : AX} (k : AW x ρ η) : asRaise AW x D ρ η := k
theorem s_raise1 {AW : AWish} {f : Str} {te : AE} (k : te ρ η fun y η1 => AW (C, [(f, y)]) ρ η1) : asRaise1 AW C f te D ρ η := k
theorem s_callX {asp : ASpX} {AW : AWish} {ta : AA} (k : ta ρ η fun xs η1 => asp xs η1 Q fun x η' => AW x ρ η') : aCallX asp AW ta ρ η Q := k
theorem s_xf {a : Addr} {x : AX} {f : Str} {te : AE} (k : te ρ η fun v η1 => v = .gl a ∧ x.1 = C ∧ ∃ y, x.2.lookup f = some y ∧ Q y η1) : aXf a x C f te ρ η Q := k
theorem s_isE {a E : Addr} {x : AX} {b : Bool} (h : x.2 = []) (c : ExcC K x.1) (kt : PySem.W.kitOne K (.ref x.1) (.ref E) = some b) (k : Q (.bl b) η) : kIsE K a x [.gl a, .gl E] η Q := ⟨E, b, rfl, h, c, kt, k⟩
end
end Ab
namespace Ab
open PySem PySem.Spec PyProof.Rows L2 MyB MyR MyD
section
variable {η : Eta} {Q : AK} {n m : Nat} {xs ys : List AV}
theorem s_catL (h1 : η n = some (.lst xs)) (h2 : η m = some (.lst ys)) (hl : xs.length + ys.length ≤ 16000000) (k : ∀ j, η j = none → Q (.rf j) (pt η j (.lst (xs ++ ys)))) : uAdd (.rf n) (.rf m) η Q := .inr (.inr ⟨n, m, xs, ys, rfl, rfl, h1, h2, hl, k⟩)
end
end Ab
namespace Ab
theorem newA_kept {η η' : Eta} {n : Nat} {o : AO} (hn : η n = none) (e : pt η n o = η') : Kept η η' := by subst e; exact Kept.put .refl hn
theorem newA_at {η η' : Eta} {n : Nat} {o : AO} (e : pt η n o = η') : η' n = some o := by subst e; exact pt_same
end Ab

/-! sorted(d.items()), d a dict of ints by ints. -/
namespace MyI
open PySem PySem.Spec PyProof.Rows L2 Srt SrtO MyS
abbrev entI (e : Int × Int) : Key × V := (Sum.inl e.1, V.int e.2)
section
variable {X : Cx}
def rItemsK : V → List V → Hp → VK → Prop := fun x xs H Q => ∃ (a : Addr) (kvs : List (Key × V)), x = .ref a ∧ xs = [] ∧ H a = some (.dK kvs) ∧ ∀ p, H p = none → Q (.ref p) (upd H p (DX.itemsO p a))
theorem mt_itemsK : MtR X "dict.items" rItemsK := by
  intro pins s σ H x xs v us Q I rx rxs h
  obtain ⟨a, kvs, rfl, rfl, ha, q⟩ := h
  cases rx
  cases rxs
  obtain ⟨z, hd, vs, rel, o, es, ep, ho, hx, hdat, _⟩ := dk_of I.hok ha
  refine DT.callItems (es := es) (ep := ep) hd ⟨o, ho, hx, hdat⟩ ?_
  have hf : H s.heap.objs.size = none := I.hok.fresh (Nat.le_refl _)
  exact ⟨.ref s.heap.objs.size, upd H s.heap.objs.size (DX.itemsO s.heap.objs.size a), I.laid (t' := s.toks) (fun b u e => Heap.get?_push_of_some _ e) (Nat.le_refl _) (DX.itemsO_ok (Heap.get?_push_size _ rfl)), rfl, q _ hf⟩
def rSortII : List V → Hp → VK → Prop := fun vs H Q => ∃ (p a : Addr) (ks : List (Int × Int)), vs = [.ref p] ∧ H p = some (DX.itemsO p a) ∧ H a = some (.dK (ks.map entI)) ∧
  ∀ (H' : Hp) (l : Addr) (ps : List (Addr × Int × Int)), (∀ b o, H b = some o → H' b = some o) → (ps.map (·.2)).Perm ks → (ps.map (·.2)).Pairwise (fun e f => ltL [f.1, f.2] [e.1, e.2] = false) → H l = none → H' l = some (.lst (ps.map fun z => V.ref z.1)) →
    (∀ z ∈ ps, H z.1 = none ∧ H' z.1 = some (.tup [.int z.2.1, .int z.2.2])) → Q (.ref l) H'
theorem cr_sortedII (hc : X.calm = true) : CallR X (.builtin "sorted") rSortII := by
  intro pins s σ H xs us Q I r h
  obtain ⟨p, a, ks, rfl, hp, ha, q⟩ := h
  obtain rfl := Vals.ref1 r
  have view : s.heap.IsItemsView p a := (show ObjOk X.prog X.w H s.heap p (DX.itemsO p a) from I.hok p _ hp).1
  obtain ⟨z, hd, vs', rel, o, es, ep, ho, hx, hdat, _, hes, hn⟩ := dk_of I.hok ha
  have l1 : (ks.map entI).length = vs'.length := Paired.length rel
  have l2 : es.toList.length = vs'.length := hes.length
  rw [List.length_map] at l1
  rw [Array.length_toList] at l2
  rw [List.length_map] at z
  have hh : X.A.handled = none := I.ok.hd hc
  refine DT.sortedI (es := es) (ep := ep) hh view ⟨o, ho, hx, hdat⟩ (by omega) fun h' tk as hk hlt hl hG => ?_
  have lak : as.length = ks.length := by omega
  have nd : as.Nodup := List.Pairwise.imp (fun h => Nat.ne_of_lt h) hG.rise
  have pr : ∀ (j : Nat) (b : Addr), as[j]? = some b → ∃ (e : Int × Int) (t1 t2 : Tok), ks[j]? = some e ∧ h'.get? b = some { cls := .type "tuple", data := .seq #[Value.int e.1 t1, Value.int e.2 t2] } := by
    intro j b hj
    obtain ⟨en, he, hg⟩ := hG.pairs j b hj
    have hjl : j < vs'.length := by
      have := (List.getElem?_eq_some_iff.mp hj).1
      omega
    have hvj : vs'[j]? = some (vs'[j].1, vs'[j].2) := List.getElem?_eq_getElem hjl
    have he' : es.toList[j]? = some en := by rw [← he]; simp
    obtain ⟨k1, k2⟩ := hes.get? he' hvj
    obtain ⟨e0, he0, r1, r2⟩ := DX.pget rel (List.getElem?_eq_getElem hjl)
    rw [List.getElem?_map] at he0
    obtain ⟨e, hkj, rfl⟩ := Option.map_eq_some_iff.mp he0
    rw [← r1] at k1
    have k1 : keyIs (Sum.inl e.1) en.key = true := k1
    obtain ⟨i, t1, hi, hk1⟩ | ⟨x, t, hi, _⟩ := keyIs_shape k1
    · cases hi
      have r2 : RelV (V.int e.2) vs'[j].2 := r2
      obtain ⟨t2, hv2⟩ := r2
      refine ⟨e, t1, t2, hkj, ?_⟩
      rw [hg, hk1, k2, hv2]
    · cases hi
  have hob : (h'.push { cls := .type "list", data := .seq (as.map Value.ref).toArray }).get? h'.objs.size = some (seqObj "list" (as.map Value.ref).toArray 0) := Heap.get?_push_size _ rfl
  have kb : ∀ b o, s.heap.get? b = some o → (h'.push { cls := .type "list", data := .seq (as.map Value.ref).toArray }).get? b = some o := fun b o e => Heap.get?_push_of_some _ (hk b o e)
  have ne0 : ∀ b o, h'.get? b = some o → b ≠ h'.objs.size := fun b o e => Nat.ne_of_lt (Heap.lt_size e)
  generalize hh2 : h'.push { cls := .type "list", data := .seq (as.map Value.ref).toArray } = h2 at hob kb ⊢
  have ka : ∀ b o, h'.get? b = some o → h2.get? b = some o := fun b o e => by rw [← hh2]; exact Heap.get?_push_of_some _ e
  obtain ⟨kf, kfat⟩ : ∃ kf : Value → List Int, ∀ (j : Nat) (b : Addr) (e : Int × Int), as[j]? = some b → ks[j]? = some e → kf (.ref b) = [e.1, e.2] := by
    classical
    refine ⟨fun v => if h : ∃ e : Int × Int, ∃ (j : Nat) (b : Addr), v = Value.ref b ∧ as[j]? = some b ∧ ks[j]? = some e then [h.choose.1, h.choose.2] else [], fun j b e hj he => ?_⟩
    have h : ∃ e' : Int × Int, ∃ (j' : Nat) (b' : Addr), Value.ref b = Value.ref b' ∧ as[j']? = some b' ∧ ks[j']? = some e' := ⟨e, j, b, rfl, hj, he⟩
    have hc : h.choose = e := by
      obtain ⟨j', b', hb, h1, h2⟩ := h.choose_spec
      cases hb
      have ej : j' = j := (List.getElem?_inj (List.getElem?_eq_some_iff.mp h1).1 nd).mp (h1.trans hj.symm)
      rw [ej, he] at h2
      exact (Option.some.inj h2).symm
    show (if h : _ then _ else _) = _
    rw [dif_pos h, hc]
  have at_ : ∀ v ∈ as.map Value.ref, ∃ (j : Nat) (b : Addr) (e : Int × Int) (t1 t2 : Tok), v = .ref b ∧ as[j]? = some b ∧ ks[j]? = some e ∧ kf v = [e.1, e.2] ∧ h'.get? b = some { cls := .type "tuple", data := .seq #[Value.int e.1 t1, Value.int e.2 t2] } := by
    intro v hv'
    obtain ⟨b, hb, rfl⟩ := List.mem_map.mp hv'
    obtain ⟨j, hj⟩ := List.mem_iff_getElem?.mp hb
    obtain ⟨e, t1, t2, he, hg⟩ := pr j b hj
    exact ⟨j, b, e, t1, t2, rfl, hj, he, kfat j b e hj he, hg⟩
  have hlen0 : (as.map Value.ref).length ≤ sizeLine := by rw [List.length_map]; omega
  refine wpAny_call_entry PyProof.Rows.slot_list_sort ⟨_, hob, rfl⟩ PyProof.Rows.entry_list_sort
    (list_sort_ord (s := { s with heap := h2, toks := tk }) (swoL kf) hob hlen0 (fun h2' => ?_) fun out hs hb => ⟨.none, rfl, ?_⟩) (PyProof.Rows.args_list_sort _)
  · refine ti_sortable (s := { s with heap := h2, toks := tk }) (by omega) (fun v hv' => ?_) (fun v hv' => ?_) fun o e => ?_
    · obtain ⟨j, b, e, t1, t2, rfl, hj, he, hk', hg⟩ := at_ v hv'
      rw [hk']
      simp
    · obtain ⟨j, b, e, t1, t2, rfl, hj, he, hk', hg⟩ := at_ v hv'
      rw [hk']
      exact ⟨b, _, [Value.int e.1 t1, Value.int e.2 t2], 0, rfl, ka _ _ hg, rfl, rfl, .cons _ _ (.cons _ _ .nil)⟩
    · have e' : some o = some (seqObj "list" (as.map Value.ref).toArray 0) := e.symm.trans hob
      cases e'
      intro c
      exact absurd (Value.type.inj c) (by decide)
  · show EP X pins σ Q (.ref h'.objs.size) { s with heap := sortedHeap h2 h'.objs.size (as.map Value.ref) out.toArray, toks := tk }
    have mz : (as.zip ks).map (fun z : Addr × Int × Int => Value.ref z.1) = as.map Value.ref := by
      have : (as.zip ks).map (·.1) = as := List.map_fst_zip (by omega)
      rw [← this, List.map_map, this]
      rfl
    obtain ⟨zs, pz, ez⟩ := perm_lift (fun z : Addr × Int × Int => Value.ref z.1) hb.perm (as.zip ks) mz
    have idx : ∀ z ∈ zs, ∃ j : Nat, as[j]? = some z.1 ∧ ks[j]? = some z.2 := by
      intro z' hz'
      obtain ⟨j, hj⟩ := List.mem_iff_getElem?.mp (pz.mem_iff.mp hz')
      exact ⟨j, List.getElem?_zip_eq_some.mp hj⟩
    have hperm : (zs.map (·.2)).Perm ks := by
      have e := pz.map (·.2)
      have m2 : (as.zip ks).map (·.2) = ks := List.map_snd_zip (by omega)
      rw [m2] at e
      exact e
    have hsort : (zs.map (·.2)).Pairwise (fun e f => ltL [f.1, f.2] [e.1, e.2] = false) := by
      have hs' : out.Pairwise fun x y => ltL (kf y) (kf x) = false := hs
      rw [← ez, List.pairwise_map] at hs'
      rw [List.pairwise_map]
      refine List.Pairwise.imp_of_mem (fun {x y} hx hy h => ?_) hs'
      obtain ⟨j, j1, j2⟩ := idx x hx
      obtain ⟨i, i1, i2⟩ := idx y hy
      rw [kfat j _ _ j1 j2, kfat i _ _ i1 i2] at h
      exact h
    have kF : ∀ b o, b ≠ h'.objs.size → h2.get? b = some o → (sortedHeap h2 h'.objs.size (as.map Value.ref) out.toArray).get? b = some o := fun b o hb e => (PyProof.Rows.sortedHeap_old hb (Heap.lt_size e)).trans e
    have kS : ∀ b o, s.heap.get? b = some o → (sortedHeap h2 h'.objs.size (as.map Value.ref) out.toArray).get? b = some o := fun b o e => kF b o (ne0 _ _ (hk b o e)) (kb b o e)
    obtain ⟨eF, heF⟩ := PyProof.Rows.sortedHeap_at (vs := as.map Value.ref) (out := out.toArray) hob
    have I1 : Inv X pins σ H { s with heap := sortedHeap h2 h'.objs.size (as.map Value.ref) out.toArray, toks := tk } := I.kept (t' := tk) kS
    have hn0 : H h'.objs.size = none := I.hok.fresh (Nat.le_of_lt hlt)
    have hlen : (zs.map fun z => V.ref z.1).length ≤ sizeLine := by
      have e := hperm.length_eq
      rw [List.length_map] at e
      rw [List.length_map]
      omega
    have rv : Vals (zs.map fun z => V.ref z.1) out.toArray.toList := by
      rw [List.toList_toArray, ← ez]
      exact vals_maps (fun z : Addr × Int × Int => V.ref z.1) (fun z => Value.ref z.1) zs fun _ _ => rfl
    have I2 : Inv X pins σ (upd H h'.objs.size (.lst (zs.map fun z => V.ref z.1))) { s with heap := sortedHeap h2 h'.objs.size (as.map Value.ref) out.toArray, toks := tk } :=
      I1.take (h' := sortedHeap h2 h'.objs.size (as.map Value.ref) out.toArray) (t' := tk) (fun b ob _ e => e) (I.fpOk (Nat.le_of_lt hlt) hn0) ⟨hlen, out.toArray.toList, eF, rv, heF⟩
    obtain ⟨H2, I3, g, qt⟩ := DX.takeT (P := fun b vs => ∃ (j : Nat) (e : Int × Int), as[j]? = some b ∧ ks[j]? = some e ∧ vs = [.int e.1, .int e.2]) I as _ I2 nd fun b hb => by
      obtain ⟨j, hj⟩ := List.mem_iff_getElem?.mp hb
      obtain ⟨e, t1, t2, he, hg⟩ := pr j b hj
      have hbl : s.heap.objs.size ≤ b := Nat.le_of_lt (hG.above b hb)
      refine ⟨hbl, ?_, [.int e.1, .int e.2], ⟨j, e, hj, he, rfl⟩, fun H3 => ⟨(by rw [sizeLine_eq]; show 2 ≤ 16777216; omega), [Value.int e.1 t1, Value.int e.2 t2], .cons ⟨t1, rfl⟩ (.cons ⟨t2, rfl⟩ .nil), ⟨_, kF _ _ (ne0 _ _ hg) (ka _ _ hg), rfl, 0, rfl⟩⟩⟩
      rw [upd_ne (ne0 _ _ hg)]
      exact I.hok.fresh hbl
    have gr : ∀ b o, H b = some o → H2 b = some o := fun b o e => g b o (by rw [upd_ne (ne_of_none e hn0)]; exact e)
    refine ⟨.ref h'.objs.size, H2, I3, rfl, q H2 h'.objs.size zs gr hperm hsort hn0 (g _ _ upd_same) fun z' hz' => ?_⟩
    obtain ⟨i, i1, i2⟩ := idx z' hz'
    obtain ⟨vs, ⟨j, e, j1, j2, ev⟩, hH⟩ := qt z'.1 (List.mem_of_getElem? i1)
    have eij : i = j := (List.getElem?_inj (List.getElem?_eq_some_iff.mp i1).1 nd).mp (i1.trans j1.symm)
    subst eij
    have ee : e = z'.2 := Option.some.inj (j2.symm.trans i2)
    rw [ev, ee] at hH
    exact ⟨I.hok.fresh (Nat.le_of_lt (hG.above _ (List.mem_of_getElem? i1))), hH⟩
end
end MyI
namespace Ab
open PySem PySem.Spec PyProof.Rows L2 MyB MyR MyD
def entA (e : Int × Int) : Key × AV := (Sum.inl e.1, .int e.2)
def pvA (e : Int × Int) : AV := .tup [.int e.1, .int e.2]
def aSortIt (te : AE) : AE := fun ρ η Q => te ρ η fun x η1 => ∃ (n : Nat) (ks : List (Int × Int)), x = .rf n ∧ η1 n = some (.dK (ks.map entA)) ∧
  ∀ ps : List (Int × Int), ps.Perm ks → ps.Pairwise (fun e f => MyS.ltL [f.1, f.2] [e.1, e.2] = false) → ∀ m, η1 m = none → Q (.rf m) (pt η1 m (.lst (ps.map pvA)))
theorem repK_ints {K : PySem.W.Frag} {θ : Th} {H : Hp} : ∀ {ks : List (Int × Int)} {vs : List (Key × V)}, RepK K θ H (ks.map entA) vs → vs = ks.map MyI.entI
  | [], vs, h => by cases h; rfl
  | e :: ks, vs, h => by
    rw [List.map_cons] at h
    unfold entA at h
    cases h with
    | cons a b =>
      cases a
      rw [repK_ints b]
      rfl
theorem reps_pairs {K : PySem.W.Frag} {θ : Th} {H : Hp} : ∀ {ps : List (Addr × Int × Int)}, (∀ z ∈ ps, Untr θ z.1 ∧ H z.1 = some (.tup [.int z.2.1, .int z.2.2])) → Reps K θ H ((ps.map (·.2)).map pvA) (ps.map fun z => V.ref z.1)
  | [], _ => .nil
  | z :: ps, h => .cons (.tup (h z List.mem_cons_self).1 (h z List.mem_cons_self).2 (.cons .int (.cons .int .nil))) (reps_pairs fun y hy => h y (List.mem_cons_of_mem _ hy))
section
variable {K : KG} {X : Cx}
theorem xe_sortIt {o : Expr} {te : AE} {p : Pos} {apos cpos pos : Pos} (hc : X.calm = true) (hg : Gl X "sorted") (hm : X.mg "sorted" = none) (ho : XE K X o te)
    (hbase : attributeBase o "items" X.env (eval o X.env) = eval o X.env := by rfl) (hline : (apos.endLine == cpos.line) = true := by rfl)
    (hs : starEach [Expr.Call (.Attribute o "items" apos) [] [] cpos] X.env = (false, eval (Expr.Call (.Attribute o "items" apos) [] [] cpos) X.env) :: starEach [] X.env := by rfl) :
    XE K X (.Call (.Name "sorted" p) [.Call (.Attribute o "items" apos) [] [] cpos] [] pos) (aSortIt te) := by
  obtain ⟨t, p1, q1⟩ := ho
  have pit := pe_bm0 (cpos := cpos) (apos := apos) PySem.F.plainAttrs_dict PySem.F.slot_dict_items PySem.F.type_dict_items MyI.mt_itemsK p1 hbase hline
  have pal : PA X [Expr.Call (.Attribute o "items" apos) [] [] cpos] _ := pa_cons pit pa_nil
  refine ⟨_, pe_callB (MyI.cr_sortedII hc) hg hm (by rfl) pal (by decide) (by decide) hs (by rfl), ?_⟩
  intro θ ρ η σ H AQ Q R S h C
  refine q1 θ ρ η σ H _ _ R S h ?_
  rintro θ1 η1 H1 x v e1 R1 r1 ⟨n, ks, rfl, hn, h1⟩
  cases r1 with
  | rf hth =>
    obtain ⟨a, e', vs, hu, ru⟩ := R1.at n _ hn
    rw [hth] at e'
    cases e'
    have ev := repK_ints ru
    subst ev
    refine ⟨?_, _, _, rfl, rfl, hu, fun p hp => ?_⟩
    · exact .inr (.inr (.inl ⟨rfl, .inl ⟨_, hu⟩⟩))
    refine ⟨p, _, ks, rfl, upd_same, (upd_ne (by rintro rfl; rw [hu] at hp; cases hp)).trans hu, fun H' l ps keep perm srt hl0 hl1 hz => ?_⟩
    have s : Same H1 H' := fun b u e => keep b u (by rw [upd_ne (by rintro rfl; rw [e] at hp; cases hp)]; exact e)
    have none1 : ∀ (u : HO) (b : Addr), upd H1 p u b = none → H1 b = none := fun u b e => by
      by_cases c : b = p
      · subst c
        exact hp
      · rw [upd_ne c] at e
        exact e
    have hl' := none1 _ l hl0
    obtain ⟨m, hm', he⟩ := R1.pick
    have R2 := (R1.same s).track (n := m) (p := l) (o := .lst ((ps.map (·.2)).map pvA)) hm' (R1.untr hl') hl1 (.inl ⟨_, rfl⟩) ⟨_, hl1, reps_pairs fun z hz' => ⟨R1.untr (none1 _ _ (hz z hz').1), (hz z hz').2⟩⟩ (K.mono _ _ _ _ (ext_track (.same s) hm' hl') R1.gh)
    exact C (pt θ1 m l) _ _ _ _ (e1.trans (ext_track (.same s) hm' hl')) R2 (.rf pt_same) (h1 _ perm srt m he)
theorem s_sortIt {te : AE} {ρ : Sta} {η : Eta} {Q : AK} (k : te ρ η fun x η1 => ∃ (n : Nat) (ks : List (Int × Int)), x = .rf n ∧ η1 n = some (.dK (ks.map entA)) ∧
  ∀ ps : List (Int × Int), ps.Perm ks → ps.Pairwise (fun e f => MyS.ltL [f.1, f.2] [e.1, e.2] = false) → ∀ m, η1 m = none → Q (.rf m) (pt η1 m (.lst (ps.map pvA)))) : aSortIt te ρ η Q := k
end
end Ab

/-! dict(a list of ((a, b), n)) in the abstract layer. -/
namespace Ab
open PySem PySem.Spec PyProof.Rows L2 MyB MyR MyD MyC
def eA' (x : Grp) : List Key × AV := ([.inl x.1, .inl x.2.1], .int x.2.2)
def pn (x : Grp) : AV := .tup [.tup [.int x.1, .int x.2.1], .int x.2.2]
def kDictL : ARn := fun xs η Q => ∃ (n : Nat) (L : List Grp), xs = [.rf n] ∧ η n = some (.lst (L.map pn)) ∧ (L.map pr).Nodup ∧ ∀ m, η m = none → Q (.rf m) (pt η m (.dT (L.map eA')))
theorem repK_enc {K : PySem.W.Frag} {θ : Th} {H : Hp} : ∀ L : List Grp, RepK K θ H (L.map eA') (L.map enc)
  | [] => .nil
  | x :: L => .cons .int (repK_enc L)
theorem pn_reps {K : PySem.W.Frag} {θ : Th} {H : Hp} : ∀ {L : List Grp} {vs : List V}, Reps K θ H (L.map pn) vs → ∃ ts : List Addr, vs = ts.map V.ref ∧ Paired (fun t (x : Grp) => ∃ q, H t = some (.tup [.ref q, .int x.2.2]) ∧ H q = some (.tup [.int x.1, .int x.2.1])) ts L
  | [], _, r => by
    cases r
    exact ⟨[], rfl, .nil⟩
  | x :: L, _, r => by
    rw [List.map_cons] at r
    cases r with
    | cons a b =>
      obtain ⟨ts, rfl, p⟩ := pn_reps b
      unfold pn at a
      cases a with
      | tup u h r =>
        cases r with
        | cons a1 r => cases r with
          | cons a2 r =>
            cases r
            cases a2
            cases a1 with
            | tup u2 h2 r2 =>
              cases r2 with
              | cons b1 r2 => cases r2 with
                | cons b2 r2 => cases r2; cases b1; cases b2; exact ⟨_ :: ts, rfl, .cons ⟨_, h, h2⟩ p⟩
theorem xc_dictL {X : Cx} {K : KG} (hK : X.K = K) (hc : X.calm = true) (hu : X.A.units + 64 < cLine) : XC K X (.type "dict") kDictL := by
  refine ⟨_, call_dictL hK hc (Nat.lt_of_le_of_lt (Nat.add_le_add_left (by decide : 2 ≤ 64) _) hu), ?_⟩
  rintro θ η H xs vs AQ Q R r ⟨n, L, rfl, e, nd, q⟩ C
  obtain ⟨v, rfl, r1⟩ := reps1 r
  cases r1 with
  | rf hθ =>
    obtain ⟨a', e', us, hus, ru⟩ := R.at n _ e
    rw [hθ] at e'
    cases e'
    obtain ⟨ts, rfl, p⟩ := pn_reps ru
    exact ⟨_, ts, L, rfl, hus, p, nd, fun p hp => new_dT R hp (repK_enc L) C q⟩
theorem s_dictL {η : Eta} {Q : AK} {n : Nat} {L : List Grp} (h : η n = some (.lst (L.map pn))) (nd : (L.map pr).Nodup) (k : ∀ m, η m = none → Q (.rf m) (pt η m (.dT (L.map eA')))) : kDictL [.rf n] η Q := ⟨n, L, rfl, h, nd, k⟩
end Ab

/-! own errors with one field. -/
namespace Ab
open PySem PySem.Spec PyProof.Rows L2 MyB MyR MyD
structure ErrI (K : PySem.W.Frag) (mg : Str → Option Value) (x qi : Str) (st : Stmt) (C : Addr) (f : Str) : Prop where
  ox : OexC K C
  gC : mg x = some (.ref C)
  nf : PySem.W.findIn K (.ref C) f = some none
  ex : ∃ fI fd, Fun K "__init__" qi st fI fd ∧ PySem.W.findIn K (.ref C) "__init__" = some (some (.ref fI)) ∧ PySem.W.typeIn K (.ref fI) = some (.type "function")
theorem xss_tk (K : KG) {X : Cx} {W : WX} {b : List Stmt} {t t' : AS} (tk : Takes X W) (h : XSs K X b t) (e : t = t') : XSs K X b t' := by
  subst e
  exact h
end Ab

/-! isinstance of things at hand; tests of written flags; a thing compared with itself. -/
namespace Ab
open PySem PySem.Spec PyProof.Rows L2 MyB MyR MyD MyC
section
variable {K : PySem.W.Frag} {η : Eta} {Q : AK}
theorem s_isi_non_int (k : Q (.bl false) η) : kIsi K [.non, .ty "int"] η Q := ⟨_, _, _, _, _, rfl, .ty, .non, kit_ty (a := "NoneType") (b := "int") (r := false) (by decide +kernel), k⟩
theorem s_isi_non_bool (k : Q (.bl false) η) : kIsi K [.non, .ty "bool"] η Q := ⟨_, _, _, _, _, rfl, .ty, .non, kit_ty (a := "NoneType") (b := "bool") (r := false) (by decide +kernel), k⟩
theorem s_isi_non_tuple (k : Q (.bl false) η) : kIsi K [.non, .ty "tuple"] η Q := ⟨_, _, _, _, _, rfl, .ty, .non, kit_ty (a := "NoneType") (b := "tuple") (r := false) (by decide +kernel), k⟩
theorem s_isi_non_list (k : Q (.bl false) η) : kIsi K [.non, .ty "list"] η Q := ⟨_, _, _, _, _, rfl, .ty, .non, kit_ty (a := "NoneType") (b := "list") (r := false) (by decide +kernel), k⟩
theorem s_isi_non_str (k : Q (.bl false) η) : kIsi K [.non, .ty "str"] η Q := ⟨_, _, _, _, _, rfl, .ty, .non, kit_ty (a := "NoneType") (b := "str") (r := false) (by decide +kernel), k⟩
theorem s_isi_bl_int {b : Bool} (k : Q (.bl true) η) : kIsi K [.bl b, .ty "int"] η Q := ⟨_, _, _, _, _, rfl, .ty, .bl, kit_ty (a := "bool") (b := "int") (r := true) (by decide +kernel), k⟩
theorem s_isi_bl_bool {b : Bool} (k : Q (.bl true) η) : kIsi K [.bl b, .ty "bool"] η Q := ⟨_, _, _, _, _, rfl, .ty, .bl, kit_ty (a := "bool") (b := "bool") (r := true) (by decide +kernel), k⟩
theorem s_isi_bl_tuple {b : Bool} (k : Q (.bl false) η) : kIsi K [.bl b, .ty "tuple"] η Q := ⟨_, _, _, _, _, rfl, .ty, .bl, kit_ty (a := "bool") (b := "tuple") (r := false) (by decide +kernel), k⟩
theorem s_isi_bl_list {b : Bool} (k : Q (.bl false) η) : kIsi K [.bl b, .ty "list"] η Q := ⟨_, _, _, _, _, rfl, .ty, .bl, kit_ty (a := "bool") (b := "list") (r := false) (by decide +kernel), k⟩
theorem s_isi_bl_str {b : Bool} (k : Q (.bl false) η) : kIsi K [.bl b, .ty "str"] η Q := ⟨_, _, _, _, _, rfl, .ty, .bl, kit_ty (a := "bool") (b := "str") (r := false) (by decide +kernel), k⟩
theorem s_isi_int_int {i : Int} (k : Q (.bl true) η) : kIsi K [.int i, .ty "int"] η Q := ⟨_, _, _, _, _, rfl, .ty, .int, kit_ty (a := "int") (b := "int") (r := true) (by decide +kernel), k⟩
theorem s_isi_int_bool {i : Int} (k : Q (.bl false) η) : kIsi K [.int i, .ty "bool"] η Q := ⟨_, _, _, _, _, rfl, .ty, .int, kit_ty (a := "int") (b := "bool") (r := false) (by decide +kernel), k⟩
theorem s_isi_int_tuple {i : Int} (k : Q (.bl false) η) : kIsi K [.int i, .ty "tuple"] η Q := ⟨_, _, _, _, _, rfl, .ty, .int, kit_ty (a := "int") (b := "tuple") (r := false) (by decide +kernel), k⟩
theorem s_isi_int_list {i : Int} (k : Q (.bl false) η) : kIsi K [.int i, .ty "list"] η Q := ⟨_, _, _, _, _, rfl, .ty, .int, kit_ty (a := "int") (b := "list") (r := false) (by decide +kernel), k⟩
theorem s_isi_int_str {i : Int} (k : Q (.bl false) η) : kIsi K [.int i, .ty "str"] η Q := ⟨_, _, _, _, _, rfl, .ty, .int, kit_ty (a := "int") (b := "str") (r := false) (by decide +kernel), k⟩
theorem s_isi_str_int {x : Str} (k : Q (.bl false) η) : kIsi K [.str x, .ty "int"] η Q := ⟨_, _, _, _, _, rfl, .ty, .str, kit_ty (a := "str") (b := "int") (r := false) (by decide +kernel), k⟩
theorem s_isi_str_bool {x : Str} (k : Q (.bl false) η) : kIsi K [.str x, .ty "bool"] η Q := ⟨_, _, _, _, _, rfl, .ty, .str, kit_ty (a := "str") (b := "bool") (r := false) (by decide +kernel), k⟩
theorem s_isi_str_tuple {x : Str} (k : Q (.bl false) η) : kIsi K [.str x, .ty "tuple"] η Q := ⟨_, _, _, _, _, rfl, .ty, .str, kit_ty (a := "str") (b := "tuple") (r := false) (by decide +kernel), k⟩
theorem s_isi_str_list {x : Str} (k : Q (.bl false) η) : kIsi K [.str x, .ty "list"] η Q := ⟨_, _, _, _, _, rfl, .ty, .str, kit_ty (a := "str") (b := "list") (r := false) (by decide +kernel), k⟩
theorem s_isi_str_str {x : Str} (k : Q (.bl true) η) : kIsi K [.str x, .ty "str"] η Q := ⟨_, _, _, _, _, rfl, .ty, .str, kit_ty (a := "str") (b := "str") (r := true) (by decide +kernel), k⟩
theorem s_isi_tup_int {xs : List AV} (k : Q (.bl false) η) : kIsi K [.tup xs, .ty "int"] η Q := ⟨_, _, _, _, _, rfl, .ty, .tup, kit_ty (a := "tuple") (b := "int") (r := false) (by decide +kernel), k⟩
theorem s_isi_tup_bool {xs : List AV} (k : Q (.bl false) η) : kIsi K [.tup xs, .ty "bool"] η Q := ⟨_, _, _, _, _, rfl, .ty, .tup, kit_ty (a := "tuple") (b := "bool") (r := false) (by decide +kernel), k⟩
theorem s_isi_tup_tuple {xs : List AV} (k : Q (.bl true) η) : kIsi K [.tup xs, .ty "tuple"] η Q := ⟨_, _, _, _, _, rfl, .ty, .tup, kit_ty (a := "tuple") (b := "tuple") (r := true) (by decide +kernel), k⟩
theorem s_isi_tup_list {xs : List AV} (k : Q (.bl false) η) : kIsi K [.tup xs, .ty "list"] η Q := ⟨_, _, _, _, _, rfl, .ty, .tup, kit_ty (a := "tuple") (b := "list") (r := false) (by decide +kernel), k⟩
theorem s_isi_tup_str {xs : List AV} (k : Q (.bl false) η) : kIsi K [.tup xs, .ty "str"] η Q := ⟨_, _, _, _, _, rfl, .ty, .tup, kit_ty (a := "tuple") (b := "str") (r := false) (by decide +kernel), k⟩
theorem s_isi_lst_int {n : Nat} {xs : List AV} (h : η n = some (.lst xs)) (k : Q (.bl false) η) : kIsi K [.rf n, .ty "int"] η Q := ⟨_, _, _, _, _, rfl, .ty, .lst h, kit_ty (a := "list") (b := "int") (r := false) (by decide +kernel), k⟩
theorem s_isi_lst_bool {n : Nat} {xs : List AV} (h : η n = some (.lst xs)) (k : Q (.bl false) η) : kIsi K [.rf n, .ty "bool"] η Q := ⟨_, _, _, _, _, rfl, .ty, .lst h, kit_ty (a := "list") (b := "bool") (r := false) (by decide +kernel), k⟩
theorem s_isi_lst_tuple {n : Nat} {xs : List AV} (h : η n = some (.lst xs)) (k : Q (.bl false) η) : kIsi K [.rf n, .ty "tuple"] η Q := ⟨_, _, _, _, _, rfl, .ty, .lst h, kit_ty (a := "list") (b := "tuple") (r := false) (by decide +kernel), k⟩
theorem s_isi_lst_list {n : Nat} {xs : List AV} (h : η n = some (.lst xs)) (k : Q (.bl true) η) : kIsi K [.rf n, .ty "list"] η Q := ⟨_, _, _, _, _, rfl, .ty, .lst h, kit_ty (a := "list") (b := "list") (r := true) (by decide +kernel), k⟩
theorem s_isi_lst_str {n : Nat} {xs : List AV} (h : η n = some (.lst xs)) (k : Q (.bl false) η) : kIsi K [.rf n, .ty "str"] η Q := ⟨_, _, _, _, _, rfl, .ty, .lst h, kit_ty (a := "list") (b := "str") (r := false) (by decide +kernel), k⟩
theorem s_neSame {x : AV} (nm : Nm x) (sh : SeqAt.shaped (dat x) = true) (k : Q (.bl false) η) : uNe x x η Q :=
  .inr ⟨_, _, .pl nm.pl, .pl nm.pl, sh, sh, by rw [(nm.eqv nm).mpr rfl]; exact k⟩
theorem s_eqSame {x : AV} (nm : Nm x) (sh : SeqAt.shaped (dat x) = true) (k : Q (.bl true) η) : uEq x x η Q :=
  .inr ⟨_, _, .pl nm.pl, .pl nm.pl, sh, sh, by rw [(nm.eqv nm).mpr rfl]; exact k⟩
theorem s_neNm {x y : AV} {p : Prop} [Decidable p] (nx : Nm x) (ny : Nm y) (sx : SeqAt.shaped (dat x) = true) (sy : SeqAt.shaped (dat y) = true) (e : x = y ↔ p) (k : Q (.bl (!decide p)) η) : uNe x y η Q :=
  .inr ⟨_, _, .pl nx.pl, .pl ny.pl, sx, sy, by rw [eqv_dec nx ny e]; exact k⟩
theorem s_eqNm {x y : AV} {p : Prop} [Decidable p] (nx : Nm x) (ny : Nm y) (sx : SeqAt.shaped (dat x) = true) (sy : SeqAt.shaped (dat y) = true) (e : x = y ↔ p) (k : Q (.bl (decide p)) η) : uEq x y η Q :=
  .inr ⟨_, _, .pl nx.pl, .pl ny.pl, sx, sy, by rw [eqv_dec nx ny e]; exact k⟩
end
theorem s_rngJ {j : Int} {R : Int → Prop} (h : -(2 ^ 62) ≤ j ∧ j < 2 ^ 62) (k : R j) : ∃ i : Int, ([.int j] : List AV) = [.int i] ∧ -(2 ^ 62) ≤ i ∧ i < 2 ^ 62 ∧ R i := ⟨j, rfl, h.1, h.2, k⟩
theorem s_rngJ2 {i j : Int} {R : Int → Int → Prop} (h : -(2 ^ 62) ≤ i ∧ i < 2 ^ 62 ∧ -(2 ^ 62) ≤ j ∧ j < 2 ^ 62) (k : R i j) : ∃ u v : Int, ([.int i, .int j] : List AV) = [.int u, .int v] ∧ (-(2 ^ 62) ≤ u ∧ u < 2 ^ 62 ∧ -(2 ^ 62) ≤ v ∧ v < 2 ^ 62) ∧ R u v := ⟨i, j, rfl, h, k⟩
theorem ite_nT {A B : Prop} (h : B) : if (!true) = true then A else B := h
theorem ite_nF {A B : Prop} (h : A) : if (!false) = true then A else B := h
theorem ite_ndec {c : Prop} [Decidable c] {A B : Prop} (h1 : c → B) (h2 : ¬ c → A) : if (!decide c) = true then A else B := by
  by_cases h : c
  · rw [decide_eq_true h]
    exact h1 h
  · rw [decide_eq_false h]
    exact h2 h
end Ab

/-! isinstance with a written tuple of classes. -/
namespace Ab
open PySem PySem.Spec PyProof.Rows L2 MyB MyR MyD MyC
def kIsiT (K : PySem.W.Frag) : ARn := fun xs η Q => ∃ x cs t us b, xs = [x, .tup cs] ∧ Paired ClsA cs us ∧ TyA K η x t ∧ PySem.W.kitAny K t us = some b ∧ Q (.bl b) η
section
variable {K : KG} {X : Cx}
theorem cls_reps {K : PySem.W.Frag} {θ : Th} {H : Hp} : ∀ {cs : List AV} {us : List Value} {vs : List V}, Paired ClsA cs us → Reps K θ H cs vs → Paired ClsV vs us
  | _, _, _, .nil, .nil => .nil
  | _, _, _, .cons c k, .cons r t => .cons (by
      cases c with
      | ty => cases r; exact .ty _
      | own => cases r; exact .own _) (cls_reps k t)
theorem xc_isiT (hK : X.K = K) : XC K X (.builtin "isinstance") (kIsiT K) := by
  obtain ⟨K, Gg, mn⟩ := K; have hK : X.K = K := hK; subst hK
  refine ⟨_, L2.call_isiT, ?_⟩
  rintro θ η H xs vs AQ Q R r ⟨x, cs, t, us, b, rfl, hc, ht, hk, q⟩ C
  obtain ⟨v, w, rfl, r1, r2⟩ := reps2 r
  cases r2 with
  | tup u h3 r3 =>
    exact ⟨v, _, _, t, us, b, rfl, h3, cls_reps hc r3, ht.ty R r1, hk, C θ η H _ _ .refl R .bl q⟩
end
section
variable {K : PySem.W.Frag} {η : Eta} {Q : AK}
theorem kit_two {K : PySem.W.Frag} {t a b : Value} {p q : Bool} (h1 : PySem.W.kitOne K t a = some p) (h2 : PySem.W.kitOne K t b = some q) : PySem.W.kitAny K t [a, b] = some (p || q) := by
  refine kitAny_cons h1 (fun e => ?_) (fun e => by rw [e]; rfl)
  subst e
  refine kitAny_cons h2 (fun e => ?_) (fun e => by rw [e]; rfl)
  subst e
  rfl
/-- of two built-in classes -/
theorem s_isi2 {x : AV} {a b t : String} {p q : Bool} (ty : TyA K η x (.type t)) (k : Q (.bl (p || q)) η) (h1 : kitB t a = some p := by decide +kernel) (h2 : kitB t b = some q := by decide +kernel) : kIsiT K [x, .tup [.ty a, .ty b]] η Q :=
  ⟨x, _, _, _, _, rfl, .cons .ty (.cons .ty .nil), ty, kit_two (kit_ty h1) (kit_ty h2), k⟩
end
end Ab

/-! things of whole numbers, None and tuples of such, not too deep: told as equal. -/
namespace Ab
open PySem PySem.Spec PyProof.Rows L2 MyB MyR MyD MyC
inductive NmD : Nat → AV → Prop
  | int {n i} : NmD n (.int i)
  | non {n} : NmD n .non
  | tup {n xs} : (∀ x ∈ xs, NmD n x) → NmD (n + 1) (.tup xs)
theorem nms_of : ∀ {xs : List AV}, (∀ x ∈ xs, Nm x) → Nms xs
  | [], _ => .nil
  | x :: xs, h => .cons (h x List.mem_cons_self) (nms_of fun y hy => h y (List.mem_cons_of_mem _ hy))
theorem mem_datL : ∀ {xs : List AV} {d : PyData}, d ∈ datL xs → ∃ x ∈ xs, d = dat x
  | [], d, h => by cases h
  | x :: xs, d, h => by
    rcases List.mem_cons.mp h with rfl | h
    · exact ⟨x, List.mem_cons_self, rfl⟩
    · obtain ⟨y, hy, e⟩ := mem_datL h
      exact ⟨y, List.mem_cons_of_mem _ hy, e⟩
theorem NmD.nm {n : Nat} {x : AV} (h : NmD n x) : Nm x := by
  induction h with
  | int => exact .int
  | non => exact .non
  | tup h ih => exact .tup (nms_of ih)
theorem NmD.shp {n : Nat} {x : AV} (h : NmD n x) : Shp (dat x) n := by
  induction h with
  | int => rw [dat]; exact shp_int
  | non => exact shp_none
  | tup h ih =>
    rw [dat]
    refine shp_tup fun d hd => ?_
    obtain ⟨x, hx, rfl⟩ := mem_datL hd
    exact ih x hx
theorem NmD.map {α : Type} {f : α → AV} {n : Nat} {L : List α} (h : ∀ a ∈ L, NmD n (f a)) : ∀ x ∈ L.map f, NmD n x := fun x hx => by
  obtain ⟨a, ha, rfl⟩ := List.mem_map.mp hx
  exact h a ha
theorem NmD.two {n : Nat} {a b : AV} (ha : NmD n a) (hb : NmD n b) : NmD (n + 1) (.tup [a, b]) := .tup fun x hx => by
  simp only [List.mem_cons, List.not_mem_nil, or_false] at hx
  rcases hx with rfl | rfl <;> assumption
theorem NmD.three {n : Nat} {a b c : AV} (ha : NmD n a) (hb : NmD n b) (hc : NmD n c) : NmD (n + 1) (.tup [a, b, c]) := .tup fun x hx => by
  simp only [List.mem_cons, List.not_mem_nil, or_false] at hx
  rcases hx with rfl | rfl | rfl <;> assumption
section
variable {η : Eta} {Q : AK} {n m : Nat} {x y : AV} {xs ys : List AV} {p : Prop} [Decidable p]
theorem s_eqT (hx : NmD n x) (hy : NmD m y) (e : x = y ↔ p) (k : Q (.bl (decide p)) η) (hn : n ≤ 64 := by decide) (hm : m ≤ 64 := by decide) : uEq x y η Q := s_eqNm hx.nm hy.nm (hx.shp.ok hn) (hy.shp.ok hm) e k
theorem s_neT (hx : NmD n x) (hy : NmD m y) (e : x = y ↔ p) (k : Q (.bl (!decide p)) η) (hn : n ≤ 64 := by decide) (hm : m ≤ 64 := by decide) : uNe x y η Q := s_neNm hx.nm hy.nm (hx.shp.ok hn) (hy.shp.ok hm) e k
theorem eqv_lst (hx : ∀ z ∈ xs, NmD n z) (hy : ∀ z ∈ ys, NmD m z) (e : xs = ys ↔ p) : PyData.eqv (.list (datL xs)) (.list (datL ys)) = decide p := by
  have h : PyData.eqvAll (datL xs) (datL ys) = true ↔ xs = ys := (nms_of fun z hz => (hx z hz).nm).eqv (nms_of fun z hz => (hy z hz).nm)
  have h2 : PyData.eqv (.list (datL xs)) (.list (datL ys)) = PyData.eqvAll (datL xs) (datL ys) := by rw [PyData.eqv]
  rw [h2, Bool.eq_iff_iff, h, e, decide_eq_true_eq]
theorem shp_lstD (hx : ∀ z ∈ xs, NmD n z) : Shp (.list (datL xs)) (n + 1) := shp_lst fun d hd => by
  obtain ⟨x, hx', rfl⟩ := mem_datL hd
  exact (hx x hx').shp
theorem s_eqLL (lx : LstOf η x xs) (ly : LstOf η y ys) (hx : ∀ z ∈ xs, NmD n z) (hy : ∀ z ∈ ys, NmD m z) (e : xs = ys ↔ p) (k : Q (.bl (decide p)) η) (hn : n + 1 ≤ 64 := by decide) (hm : m + 1 ≤ 64 := by decide) : uEq x y η Q :=
  .inr ⟨_, _, .lst lx (nms_of fun z hz => (hx z hz).nm).pl, .lst ly (nms_of fun z hz => (hy z hz).nm).pl, (shp_lstD hx).ok hn, (shp_lstD hy).ok hm, by rw [eqv_lst hx hy e]; exact k⟩
theorem s_neLL (lx : LstOf η x xs) (ly : LstOf η y ys) (hx : ∀ z ∈ xs, NmD n z) (hy : ∀ z ∈ ys, NmD m z) (e : xs = ys ↔ p) (k : Q (.bl (!decide p)) η) (hn : n + 1 ≤ 64 := by decide) (hm : m + 1 ≤ 64 := by decide) : uNe x y η Q :=
  .inr ⟨_, _, .lst lx (nms_of fun z hz => (hx z hz).nm).pl, .lst ly (nms_of fun z hz => (hy z hz).nm).pl, (shp_lstD hx).ok hn, (shp_lstD hy).ok hm, by rw [eqv_lst hx hy e]; exact k⟩
end
/-! ### states kept written out -/
theorem s_nameE {i : Nat} {v : AV} {ρ ρ' : Sta} {η : Eta} {R : Sta → Eta → Prop} (e : ρ.set i (some v) = ρ') (k : R ρ' η) : agName i v ρ η R := by
  subst e
  exact k
theorem s_par2E {i j : Nat} {a b : AV} {ρ ρ' : Sta} {η : Eta} {D : Sta → Eta → Prop} (e : (ρ.set i (some a)).set j (some b) = ρ') (k : D ρ' η) : ∃ x y, ([a, b] : List AV) = [x, y] ∧ D ((ρ.set i (some x)).set j (some y)) η := by
  subst e
  exact ⟨a, b, rfl, k⟩
end Ab

/-! own classes: instances that never change, instances that do; __init__ that may raise; methods. -/
namespace L2
open PySem PySem.Spec PyProof.Rows
section
variable {X : Cx} {CX : CXT} {k : Nat} {f C : Addr} {fd : FuncData} {ps : List Str} {sp : Sp} {E : St → XK} {x m : Str} {p pos apos : Pos} {e o : Expr} {es : List Expr} {ta : TE} {t : TA}
theorem run_makeS {pins : List (Addr × Obj)} {σ : St} {H : Hp} {s : Shared} {Q : VK} {us : List Value} {vs : List V} (M : Mk X.K C f) (F : FnOk X.prog X.w X.K X.mg X.base CX k f fd ps sp) (hr : Room (k + 1) X.A) (hb : Binds X.K fd ps [])
    (hx : PassesAt CX X σ (E σ)) (I : Inv X pins σ H s) (r : Vals vs us)
    (h : ∀ x dx, H x = none → H dx = none → dx ≠ x → sp (.ref x :: vs) (upd (upd H dx (.own x)) x (.ins C dx [])) (fun v H2 => v = .non ∧ Q (.ref x) H2) (E σ)) :
    wpAny (model X.prog X.w) X.A (call (.ref C) us) (EP X pins σ Q) X.xe s := by
  have hq := h (s.heap.objs.size + 1) s.heap.objs.size (I.hok.fresh (Nat.le_succ _)) (I.hok.fresh (Nat.le_refl _)) (Nat.ne_of_lt (Nat.lt_succ_self _))
  have I2 := Inv.made (C := C) I
  have r2 : Vals (V.ref (s.heap.objs.size + 1) :: vs) (Value.ref (s.heap.objs.size + 1) :: us) := .cons rfl r
  have hl : (Value.ref (s.heap.objs.size + 1) :: us).length = ps.length := by
    have e := r2.length
    rw [F.len _ _ _ _ hq] at e
    exact e.symm
  have b := hb _ (Value.ref (s.heap.objs.size + 1) :: us) I2.kIn (by rw [List.append_nil]; exact hl)
  rw [List.append_nil] at b
  refine wpAny_call (make_map (f := f) I.kIn M.makes M.init (beq_iff_eq.mp M.fn) (codeAny_mono (F.run _ X.stack _ _ ⟨Value.ref (s.heap.objs.size + 1) :: us, []⟩ (Value.ref (s.heap.objs.size + 1) :: us) _ _ (E σ) (hr.make C us [])
    (I2.env0.make C us []) b r2 hq) fun r s' hq' => ?_))
  cases r with
  | error e => exact hx pins _ _ e s' I2 hq'
  | ok fl =>
    cases fl with
    | ret u =>
      obtain ⟨v, H', I3, rv, ev, q3⟩ := I2.after hq'
      subst ev
      exact ⟨rv, ⟨V.ref (s.heap.objs.size + 1), H', I3, rfl, q3⟩⟩
    | next => exact False.elim hq'
    | brk => exact False.elim hq'
    | cont => exact False.elim hq'
def tMakeS (C : Addr) (sp : Sp) (E : St → XK) (t : TA) : TE := fun σ H Q => t σ H fun vs H1 => ∀ x dx, H1 x = none → H1 dx = none → dx ≠ x → sp (.ref x :: vs) (upd (upd H1 dx (.own x)) x (.ins C dx [])) (fun v H2 => v = .non ∧ Q (.ref x) H2) (E σ)
theorem pe_makeS (M : Mk X.K C f) (F : FnOk X.prog X.w X.K X.mg X.base CX k f fd ps sp) (hr : Room (k + 1) X.A) (hg : Gl X x) (hm : X.mg x = some (.ref C)) (hb : Binds X.K fd ps []) (hx : ∀ σ, PassesAt CX X σ (E σ))
    (ha : PA X (e :: es) t) (hdb : (x == ("__debug__" : Str)) = false := by decide) (he : starEach (e :: es) X.env = (false, eval e X.env) :: starEach es X.env := by rfl) (hpl : (backTo pos (starEach es X.env)).any (·.1) = false := by rfl) :
    PE X (.Call (.Name x p) (e :: es) [] pos) (tMakeS C sp E t) := by
  refine ⟨fun pins s σ H Q I h => ?_⟩
  refine wpAny_Call_Name_kw (ld_glob I hg hm ?_ hdb)
  refine PySem.W.callWith_K (h₀ := X.base) I.ok.mod.kin M.kp (thn (ha.run pos pins s σ H _ I h) fun us s1 ⟨vs, H1, I1, r, q⟩ => ⟨I1.kIn, ?_⟩) he hpl
  exact run_makeS M F hr hb (hx σ) I1 r q
end
end L2
namespace Ab
open PySem PySem.Spec PyProof.Rows L2 MyB MyR MyD
/-! ### values that do not name a mutable thing -/
mutual
inductive NoRf (n : Nat) : AV → Prop
  | non : NoRf n .non
  | bl {b} : NoRf n (.bl b)
  | int {i} : NoRf n (.int i)
  | str {x} : NoRf n (.str x)
  | ty {x} : NoRf n (.ty x)
  | gl {a} : NoRf n (.gl a)
  | tup {xs} : NoRfs n xs → NoRf n (.tup xs)
  | ob {C fs} : NoRfF n fs → NoRf n (.ob C fs)
  | rf {m} : m ≠ n → NoRf n (.rf m)
  | kl {xs} : NoRfs n xs → NoRf n (.kl xs)
inductive NoRfs (n : Nat) : List AV → Prop
  | nil : NoRfs n []
  | cons {x xs} : NoRf n x → NoRfs n xs → NoRfs n (x :: xs)
inductive NoRfF (n : Nat) : List (Str × AV) → Prop
  | nil : NoRfF n []
  | cons {f x xs} : NoRf n x → NoRfF n xs → NoRfF n ((f, x) :: xs)
end
def rm (θ : Th) (n : Nat) : Th := fun m => if m = n then none else θ m
theorem rm_ne {θ : Th} {n m : Nat} (h : m ≠ n) : rm θ n m = θ m := if_neg h
theorem rm_same {θ : Th} {n : Nat} : rm θ n n = none := if_pos rfl
theorem rm_sub {θ : Th} {n m : Nat} {a : Addr} (h : rm θ n m = some a) : θ m = some a := by
  unfold rm at h
  split at h
  · cases h
  · exact h
theorem untr_rm {θ : Th} {n : Nat} {a : Addr} (u : Untr θ a) : Untr (rm θ n) a := fun m h => u m (rm_sub h)
section
variable {K : PySem.W.Frag} {θ θ' : Th} {H H' : Hp} {n : Nat}
mutual
theorem Rep.noRf (hn : θ n = none) : ∀ {x : AV} {v : V}, Rep K θ H x v → NoRf n x
  | _, _, .non => .non
  | _, _, .bl => .bl
  | _, _, .int => .int
  | _, _, .str => .str
  | _, _, .ty => .ty
  | _, _, .gl => .gl
  | _, _, .tup _ _ r => .tup (Reps.noRf hn r)
  | _, _, .ob _ _ r => .ob (RepF.noRf hn r)
  | _, _, .rf h => .rf (by rintro rfl; rw [hn] at h; cases h)
  | _, _, .kl _ r => .kl (Reps.noRf hn r)
theorem Reps.noRf (hn : θ n = none) : ∀ {xs : List AV} {vs : List V}, Reps K θ H xs vs → NoRfs n xs
  | _, _, .nil => .nil
  | _, _, .cons a b => .cons (Rep.noRf hn a) (Reps.noRf hn b)
theorem RepF.noRf (hn : θ n = none) : ∀ {fs : List (Str × AV)} {gs : List (Str × V)}, RepF K θ H fs gs → NoRfF n fs
  | _, _, .nil => .nil
  | _, _, .cons _ a b => .cons (Rep.noRf hn a) (RepF.noRf hn b)
end
theorem kl_rm {a : Addr} {vs : List V} (h : KL K θ H a vs) : KL K (rm θ n) H a vs := by
  rcases h with ⟨u, o, q⟩ | h
  · exact .inl ⟨untr_rm u, o, q⟩
  · exact .inr h
mutual
theorem Rep.less : ∀ {x : AV} {v : V}, NoRf n x → Rep K θ H x v → Rep K (rm θ n) H x v
  | _, _, _, .non => .non
  | _, _, _, .bl => .bl
  | _, _, _, .int => .int
  | _, _, _, .str => .str
  | _, _, _, .ty => .ty
  | _, _, _, .gl => .gl
  | _, _, .tup g, .tup u h r => .tup (untr_rm u) h (Reps.less g r)
  | _, _, .ob g, .ob u h r => .ob (untr_rm u) h (RepF.less g r)
  | _, _, .rf g, .rf h => .rf ((rm_ne g).trans h)
  | _, _, .kl g, .kl h r => .kl (kl_rm h) (Reps.less g r)
theorem Reps.less : ∀ {xs : List AV} {vs : List V}, NoRfs n xs → Reps K θ H xs vs → Reps K (rm θ n) H xs vs
  | _, _, .nil, .nil => .nil
  | _, _, .cons g g', .cons a b => .cons (Rep.less g a) (Reps.less g' b)
theorem RepF.less : ∀ {fs : List (Str × AV)} {gs : List (Str × V)}, NoRfF n fs → RepF K θ H fs gs → RepF K (rm θ n) H fs gs
  | _, _, .nil, .nil => .nil
  | _, _, .cons g g', .cons l a b => .cons l (Rep.less g a) (RepF.less g' b)
end
theorem RepK.less {κ : Type} (hn : θ n = none) {xs : List (κ × AV)} {vs ws : List (κ × V)} (h0 : RepK K θ H xs vs) (h : RepK K θ' H' xs ws) : RepK K (rm θ' n) H' xs ws := by
  induction h0 generalizing ws with
  | nil => cases h; exact .nil
  | cons a b ih => cases h with | cons a' b' => exact .cons (Rep.less (a.noRf hn) a') (ih b')
/-- an object of old names no new thing -/
theorem RepO.less (hn : θ n = none) {a b : Addr} {o : AO} (h0 : RepO K θ H a o) (h : RepO K θ' H' b o) : RepO K (rm θ' n) H' b o := by
  cases o with
  | lst xs =>
    obtain ⟨_, _, r0⟩ := h0
    obtain ⟨vs, q, r⟩ := h
    exact ⟨vs, q, r.less (r0.noRf hn)⟩
  | dK kvs =>
    obtain ⟨_, _, r0⟩ := h0
    obtain ⟨vs, q, r⟩ := h
    exact ⟨vs, q, r0.less hn r⟩
  | dT kvs =>
    obtain ⟨_, _, r0⟩ := h0
    obtain ⟨vs, q, r⟩ := h
    exact ⟨vs, q, r0.less hn r⟩
  | ins C fs =>
    obtain ⟨_, _, _, _, r0⟩ := h0
    obtain ⟨dx, gs, q, l, r⟩ := h
    exact ⟨dx, gs, q, l, r.less (r0.noRf hn)⟩
  | fz o od u =>
    cases o with
    | dK kvs =>
      obtain ⟨_, _, _, r0⟩ := h0
      obtain ⟨vs, z, q, r⟩ := h
      exact ⟨vs, z, q, r0.less hn r⟩
    | dT kvs =>
      obtain ⟨_, _, _, r0⟩ := h0
      obtain ⟨vs, z, q, r⟩ := h
      exact ⟨vs, z, q, r0.less hn r⟩
    | lst xs => exact h.elim
    | ins C fs => exact h.elim
    | fz o a b => exact h.elim
end
/-! ### making instances -/
/-- what __init__ keeps to: the instance stands at a -/
def liftI (K : PySem.W.Frag) (C : Addr) (asp : ASpX) : Sp := fun vs H Q E => ∃ a dx us θ η xs AQ AE H0 Q0, vs = .ref a :: us ∧ H0 a = none ∧ H0 dx = none ∧ dx ≠ a ∧ H = upd (upd H0 dx (.own a)) a (.ins C dx []) ∧
  RelH (KG.top K) θ η H0 ∧ Reps K θ H0 xs us ∧ asp xs η AQ AE ∧ Cg (KG.top K) (Rep K) θ H0 AQ Q0 ∧ CgX (KG.top K) θ H0 AE E ∧ ∀ H2, Q0 (.ref a) H2 → Q .non H2
def XNewX (P : Program) (w : World) (K : PySem.W.Frag) (mg : Str → Option Value) (base : Heap) (k : Nat) (x : Str) (C : Addr) (ps : List Str) (asp : ASpX) : Prop :=
  ∃ f fd, Mk K C f ∧ FnOk P w K mg base (L2.CX P w) k f fd ps (liftI K C asp) ∧ mg x = some (.ref C) ∧ Binds K fd ps []
theorem ext_ins {K : KG} {θ : Th} {η : Eta} {H0 : Hp} {a dx C : Addr} {n : Nat} (R : RelH (KG.top K.k) θ η H0) (ha : H0 a = none) (hd : H0 dx = none) (hda : dx ≠ a) (hn : θ n = none) :
    Ext θ H0 (pt θ n a) (upd (upd H0 dx (.own a)) a (.ins C dx [])) ∧ RelH (KG.top K.k) (pt θ n a) (pt η n (.ins C [])) (upd (upd H0 dx (.own a)) a (.ins C dx [])) := by
  have s : Same H0 (upd (upd H0 dx (.own a)) a (.ins C dx [])) := fun b o hb => by
    rw [upd_ne (ne_of_none hb ha), upd_ne (ne_of_none hb hd)]
    exact hb
  have e : Ext θ H0 (pt θ n a) (upd (upd H0 dx (.own a)) a (.ins C dx [])) := ext_track (.same s) hn ha
  refine ⟨e, ⟨fun m o h => ?_, fun m m' b h h' => ?_, fun m b h => ?_, ?_, trivial⟩⟩
  · by_cases c : m = n
    · subst c
      rw [pt_same] at h
      cases h
      exact ⟨a, pt_same, dx, [], upd_same, ⟨Nat.le_refl _, fun _ _ => rfl⟩, .nil⟩
    · rw [pt_ne c] at h
      obtain ⟨b, h1, h2⟩ := R.at m o h
      obtain ⟨u, hu, _⟩ := R.live m b h1
      exact ⟨b, (pt_ne c).trans h1, h2.ext e ((s b u hu).trans hu.symm)⟩
  · by_cases c : m = n
    · by_cases c' : m' = n
      · exact c.trans c'.symm
      · subst c
        rw [pt_same] at h
        cases h
        rw [pt_ne c'] at h'
        obtain ⟨u, hu, _⟩ := R.live m' _ h'
        rw [ha] at hu
        cases hu
    · by_cases c' : m' = n
      · subst c'
        rw [pt_same] at h'
        cases h'
        rw [pt_ne c] at h
        obtain ⟨u, hu, _⟩ := R.live m _ h
        rw [ha] at hu
        cases hu
      · rw [pt_ne c] at h
        rw [pt_ne c'] at h'
        exact R.inj m m' b h h'
  · by_cases c : m = n
    · subst c
      rw [pt_same] at h
      cases h
      exact ⟨_, upd_same, fun _ z => by cases z⟩
    · rw [pt_ne c] at h
      obtain ⟨u, hu, nt⟩ := R.live m b h
      exact ⟨u, s b u hu, nt⟩
  · obtain ⟨N, h⟩ := R.top
    exact ⟨max N (n + 1), fun m hm => by rw [pt_ne (by omega)]; exact h m (by omega)⟩
/-- the instance at n is frozen: a value from now on -/
def FrzOb (C : Addr) (n : Nat) (η : Eta) (Q : AK) (η' : Eta) : Prop := ∃ fs, η' n = some (.ins C fs) ∧ NoRfF n fs ∧ (∀ m o, η m = some o → η' m = some o) ∧ Q (.ob C fs) η
theorem frz {K : PySem.W.Frag} {θ θ' : Th} {η η' : Eta} {H0 H' : Hp} {n : Nat} {C : Addr} {a : Addr} {Q : AK} {Q0 : VK} (R0 : RelH (KG.top K) θ η H0) (e : Ext θ H0 θ' H') (R : RelH (KG.top K) θ' η' H') (hn : θ n = none) (ha : θ' n = some a) (Cq : Cg (KG.top K) (Rep K) θ H0 Q Q0) (q : FrzOb C n η Q η') : Q0 (.ref a) H' := by
  obtain ⟨fs, h1, h2, h3, h4⟩ := q
  obtain ⟨a', h5, dx, gs, h6, _, h7⟩ := R.at n _ h1
  rw [ha] at h5
  cases h5
  refine Cq (rm θ' n) η H' _ _ ⟨fun m b h => ?_, fun m b h => e.fresh m b (rm_sub h), e.keep, e.stay⟩ ⟨fun m o h => ?_, fun m m' b h h' => R.inj m m' b (rm_sub h) (rm_sub h'), fun m b h => R.live m b (rm_sub h), ?_, trivial⟩ (.ob (fun m h => ?_) h6 (h7.less h2)) h4
  · rw [rm_ne (by rintro rfl; rw [hn] at h; cases h)]
    exact e.mono m b h
  · obtain ⟨b, g1, g2⟩ := R0.at m o h
    obtain ⟨b', k1, k2⟩ := R.at m o (h3 m o h)
    have mn : m ≠ n := by rintro rfl; rw [hn] at g1; cases g1
    exact ⟨b', (rm_ne mn).trans k1, g2.less hn k2⟩
  · obtain ⟨N, h⟩ := R.top
    exact ⟨N, fun m hm => by
      unfold rm
      split
      · rfl
      · exact h m hm⟩
  · have mn : m ≠ n := by rintro rfl; rw [rm_same] at h; cases h
    exact mn (R.inj m n a (rm_sub h) ha)
section
variable {P : Program} {w : World} {K : PySem.W.Frag} {mg : Str → Option Value} {base : Heap} {k : Nat} {ps : List Str} {asp : ASpX} {x qi : Str} {C : Addr}
/-- __init__ walked: fin says how the instance is handed over -/
theorem XNewX.of {st : Stmt} {N : List Str} (R : RawC K mg x qi st C) (S : FnScope N ps (defScope st))
    (bind : ∀ (kV doc pm : Value) (an : Option Addr) (cdv ct : Value) (us : List Value), us.length = ps.length → bindArgs (PySem.W.fnOf "__init__" qi (defArgs st) (defBody st) (defScope st) .none kV doc pm an cdv ct) ⟨us, []⟩ = pure (ps.zip us))
    (len : ∀ xs η Q AE, asp xs η Q AE → xs.length + 1 = ps.length)
    (hbody : ∀ (f : Addr) (cdv : Value) (A : Around) (outer : List Env) (s : Shared) (H : Hp) (E : XK), Room k (A.deeper (envOfC qi (defScope st) s.heap.objs.size f cdv)) →
      Takes (cxOf (L2.CX P w) P w K mg base N qi (defScope st) f cdv A outer s H E) (WF E) →
      PassesOwn (model P w) (cxOf (L2.CX P w) P w K mg base N qi (defScope st) f cdv A outer s H E).A (cxOf (L2.CX P w) P w K mg base N qi (defScope st) f cdv A outer s H E).env (cxOf (L2.CX P w) P w K mg base N qi (defScope st) f cdv A outer s H E).xe →
      ∃ tb : AWish → AS, (∀ AW, XSs ((KG.top K).wish AW (WF E)) (cxOf (L2.CX P w) P w K mg base N qi (defScope st) f cdv A outer s H E) (defBody st) (tb AW)) ∧
        ∀ xs η Q AE, asp xs η Q AE → ∀ n, η n = none → tb (fun x _ η' => DrX AE x η') { nx := fun _ η' => FrzOb C n η Q η' ∨ Dr Q (.rf n) η', rt := fun v η' => v = .non ∧ (FrzOb C n η Q η' ∨ Dr Q (.rf n) η') } (startA N (.rf n :: xs)) (pt η n (.ins C []))) : XNewX P w K mg base (k + 1) x C ps asp := by
  obtain ⟨f, fd, F, M, m⟩ := R
  refine ⟨f, fd, M, F.okX S (fun vs H Q E h => ?_) (fun cdv A outer s H vs Q E hr h => ?_), m, F.binds bind⟩
  · obtain ⟨a, dx, us, θ, η, xs, AQ, AE, H0, Q0, rfl, _, _, _, _, _, r, h, _⟩ := h
    rw [List.length_cons, ← r.len]
    exact len xs η AQ AE h
  · obtain ⟨a, dx, us, θ, η, xs, AQ, AE, H0, Q0, rfl, ha, hdx, hne, rfl, R, r, h, Cq, CE, fin⟩ := h
    obtain ⟨tb, hb, hw⟩ := hbody f cdv A outer s (upd (upd H0 dx (.own a)) a (.ins C dx [])) E hr (takes_of rfl rfl rfl rfl) (passes_of rfl)
    obtain ⟨t1, p1, q1⟩ := hb fun x _ η' => DrX AE x η'
    obtain ⟨n, hn, he⟩ := R.pick
    obtain ⟨e0, R1⟩ := ext_ins (K := KG.top K) (C := C) R ha hdx hne hn
    have g : GW (KG.top K) (fun x _ η' => DrX AE x η') (WF E) (pt θ n a) (upd (upd H0 dx (.own a)) a (.ins C dx [])) := fun θ' η' H' ρ σ x cls d e R' S' rx ⟨η2, hs, q⟩ => CE θ' η2 H' x cls d (e0.trans e) (R'.drop hs) rx q
    have done : ∀ θ' η' H', Ext (pt θ n a) (upd (upd H0 dx (.own a)) a (.ins C dx [])) θ' H' → RelH (KG.top K) θ' η' H' → (FrzOb C n η AQ η' ∨ Dr AQ (.rf n) η') → Q0 (.ref a) H' := fun θ' η' H' e R' q => by
      have hna := e.mono n a pt_same
      rcases q with q | ⟨η2, hs, q⟩
      · exact frz R (e0.trans e) R' hn hna Cq q
      · exact Cq θ' η2 H' _ _ (e0.trans e) (R'.drop hs) (.rf hna) q
    refine ⟨t1, p1, q1 (pt θ n a) _ _ _ _ _ _ (R1.towish g) (Rst.start (.cons (.rf pt_same) (r.ext e0))) (hw xs η AQ AE h n he) (Ce.towish ⟨?_, ?_, ?_, ?_⟩)⟩
    · rintro θ1 η1 H1 ρ1 σ1 e1 R1 S1 q
      exact fin _ (done _ _ _ e1 R1 q)
    · rintro θ1 η1 H1 x v e1 R1 r1 ⟨rfl, q⟩
      cases r1
      exact fin _ (done _ _ _ e1 R1 q)
    · exact fun _ _ _ _ _ _ _ _ z => z.elim
    · exact fun _ _ _ _ _ _ _ _ z => z.elim
theorem XNewX.imp {asp' : ASpX} (D : XNewX P w K mg base k x C ps asp) (h : ∀ xs η Q AE, asp' xs η Q AE → asp xs η Q AE) : XNewX P w K mg base k x C ps asp' := by
  obtain ⟨f, fd, M, F, a, b⟩ := D
  exact ⟨f, fd, M, F.imp fun vs H Q E ⟨a, dx, us, θ, η, xs, AQ, AE, H0, Q0, h1, h2, h3, h4, h5, h6, h7, h8, h9⟩ => ⟨a, dx, us, θ, η, xs, AQ, AE, H0, Q0, h1, h2, h3, h4, h5, h6, h7, h _ _ _ _ h8, h9⟩, a, b⟩
end
section
variable {K : KG} {X : Cx} {k : Nat} {ps : List Str} {asp : ASpX} {x : Str} {p pos : Pos} {e : Expr} {es : List Expr} {ts : AA} {C : Addr} {W : WX} {AW : AWish}
/-- C(e, ..) that may raise -/
theorem xe_makeX (hK : X.K = K.k) (tk : Takes X W) (D : XNewX X.prog X.w K.k X.mg X.base k x C ps asp) (hr : Room (k + 1) X.A) (hg : Gl X x) (ha : XA (K.wish AW W) X (e :: es) ts) (hdb : (x == ("__debug__" : Str)) = false := by decide)
    (he : starEach (e :: es) X.env = (false, eval e X.env) :: starEach es X.env := by rfl) (hpl : (backTo pos (starEach es X.env)).any (·.1) = false := by rfl) :
    XE (K.wish AW W) X (.Call (.Name x p) (e :: es) [] pos) (aCallX asp AW ts) := by
  obtain ⟨t1, p1, q1⟩ := ha
  obtain ⟨f, fd, M, F, m, b⟩ := D
  rw [← hK] at F M b
  refine ⟨_, pe_makeS M F hr hg m b (fun σ => passAt tk σ) p1 hdb he hpl, ?_⟩
  intro θ ρ η σ H AQ Q R S h Cc
  refine q1 θ ρ η σ H _ _ R S h ?_
  intro θ1 η1 H1 xs vs e1 R1 r1 h1 a dx hxa hdx hne
  have g1 := R1.gh
  rw [hK]
  exact ⟨a, dx, vs, θ1, η1, xs, AQ, _, H1, Q, rfl, hxa, hdx, hne, rfl, R1.tp, r1, h1, fun θ' η' H' y v e' R' r q => (Cc.ext e1) θ' η' H' y v e' (RelH.up (K := K.wish AW W) R' ((K.wish AW W).mono _ _ _ _ e' g1)) r q, CgX.of g1.1 g1.2 (S.ext e1), fun _ q => ⟨rfl, q⟩⟩
/-- C(e, ..) that does not raise here -/
def aMakeN (asp : ASpX) (ts : AA) : AE := fun ρ η Q => ts ρ η fun xs η1 => asp xs η1 Q fun _ _ => False
theorem xe_makeN (hK : X.K = K.k) (D : XNewX X.prog X.w K.k X.mg X.base k x C ps asp) (hr : Room (k + 1) X.A) (hg : Gl X x) (ha : XA K X (e :: es) ts) (hdb : (x == ("__debug__" : Str)) = false := by decide)
    (he : starEach (e :: es) X.env = (false, eval e X.env) :: starEach es X.env := by rfl) (hpl : (backTo pos (starEach es X.env)).any (·.1) = false := by rfl) :
    XE K X (.Call (.Name x p) (e :: es) [] pos) (aMakeN asp ts) := by
  obtain ⟨t1, p1, q1⟩ := ha
  obtain ⟨f, fd, M, F, m, b⟩ := D
  rw [← hK] at F M b
  refine ⟨_, pe_make M F hr hg m b .nil passL p1 hdb he hpl, ?_⟩
  intro θ ρ η σ H AQ Q R S h Cc
  refine q1 θ ρ η σ H _ _ R S h ?_
  intro θ1 η1 H1 xs vs e1 R1 r1 h1 a dx hxa hdx hne
  rw [List.append_nil, hK]
  exact ⟨a, dx, vs, θ1, η1, xs, AQ, _, H1, Q, rfl, hxa, hdx, hne, rfl, R1.tp, r1, h1, (Cc.ext e1).tp R1.gh, fun _ _ _ _ _ _ _ _ _ z => z.elim, fun _ q => ⟨rfl, q⟩⟩
theorem s_makeN {ρ : Sta} {η : Eta} {Q : AK} (k : ts ρ η fun xs η1 => asp xs η1 Q fun _ _ => False) : aMakeN asp ts ρ η Q := k
end
/-- a def that may raise, called where it does not -/
def noX (asp : ASpX) : ASp := fun xs η Q => asp xs η Q fun _ _ => False
/-! ### fields -/
theorem putA_none {fs : List (Str × AV)} {f : Str} {y : AV} (h : (fs.any fun kv => decide (kv.1 = f)) = false) : putA fs f y = fs ++ [(f, y)] := by
  unfold putA
  rw [if_neg (by rw [h]; decide)]
theorem putA_some {fs : List (Str × AV)} {f : Str} {y : AV} (h : (fs.any fun kv => decide (kv.1 = f)) = true) : putA fs f y = fs.map (fun kv => if kv.1 = f then (kv.1, y) else kv) := by
  unfold putA
  rw [if_pos h]
theorem lookup_any : ∀ {fs : List (Str × AV)} {f : Str}, (fs.any fun kv => decide (kv.1 = f)) = true ↔ fs.lookup f ≠ none
  | [], f => by simp
  | (g, x) :: fs, f => by
    have ih := lookup_any (fs := fs) (f := f)
    rw [List.any_cons, List.lookup_cons]
    by_cases c : g = f
    · subst c
      simp
    · have c' : (f == g) = false := by simpa using fun e : f = g => c e.symm
      rw [decide_eq_false c, Bool.false_or, c']
      exact ih
theorem putF_len {f : Str} {v : V} : ∀ {gs : List (Str × V)}, (putF f v gs).length ≤ gs.length + 1 ∧ (gs.lookup f ≠ none → (putF f v gs).length = gs.length)
  | [] => ⟨Nat.le_refl _, fun h => absurd rfl h⟩
  | (g, x) :: gs => by
    have ih := putF_len (f := f) (v := v) (gs := gs)
    unfold putF
    by_cases c : g = f
    · rw [if_pos c]
      exact ⟨Nat.le_succ _, fun _ => rfl⟩
    · rw [if_neg c, List.length_cons, List.length_cons]
      refine ⟨by omega, fun h => ?_⟩
      rw [List.lookup_cons, show (f == g) = false by simpa using fun e : f = g => c e.symm] at h
      have := ih.2 h
      omega
section
variable {K : PySem.W.Frag} {θ : Th} {H : Hp}
theorem repF_map {f : Str} {y : AV} {v : V} (r : Rep K θ H y v) : ∀ {fs : List (Str × AV)} {gs : List (Str × V)}, RepF K θ H fs gs → RepF K θ H (fs.map fun kv => if kv.1 = f then (kv.1, y) else kv) (putF f v gs)
  | _, _, .nil => .nil
  | _, _, .cons (f := g) l a b => by
    rw [List.map_cons]
    by_cases c : g = f
    · rw [if_pos c]
      exact .cons (by rw [lookup_putF, if_pos c]) r (repF_map r b)
    · rw [if_neg c]
      exact .cons (by rw [lookup_putF, if_neg c]; exact l) a (repF_map r b)
theorem repF_snoc {f : Str} {y : AV} {v : V} (r : Rep K θ H y v) : ∀ {fs : List (Str × AV)} {gs : List (Str × V)}, (fs.any fun kv => decide (kv.1 = f)) = false → RepF K θ H fs gs → RepF K θ H (fs ++ [(f, y)]) (putF f v gs)
  | [], _, _, _ => .cons (by rw [lookup_putF, if_pos rfl]) r .nil
  | (g, x) :: fs, _, n, .cons l a b => by
    rw [List.any_cons, Bool.or_eq_false_iff, decide_eq_false_iff_not] at n
    exact .cons (by rw [lookup_putF, if_neg n.1]; exact l) a (repF_snoc r n.2 b)
theorem lookup_map {f g : Str} {y : AV} : ∀ {fs : List (Str × AV)}, (fs.map fun kv => if kv.1 = f then (kv.1, y) else kv).lookup g = none ↔ fs.lookup g = none
  | [] => Iff.rfl
  | (h, x) :: fs => by
    have ih := lookup_map (f := f) (g := g) (y := y) (fs := fs)
    rw [List.map_cons, List.lookup_cons]
    by_cases c : h = f
    · rw [if_pos c, List.lookup_cons]
      cases g == h with
      | true => exact ⟨fun z => (by cases z), fun z => (by cases z)⟩
      | false => exact ih
    · rw [if_neg c, List.lookup_cons]
      cases g == h with
      | true => exact ⟨fun z => (by cases z), fun z => (by cases z)⟩
      | false => exact ih
theorem lookup_snoc {f g : Str} {y : AV} : ∀ {fs : List (Str × AV)}, (fs ++ [(f, y)]).lookup g = none → fs.lookup g = none ∧ g ≠ f
  | [], h => ⟨rfl, fun e => by subst e; simp at h⟩
  | (k, x) :: fs, h => by
    rw [List.cons_append, List.lookup_cons] at h
    rw [List.lookup_cons]
    cases c : g == k with
    | true => rw [c] at h; cases h
    | false =>
      rw [c] at h
      exact lookup_snoc h
theorem ins_put {fs : List (Str × AV)} {gs : List (Str × V)} {f : Str} {y : AV} {v : V} (l : InsOk fs gs) (h : RepF K θ H fs gs) (r : Rep K θ H y v) : InsOk (putA fs f y) (putF f v gs) ∧ RepF K θ H (putA fs f y) (putF f v gs) := by
  cases c : fs.any fun kv => decide (kv.1 = f) with
  | true =>
    rw [putA_some c]
    have hf : fs.lookup f ≠ none := lookup_any.mp c
    obtain ⟨x, hx⟩ : ∃ x, fs.lookup f = some x := by
      cases e : fs.lookup f with
      | none => exact absurd e hf
      | some x => exact ⟨x, rfl⟩
    obtain ⟨w, hw, _⟩ := h.get hx
    refine ⟨⟨?_, fun g hg => ?_⟩, repF_map r h⟩
    · rw [List.length_map, (putF_len (f := f) (v := v) (gs := gs)).2 (by rw [hw]; exact fun z => (by cases z))]
      exact l.1
    · have hg := lookup_map.mp hg
      rw [lookup_putF, if_neg (fun e => hf (by rw [← e]; exact hg))]
      exact l.2 g hg
  | false =>
    rw [putA_none c]
    refine ⟨⟨?_, fun g hg => ?_⟩, repF_snoc r c h⟩
    · have := (putF_len (f := f) (v := v) (gs := gs)).1
      have := l.1
      rw [List.length_append]
      simp
      omega
    · obtain ⟨h1, h2⟩ := lookup_snoc hg
      rw [lookup_putF, if_neg h2]
      exact l.2 g h1
end
section
variable {K : KG} {X : Cx} {o value : Expr} {f : Str} {pos pos' : Pos} {ta tv : AE}
theorem xs_fld (hK : X.K = K.k) (ho : XE K X o ta) (hv : XE K X value tv) (hs : swapsWith value (some (.Attribute o f pos')) pos.line X.env = pure false) : XS K X (.Assign [.Attribute o f pos'] value pos) (asFld K.k ta tv f) := by
  obtain ⟨t1, p1, q1⟩ := ho
  obtain ⟨t2, p2, q2⟩ := hv
  obtain ⟨K, Gg, mn⟩ := K; have hK : X.K = K := hK; subst hK
  refine ⟨_, ps_fld p1 p2 hs, ?_⟩
  intro θ ρ η σ H A D R S h C
  refine q2 θ ρ η σ H _ _ R S h ?_
  intro θ1 η1 H1 y v e1 R1 ry h1
  refine q1 θ1 ρ η1 σ H1 _ _ R1 (S.ext e1) h1 ?_
  rintro θ2 η2 H2 x u e2 R2 rx ⟨n, C', fs, rfl, he, ⟨hc, hn⟩, l, h2⟩
  cases rx with
  | rf hx =>
    obtain ⟨a, ha, dx, gs, hH, io, rf⟩ := R2.at n _ he
    rw [hx] at ha
    cases ha
    obtain ⟨io', rf'⟩ := ins_put (f := f) io rf (ry.ext e2)
    refine ⟨_, C', dx, gs, rfl, hH, hc, hn, by have := io.1; omega, ?_⟩
    have e3 : Ext θ2 H2 θ2 (upd H2 _ (.ins C' dx (putF f v gs))) := ext_at R2 hx hH
    exact C.nx θ2 _ _ ρ σ (e1.trans (e2.trans e3)) (R2.put (o := .ins C' (putA fs f y)) hx hH ⟨dx, _, upd_same, io', rf'.ext e3⟩) (S.ext (e1.trans (e2.trans e3))) h2
end
/-! ### methods -/
/-- a method of a class: found at C under m, promise over self and the arguments -/
def XMeth (P : Program) (w : World) (K : PySem.W.Frag) (mg : Str → Option Value) (base : Heap) (k : Nat) (C : Addr) (m : Str) (ps : List Str) (asp : ASpX) : Prop :=
  ∃ f fd, Cls K C ∧ Meth K C m f ∧ FnOk P w K mg base (L2.CX P w) k f fd ps (liftX K asp) ∧ Binds K fd ps []
/-- a method of the top's class -/
def RawM (K : PySem.W.Frag) (C : Addr) (m qi : Str) (st : Stmt) : Prop := ∃ f fd, Fun K m qi st f fd ∧ Cls K C ∧ Meth K C m f
theorem rawM_mk {K : PySem.W.Frag} {m qi : Str} {st : Stmt} {C f : Addr} {od an : Option Addr} {sl : Array (Option Value)} {oc kV dc pm cd ct : Value}
    (i : PySem.W.findIn K (.ref C) m = some (some (.ref f))) (n : PySem.W.isFn K (.ref f) = true) (l : K.lookup f = some ⟨oc, od, .func (PySem.W.fnOf m qi (defArgs st) (defBody st) (defScope st) .none kV dc pm an cd ct), sl⟩) (c : PySem.W.codeIn K cd qi = true) (k : PySem.W.keepIn K (.ref f) = true)
    (cl : Cls K C) : RawM K C m qi st := ⟨f, _, fun_mk l c k, cl, i, n, k⟩
section
variable {P : Program} {w : World} {K : PySem.W.Frag} {mg : Str → Option Value} {base : Heap} {k : Nat} {ps : List Str} {asp : ASpX} {m qi : Str} {C : Addr}
theorem XMeth.of {st : Stmt} {N : List Str} (R : RawM K C m qi st) (S : FnScope N ps (defScope st))
    (bind : ∀ (kV doc pm : Value) (an : Option Addr) (cdv ct : Value) (us : List Value), us.length = ps.length → bindArgs (PySem.W.fnOf m qi (defArgs st) (defBody st) (defScope st) .none kV doc pm an cdv ct) ⟨us, []⟩ = pure (ps.zip us))
    (len : ∀ xs η Q AE, asp xs η Q AE → xs.length = ps.length)
    (hbody : ∀ (f : Addr) (cdv : Value) (A : Around) (outer : List Env) (s : Shared) (H : Hp) (E : XK), Room k (A.deeper (envOfC qi (defScope st) s.heap.objs.size f cdv)) →
      Takes (cxOf (L2.CX P w) P w K mg base N qi (defScope st) f cdv A outer s H E) (WF E) →
      PassesOwn (model P w) (cxOf (L2.CX P w) P w K mg base N qi (defScope st) f cdv A outer s H E).A (cxOf (L2.CX P w) P w K mg base N qi (defScope st) f cdv A outer s H E).env (cxOf (L2.CX P w) P w K mg base N qi (defScope st) f cdv A outer s H E).xe →
      ∃ tb : AWish → AS, (∀ AW, XSs ((KG.top K).wish AW (WF E)) (cxOf (L2.CX P w) P w K mg base N qi (defScope st) f cdv A outer s H E) (defBody st) (tb AW)) ∧
        ∀ xs η Q AE, asp xs η Q AE → tb (fun x _ η' => DrX AE x η') { nx := fun _ η' => Dr Q .non η', rt := Dr Q } (startA N xs) η) : XMeth P w K mg base (k + 1) C m ps asp := by
  obtain ⟨f, fd, F, cl, M⟩ := R
  refine ⟨f, fd, cl, M, F.okX S (fun vs H Q E h => ?_) (fun cdv A outer s H vs Q E hr h => ?_), F.binds bind⟩
  · obtain ⟨θ, η, xs, AQ, AE, _, r, h, _⟩ := h
    rw [← r.len]
    exact len xs η AQ AE h
  · obtain ⟨θ, η, xs, AQ, AE, R, r, h, C, CE⟩ := h
    obtain ⟨tb, hb, hw⟩ := hbody f cdv A outer s H E hr (takes_of rfl rfl rfl rfl) (passes_of rfl)
    obtain ⟨t1, p1, q1⟩ := hb fun x _ η' => DrX AE x η'
    have g : GW (KG.top K) (fun x _ η' => DrX AE x η') (WF E) θ H := fun θ' η' H' ρ σ x cls d e R' S' rx ⟨η2, hs, q⟩ => CE θ' η2 H' x cls d e (R'.drop hs) rx q
    refine ⟨t1, p1, q1 θ _ η _ H _ _ (R.towish g) (Rst.start r) (hw xs η AQ AE h) (Ce.towish ⟨?_, ?_, ?_, ?_⟩)⟩
    · rintro θ1 η1 H1 ρ1 σ1 e1 R1 S1 ⟨η2, hs, q⟩
      exact C θ1 η2 H1 _ _ e1 (R1.drop hs) .non q
    · rintro θ1 η1 H1 x v e1 R1 r1 ⟨η2, hs, q⟩
      exact C θ1 η2 H1 _ _ e1 (R1.drop hs) r1 q
    · exact fun _ _ _ _ _ _ _ _ z => z.elim
    · exact fun _ _ _ _ _ _ _ _ z => z.elim
theorem XMeth.imp {asp' : ASpX} (D : XMeth P w K mg base k C m ps asp) (h : ∀ xs η Q AE, asp' xs η Q AE → asp xs η Q AE) : XMeth P w K mg base k C m ps asp' := by
  obtain ⟨f, fd, cl, M, F, b⟩ := D
  exact ⟨f, fd, cl, M, F.imp fun vs H Q E ⟨θ, η, xs, AQ, AE, R, r, q, C, CE⟩ => ⟨θ, η, xs, AQ, AE, R, r, h _ _ _ _ q, C, CE⟩, b⟩
end
end Ab
namespace L2
open PySem PySem.Spec PyProof.Rows
section
variable {X : Cx} {CX : CXT} {k : Nat} {f C : Addr} {fd : FuncData} {ps : List Str} {sp : Sp} {E : St → XK} {x m : Str} {p pos apos : Pos} {e o : Expr} {es : List Expr} {ta : TE} {t : TA}
def tMethOw (C : Addr) (m : Str) (sp : Sp) (E : St → XK) (ta : TE) (t : TA) : TE := fun σ H Q => ta σ H fun x H1 => ∃ a dx fs, x = .ref a ∧ H1 a = some (.ins C dx fs) ∧ fs.lookup m = none ∧
  t σ H1 fun vs H2 => sp (x :: vs) H2 Q (E σ)
theorem pe_methOw {pl : Sem Bool} (he : PE X o ta) (c : Cls X.K C) (hm : Meth X.K C m f) (F : FnOk X.prog X.w X.K X.mg X.base CX k f fd ps sp) (hr : Room k X.A) (hb : Binds X.K fd ps []) (hx : ∀ σ, PassesAt CX X σ (E σ)) (ha : PA X (e :: es) t)
    (hst : starEach (e :: es) X.env = (false, eval e X.env) :: starEach es X.env := by rfl) (hpl : (backTo pos (starEach es X.env)).any (·.1) = false := by rfl)
    (ht : eval (.Call (.Attribute o m apos) (e :: es) [] pos) X.env = (do
      let ov ← eval o X.env
      standAt apos.atName
      let (f, first) ← holding [ov] (getMethod ov m pl)
      callWith pos f first (backTo pos (starEach (e :: es) X.env)) (backToKw pos (keywordEach [] X.env))) := by rfl) :
    PE X (.Call (.Attribute o m apos) (e :: es) [] pos) (tMethOw C m sp E ta t) := by
  refine ⟨fun pins s σ H Q I h => ?_⟩
  refine PySem.W.methodCall_KW (pl := pl) (thn (he.run pins s σ H _ I h) fun u s1 ⟨x, H1, I1, rx, a, dx, fs, ex, ea, l, q⟩ => ?_) ht
  subst ex
  obtain rfl : u = Value.ref a := rx
  refine getmeth_ok I1 ea c hm l ?_
  refine PySem.W.callWith_K (first := [.ref a]) (h₀ := X.base) I.ok.mod.kin hm.kp (thn (ha.run pos pins s1 σ H1 _ I1 q) fun us s2 ⟨vs, H2, I2, r, q2⟩ => ⟨I2.kIn, ?_⟩) hst hpl
  exact run_fnS (us := .ref a :: us) (vs := .ref a :: vs) F hr hb (hx σ) I2 (.cons rfl r) q2
theorem pe_methOw0 {pl : Sem Bool} (he : PE X o ta) (c : Cls X.K C) (hm : Meth X.K C m f) (F : FnOk X.prog X.w X.K X.mg X.base CX k f fd ps sp) (hr : Room k X.A) (hb : Binds X.K fd ps []) (hx : ∀ σ, PassesAt CX X σ (E σ))
    (ht : eval (.Call (.Attribute o m apos) [] [] pos) X.env = (do
      let ov ← eval o X.env
      standAt apos.atName
      let (f, first) ← holding [ov] (getMethod ov m pl)
      callWith pos f first (backTo pos (starEach [] X.env)) (backToKw pos (keywordEach [] X.env))) := by rfl) :
    PE X (.Call (.Attribute o m apos) [] [] pos) (tMethOw C m sp E ta tNil) := by
  refine ⟨fun pins s σ H Q I h => ?_⟩
  refine PySem.W.methodCall_KW (pl := pl) (thn (he.run pins s σ H _ I h) fun u s1 ⟨x, H1, I1, rx, a, dx, fs, ex, ea, l, q⟩ => ?_) ht
  subst ex
  obtain rfl : u = Value.ref a := rx
  refine getmeth_ok I1 ea c hm l ?_
  exact PySem.W.callWith_K0 (first := [.ref a]) I1.kIn hm.kp (run_fnS (us := [.ref a]) (vs := [.ref a]) F hr hb (hx σ) I1 (.cons rfl .nil) q)
end
end L2
namespace Ab
open PySem PySem.Spec PyProof.Rows L2 MyB MyR MyD
/-- the receiver: an instance that may change -/
def IsI (C : Addr) (m : Str) (x : AV) (η : Eta) : Prop := ∃ n fs, x = .rf n ∧ η n = some (.ins C fs) ∧ fs.lookup m = none
def aMethX (C : Addr) (m : Str) (asp : ASpX) (AW : AWish) (to : AE) (ts : AA) : AE := fun ρ η Q => to ρ η fun x η1 => IsI C m x η1 ∧ ts ρ η1 fun xs η2 => asp (x :: xs) η2 Q fun y η' => AW y ρ η'
def aMethN (C : Addr) (m : Str) (asp : ASpX) (to : AE) (ts : AA) : AE := fun ρ η Q => to ρ η fun x η1 => IsI C m x η1 ∧ ts ρ η1 fun xs η2 => asp (x :: xs) η2 Q fun _ _ => False
section
variable {K : KG} {X : Cx} {k : Nat} {ps : List Str} {asp : ASpX} {m : Str} {p pos apos : Pos} {o e : Expr} {es : List Expr} {to : AE} {ts : AA} {C : Addr} {W : WX} {AW : AWish} {pl : Sem Bool}
theorem IsI.at {K : KG} {θ : Th} {η : Eta} {H : Hp} {x : AV} {v : V} (h : IsI C m x η) (R : RelH K θ η H) (r : Rep K.k θ H x v) : ∃ a dx gs, v = .ref a ∧ H a = some (.ins C dx gs) ∧ gs.lookup m = none := by
  obtain ⟨n, fs, rfl, he, hl⟩ := h
  cases r with
  | rf hx =>
    obtain ⟨a, ha, dx, gs, hH, io, _⟩ := R.at n _ he
    rw [hx] at ha
    cases ha
    exact ⟨_, dx, gs, rfl, hH, io.2 m hl⟩
theorem xe_methX (hK : X.K = K.k) (tk : Takes X W) (D : XMeth X.prog X.w K.k X.mg X.base k C m ps asp) (hr : Room k X.A) (ho : XE (K.wish AW W) X o to) (ha : XA (K.wish AW W) X (e :: es) ts)
    (hst : starEach (e :: es) X.env = (false, eval e X.env) :: starEach es X.env := by rfl) (hpl : (backTo pos (starEach es X.env)).any (·.1) = false := by rfl)
    (ht : eval (.Call (.Attribute o m apos) (e :: es) [] pos) X.env = (do
      let ov ← eval o X.env
      standAt apos.atName
      let (f, first) ← holding [ov] (getMethod ov m pl)
      callWith pos f first (backTo pos (starEach (e :: es) X.env)) (backToKw pos (keywordEach [] X.env))) := by rfl) :
    XE (K.wish AW W) X (.Call (.Attribute o m apos) (e :: es) [] pos) (aMethX C m asp AW to ts) := by
  obtain ⟨t0, p0, q0⟩ := ho
  obtain ⟨t1, p1, q1⟩ := ha
  obtain ⟨f, fd, cl, M, F, b⟩ := D
  rw [← hK] at F cl M b
  refine ⟨_, pe_methOw p0 cl M F hr b (fun σ => passAt tk σ) p1 hst hpl ht, ?_⟩
  intro θ ρ η σ H AQ Q R S h Cc
  refine q0 θ ρ η σ H _ _ R S h ?_
  rintro θ1 η1 H1 x v e1 R1 r1 ⟨hi, h1⟩
  obtain ⟨a, dx, gs, rfl, hH, hl⟩ := hi.at R1 r1
  refine ⟨a, dx, gs, rfl, hH, hl, ?_⟩
  refine q1 θ1 ρ η1 σ H1 _ _ R1 (S.ext e1) h1 ?_
  intro θ2 η2 H2 xs vs e2 R2 r2 h2
  have g2 := R2.gh
  rw [hK]
  exact ⟨θ2, η2, _, AQ, _, R2.tp, .cons (r1.ext e2) r2, h2, fun θ' η' H' y v e' R' r q => (Cc.ext (e1.trans e2)) θ' η' H' y v e' (RelH.up (K := K.wish AW W) R' ((K.wish AW W).mono _ _ _ _ e' g2)) r q, CgX.of g2.1 g2.2 (S.ext (e1.trans e2))⟩
theorem xe_methX0 (hK : X.K = K.k) (tk : Takes X W) (D : XMeth X.prog X.w K.k X.mg X.base k C m ps asp) (hr : Room k X.A) (ho : XE (K.wish AW W) X o to)
    (ht : eval (.Call (.Attribute o m apos) [] [] pos) X.env = (do
      let ov ← eval o X.env
      standAt apos.atName
      let (f, first) ← holding [ov] (getMethod ov m pl)
      callWith pos f first (backTo pos (starEach [] X.env)) (backToKw pos (keywordEach [] X.env))) := by rfl) :
    XE (K.wish AW W) X (.Call (.Attribute o m apos) [] [] pos) (aMethX C m asp AW to aNil) := by
  obtain ⟨t0, p0, q0⟩ := ho
  obtain ⟨f, fd, cl, M, F, b⟩ := D
  rw [← hK] at F cl M b
  refine ⟨_, pe_methOw0 p0 cl M F hr b (fun σ => passAt tk σ) ht, ?_⟩
  intro θ ρ η σ H AQ Q R S h Cc
  refine q0 θ ρ η σ H _ _ R S h ?_
  rintro θ1 η1 H1 x v e1 R1 r1 ⟨hi, h1⟩
  obtain ⟨a, dx, gs, rfl, hH, hl⟩ := hi.at R1 r1
  have g2 := R1.gh
  refine ⟨a, dx, gs, rfl, hH, hl, ?_⟩
  rw [hK]
  exact ⟨θ1, η1, _, AQ, _, R1.tp, .cons r1 .nil, h1, fun θ' η' H' y v e' R' r q => (Cc.ext e1) θ' η' H' y v e' (RelH.up (K := K.wish AW W) R' ((K.wish AW W).mono _ _ _ _ e' g2)) r q, CgX.of g2.1 g2.2 (S.ext e1)⟩
theorem xe_methN (hK : X.K = K.k) (D : XMeth X.prog X.w K.k X.mg X.base k C m ps asp) (hr : Room k X.A) (ho : XE K X o to) (ha : XA K X (e :: es) ts)
    (hst : starEach (e :: es) X.env = (false, eval e X.env) :: starEach es X.env := by rfl) (hpl : (backTo pos (starEach es X.env)).any (·.1) = false := by rfl)
    (ht : eval (.Call (.Attribute o m apos) (e :: es) [] pos) X.env = (do
      let ov ← eval o X.env
      standAt apos.atName
      let (f, first) ← holding [ov] (getMethod ov m pl)
      callWith pos f first (backTo pos (starEach (e :: es) X.env)) (backToKw pos (keywordEach [] X.env))) := by rfl) :
    XE K X (.Call (.Attribute o m apos) (e :: es) [] pos) (aMethN C m asp to ts) := by
  obtain ⟨t0, p0, q0⟩ := ho
  obtain ⟨t1, p1, q1⟩ := ha
  obtain ⟨f, fd, cl, M, F, b⟩ := D
  rw [← hK] at F cl M b
  refine ⟨_, pe_meth p0 cl M F hr b .nil passL p1 hst hpl ht, ?_⟩
  intro θ ρ η σ H AQ Q R S h Cc
  refine q0 θ ρ η σ H _ _ R S h ?_
  rintro θ1 η1 H1 x v e1 R1 r1 ⟨hi, h1⟩
  obtain ⟨a, dx, gs, rfl, hH, hl⟩ := hi.at R1 r1
  refine ⟨a, dx, gs, rfl, hH, hl, ?_⟩
  refine q1 θ1 ρ η1 σ H1 _ _ R1 (S.ext e1) h1 ?_
  intro θ2 η2 H2 xs vs e2 R2 r2 h2
  rw [List.append_nil, hK]
  exact ⟨θ2, η2, _, AQ, _, R2.tp, .cons (r1.ext e2) r2, h2, (Cc.ext (e1.trans e2)).tp R2.gh, fun _ _ _ _ _ _ _ _ _ z => z.elim⟩
theorem xe_methN0 (hK : X.K = K.k) (D : XMeth X.prog X.w K.k X.mg X.base k C m ps asp) (hr : Room k X.A) (ho : XE K X o to)
    (ht : eval (.Call (.Attribute o m apos) [] [] pos) X.env = (do
      let ov ← eval o X.env
      standAt apos.atName
      let (f, first) ← holding [ov] (getMethod ov m pl)
      callWith pos f first (backTo pos (starEach [] X.env)) (backToKw pos (keywordEach [] X.env))) := by rfl) :
    XE K X (.Call (.Attribute o m apos) [] [] pos) (aMethN C m asp to aNil) := by
  obtain ⟨t0, p0, q0⟩ := ho
  obtain ⟨f, fd, cl, M, F, b⟩ := D
  rw [← hK] at F cl M b
  refine ⟨_, pe_meth0 p0 cl M F hr b .nil passL ht, ?_⟩
  intro θ ρ η σ H AQ Q R S h Cc
  refine q0 θ ρ η σ H _ _ R S h ?_
  rintro θ1 η1 H1 x v e1 R1 r1 ⟨hi, h1⟩
  obtain ⟨a, dx, gs, rfl, hH, hl⟩ := hi.at R1 r1
  refine ⟨a, dx, gs, rfl, hH, hl, ?_⟩
  show liftX _ _ _ _ _ _
  rw [hK]
  exact ⟨θ1, η1, _, AQ, _, R1.tp, .cons r1 .nil, h1, (Cc.ext e1).tp R1.gh, fun _ _ _ _ _ _ _ _ _ z => z.elim⟩
theorem s_methN {ρ : Sta} {η : Eta} {Q : AK} (k : to ρ η fun x η1 => IsI C m x η1 ∧ ts ρ η1 fun xs η2 => asp (x :: xs) η2 Q fun _ _ => False) : aMethN C m asp to ts ρ η Q := k
theorem s_methX {ρ : Sta} {η : Eta} {Q : AK} (k : to ρ η fun x η1 => IsI C m x η1 ∧ ts ρ η1 fun xs η2 => asp (x :: xs) η2 Q fun y η' => AW y ρ η') : aMethX C m asp AW to ts ρ η Q := k
theorem s_fldS {Kf : PySem.W.Frag} {ta tv : AE} {f : Str} {D : AEnds} {ρ : Sta} {η : Eta} (k : tv ρ η fun y η1 => ta ρ η1 fun x η2 => ∃ n C fs, x = .rf n ∧ η2 n = some (.ins C fs) ∧ FldOk Kf C f ∧ fs.length < 900 ∧ D.nx ρ (pt η2 n (.ins C (putA fs f y)))) : asFld Kf ta tv f D ρ η := k
/-- a field read of an instance that may change -/
theorem s_fldI {Kf : PySem.W.Frag} {η : Eta} {Q : AK} {n : Nat} {C : Addr} {fs : List (Str × AV)} {f : Str} {y : AV} (h : η n = some (.ins C fs)) (ok : FldOk Kf C f) (l : fs.lookup f = some y) (k : Q y η) : kFld Kf f (.rf n) η Q := .inr ⟨n, C, fs, y, rfl, h, ok, l, k⟩
end
end Ab

/-! == and != by an own __eq__ whose promise is over values. -/
namespace Ab
open PySem PySem.Spec PyProof.Rows L2 MyB MyR MyD
def XEqD (P : Program) (w : World) (K : PySem.W.Frag) (mg : Str → Option Value) (base : Heap) (k : Nat) (C : Addr) (asp : ASp) : Prop := MyO.EqOf P w K mg base k C (lift K asp)
theorem XEqD.of {P : Program} {w : World} {K : PySem.W.Frag} {mg : Str → Option Value} {base : Heap} {k : Nat} {C : Addr} {asp : ASp} {qi : Str} {st : Stmt} {N : List Str} (R : MyO.RawE K qi st C) (S : FnScope N ["self", "other"] (defScope st))
    (bind : ∀ (kV doc pm : Value) (an : Option Addr) (cdv ct : Value) (us : List Value), us.length = 2 → bindArgs (PySem.W.fnOf "__eq__" qi (defArgs st) (defBody st) (defScope st) .none kV doc pm an cdv ct) ⟨us, []⟩ = pure ((["self", "other"] : List Str).zip us))
    (len : ∀ xs η Q, asp xs η Q → xs.length = 2)
    (hbody : ∀ (f : Addr) (cdv : Value) (A : Around) (outer : List Env) (s : Shared) (H : Hp) (E : XK), Room k (A.deeper (envOfC qi (defScope st) s.heap.objs.size f cdv)) →
      ∃ t, XSs (KG.top K) (cxOf CX0 P w K mg base N qi (defScope st) f cdv A outer s H E).nox (defBody st) t ∧ ∀ xs η Q, asp xs η Q → t { nx := fun _ η' => Dr Q .non η', rt := Dr Q } (startA N xs) η) : XEqD P w K mg base (k + 1) C asp := by
  refine MyO.RawE.ok R S bind (fun vs H Q E h => ?_) (fun f cdv A outer s H vs Q E hr h => ?_)
  · obtain ⟨θ, η, xs, AQ, _, r, h, _⟩ := h
    rw [← r.len]
    exact len xs η AQ h
  · obtain ⟨θ, η, xs, AQ, R, r, h, C⟩ := h
    obtain ⟨t, ⟨t1, p1, q1⟩, hb⟩ := hbody f cdv A outer s H E hr
    refine ⟨t1, p1, q1 θ _ η _ H _ _ R (Rst.start r) (hb xs η AQ h) ⟨?_, ?_, ?_, ?_⟩⟩
    · rintro θ1 η1 H1 ρ1 σ1 e1 R1 S1 ⟨η2, hs, q⟩
      exact C θ1 η2 H1 _ _ e1 (R1.drop hs) .non q
    · rintro θ1 η1 H1 x v e1 R1 r1 ⟨η2, hs, q⟩
      exact C θ1 η2 H1 _ _ e1 (R1.drop hs) r1 q
    · exact fun _ _ _ _ _ _ _ _ z => z.elim
    · exact fun _ _ _ _ _ _ _ _ z => z.elim
/-- things whose type is looked up -/
inductive TySA (K : PySem.W.Frag) (η : Eta) : AV → Value → Prop
  | int {i} : TySA K η (.int i) (.type "int")
  | str {x} : TySA K η (.str x) (.type "str")
  | tup {xs} : TySA K η (.tup xs) (.type "tuple")
  | ob {C fs} : C8.InsC K C → TySA K η (.ob C fs) (.ref C)
  | ins {n C fs} : η n = some (.ins C fs) → C8.InsC K C → TySA K η (.rf n) (.ref C)
/-- x == y, x of the class C: the own __eq__ says r -/
def kOwnEq (K : PySem.W.Frag) (C : Addr) (asp : ASp) (g : Bool → Bool) : AR2 := fun x y η Q => ∃ t, ((∃ fs, x = .ob C fs) ∨ ∃ n fs, x = .rf n ∧ η n = some (.ins C fs)) ∧ TySA K η y t ∧ PySem.W.notFirst K C t = true ∧ asp [x, y] η fun v η' => ∃ r, v = .bl r ∧ Q (.bl (g r)) η'
section
variable {X : Cx} {K : KG} {k : Nat} {C : Addr} {asp : ASp}
theorem TySA.ty {θ : Th} {η : Eta} {H : Hp} {y : AV} {u : V} {t : Value} (h : TySA K.k η y t) (R : RelH K θ η H) (r : Rep K.k θ H y u) : MyO.TyS K.k H u t := by
  cases h with
  | int => cases r; exact .int _
  | str => cases r; exact .str _
  | tup => cases r with | tup _ h _ => exact .tup h
  | ob c => cases r with | ob _ h _ => exact .ins h c
  | ins e c =>
    cases r with
    | rf hx =>
      obtain ⟨a, ha, dx, gs, hH, _, _⟩ := R.at _ _ e
      rw [hx] at ha
      cases ha
      exact .ins hH c
theorem own_eqA {θ : Th} {η : Eta} {H : Hp} {x y : AV} {v u : V} {AQ : AK} {Q : VK} {g : Bool → Bool} (R : RelH K θ η H) (r1 : Rep K.k θ H x v) (r2 : Rep K.k θ H y u) (h : kOwnEq K.k C asp g x y η AQ) (Cc : Cg K (Rep K.k) θ H AQ Q) : MyO.rOwnG K.k C (lift K.k asp) g v u H Q := by
  obtain ⟨t, hx, hy, nf, q⟩ := h
  have ht := hy.ty R r2
  have end_ : ∀ (a : Addr), v = .ref a → lift K.k asp [.ref a, u] H (fun v H' => ∃ r, v = .bl r ∧ Q (.bl (g r)) H') E0 := fun a e => by
    subst e
    refine ⟨θ, η, [x, y], _, R.tp, .cons r1 (.cons r2 .nil), q, ?_⟩
    rintro θ' η' H' z w e' R' r' ⟨b, rfl, q'⟩
    cases r'
    exact ⟨b, rfl, Cc θ' η' H' _ _ e' (RelH.up (K := K) R' (K.mono _ _ _ _ e' R.gh)) .bl q'⟩
  rcases hx with ⟨fs, rfl⟩ | ⟨n, fs, rfl, he⟩
  · cases r1 with
    | ob un hH rf => exact ⟨_, _, _, t, rfl, hH, ht, nf, end_ _ rfl⟩
  · cases r1 with
    | rf hx =>
      obtain ⟨a, ha, dx, gs, hH, _, _⟩ := R.at _ _ he
      rw [hx] at ha
      cases ha
      exact ⟨_, _, _, t, rfl, hH, ht, nf, end_ _ rfl⟩
theorem xo_eqO (hK : X.K = K.k) (D : XEqD X.prog X.w K.k X.mg X.base k C asp) (hr : Room k X.A) : XO K X (compareOp .Eq) (kOwnEq K.k C asp id) := by
  obtain ⟨K, Gg, mn⟩ := K
  have hK : X.K = K := hK
  subst hK
  exact ⟨_, MyO.op_eqG2 rfl D hr, fun θ η H x y v u AQ Q R r1 r2 h Cc => own_eqA R r1 r2 h Cc⟩
theorem xo_neO (hK : X.K = K.k) (D : XEqD X.prog X.w K.k X.mg X.base k C asp) (hr : Room (k + 1) X.A) : XO K X (compareOp .NotEq) (kOwnEq K.k C asp not) := by
  obtain ⟨K, Gg, mn⟩ := K
  have hK : X.K = K := hK
  subst hK
  exact ⟨_, MyO.op_neG2 rfl D hr, fun θ η H x y v u AQ Q R r1 r2 h Cc => own_eqA R r1 r2 h Cc⟩
end
theorem lk_hd {f : Str} {x : AV} {l : List (Str × AV)} : List.lookup f ((f, x) :: l) = some x := by simp
theorem lk_tl {f g : Str} {x : AV} {l : List (Str × AV)} (h : (g == f) = false) : List.lookup g ((f, x) :: l) = List.lookup g l := by rw [List.lookup_cons, h]
end Ab

/-! == of tuples that hold lists, and the like. -/
namespace Ab
open PySem PySem.Spec PyProof.Rows L2 MyB MyR MyD MyC
mutual
inductive DatG (η : Eta) : AV → PyData → Prop
  | pl {x} : Pl x → DatG η x (dat x)
  | lst {x xs ds} : LstOf η x xs → DatGs η xs ds → DatG η x (.list ds)
  | tup {xs ds} : DatGs η xs ds → DatG η (.tup xs) (.tuple ds)
inductive DatGs (η : Eta) : List AV → List PyData → Prop
  | nil : DatGs η [] []
  | cons {x d xs ds} : DatG η x d → DatGs η xs ds → DatGs η (x :: xs) (d :: ds)
end
section
variable {K : KG} {θ : Th} {H : Hp} {η : Eta} {X : Cx}
mutual
theorem DatG.dp (R : RelH K θ η H) : ∀ {x : AV} {d : PyData} {v : V}, DatG η x d → Rep K θ H x v → Dp K H v d
  | _, _, _, .pl p, r => p.dp r
  | _, _, _, .lst h ds, r => by
    obtain ⟨a, vs, rfl, hs, rs⟩ := h.sq R r
    exact .lst hs (DatGs.dp R ds rs)
  | _, _, _, .tup ds, .tup u h r => .tup (sqT h) (DatGs.dp R ds r)
theorem DatGs.dp (R : RelH K θ η H) : ∀ {xs : List AV} {ds : List PyData} {vs : List V}, DatGs η xs ds → Reps K θ H xs vs → DpAll K H vs ds
  | _, _, _, .nil, .nil => .nil
  | _, _, _, .cons d ds, .cons r rs => .cons (DatG.dp R d r) (DatGs.dp R ds rs)
end
def kEqG : AR2 := fun x y η Q => ∃ d e, DatG η x d ∧ DatG η y e ∧ SeqAt.shaped d = true ∧ SeqAt.shaped e = true ∧ Q (.bl (PyData.eqv d e)) η
def kNeG : AR2 := fun x y η Q => ∃ d e, DatG η x d ∧ DatG η y e ∧ SeqAt.shaped d = true ∧ SeqAt.shaped e = true ∧ Q (.bl (!PyData.eqv d e)) η
theorem xo_eqG (hK : X.K = K) (hu : X.A.units + 64 < cLine) : XO K X (compareOp .Eq) kEqG := by
  refine ⟨_, MyK.op_eqD (K := K) hK hu, ?_⟩
  rintro θ η H x y v u AQ Q R r1 r2 ⟨d, e, h1, h2, s1, s2, q⟩ C
  exact ⟨d, e, h1.dp R r1, h2.dp R r2, s1, s2, C θ η H _ _ .refl R .bl q⟩
theorem xo_neG (hK : X.K = K) (hu : X.A.units + 64 < cLine) : XO K X (compareOp .NotEq) kNeG := by
  refine ⟨_, MyK.op_neD (K := K) hK hu, ?_⟩
  rintro θ η H x y v u AQ Q R r1 r2 ⟨d, e, h1, h2, s1, s2, q⟩ C
  exact ⟨d, e, h1.dp R r1, h2.dp R r2, s1, s2, C θ η H _ _ .refl R .bl q⟩
end
section
variable {η : Eta} {Q : AK} {x y : AV} {w : Str} {d : PyData} {n : Nat}
theorem NmD.dg {n : Nat} {x : AV} (h : NmD n x) : DatG η x (dat x) := .pl h.nm.pl
theorem dgs_of : ∀ {xs : List AV}, Pls xs → DatGs η xs (datL xs)
  | [], _ => .nil
  | x :: xs, h => by
    cases h with
    | cons a b => exact .cons (.pl a) (dgs_of b)
theorem dg_lst {xs : List AV} (lx : LstOf η x xs) (hx : ∀ z ∈ xs, NmD n z) : DatG η x (.list (datL xs)) := .lst lx (dgs_of (nms_of fun z hz => (hx z hz).nm).pl)
theorem eqv_nm {x : AV} (h : Nm x) : PyData.eqv (dat x) (dat x) = true := (h.eqv h).mpr rfl
theorem eqv_lstN {xs : List AV} (hx : ∀ z ∈ xs, NmD n z) : PyData.eqv (.list (datL xs)) (.list (datL xs)) = true := by
  rw [eqv_lst (p := True) hx hx ⟨fun _ => trivial, fun _ => rfl⟩]
  rfl
theorem tag_shp (sw : (PyData.str w).canLay0 = true) (sd : Shp d n) : Shp (.tuple [.str w, d]) (n + 2) := (shp_tup (n := n + 1) fun e he => by
  simp only [List.mem_cons, List.not_mem_nil, or_false] at he
  rcases he with rfl | rfl
  · exact ⟨sw, by simp [PyData.depth]⟩
  · exact ⟨sd.1, by have := sd.2; omega⟩)
theorem tag_eqv (e : PyData.eqv d d = true) : PyData.eqv (.tuple [.str w, d]) (.tuple [.str w, d]) = true := by
  simp [PyData.eqv, PyData.eqvAll, e]
theorem s_neTag (hx : DatG η x d) (hy : DatG η y d) (e : PyData.eqv d d = true) (sw : (PyData.str w).canLay0 = true) (sd : Shp d n) (hn : n + 2 ≤ 64) (k : Q (.bl false) η) : kNeG (.tup [.str w, x]) (.tup [.str w, y]) η Q :=
  ⟨_, _, .tup (.cons (.pl .str) (.cons hx .nil)), .tup (.cons (.pl .str) (.cons hy .nil)), (tag_shp sw sd).ok hn, (tag_shp sw sd).ok hn, by show Q (.bl (!PyData.eqv (.tuple [.str w, d]) (.tuple [.str w, d]))) η; rw [tag_eqv e]; exact k⟩
theorem s_eqTag (hx : DatG η x d) (hy : DatG η y d) (e : PyData.eqv d d = true) (sw : (PyData.str w).canLay0 = true) (sd : Shp d n) (hn : n + 2 ≤ 64) (k : Q (.bl true) η) : kEqG (.tup [.str w, x]) (.tup [.str w, y]) η Q :=
  ⟨_, _, .tup (.cons (.pl .str) (.cons hx .nil)), .tup (.cons (.pl .str) (.cons hy .nil)), (tag_shp sw sd).ok hn, (tag_shp sw sd).ok hn, by show Q (.bl (PyData.eqv (.tuple [.str w, d]) (.tuple [.str w, d]))) η; rw [tag_eqv e]; exact k⟩
end
end Ab

/-! xs[::w] of a list, w a whole number, 1 or -1. -/
namespace L2
open PySem PySem.Spec PyProof.Rows
theorem pick_one (items : Array Value) : slicePick items none none (some 1) = items := by
  unfold slicePick
  have e : sliceBounds none none (some 1) items.size = (0, (items.size : Int), 1) := by
    first
    | rfl
    | simp [sliceBounds]
  rw [e]
  show ((sliceRange 0 (items.size : Int) 1).filterMap (items[·]?)).toArray = _
  have r : sliceRange 0 (items.size : Int) 1 = List.range items.size := by
    unfold sliceRange
    simp
    congr 1
    split <;> omega
  rw [r, PySem.W.krv_all]
variable {X : Cx}
def stepV {α : Type} (w : Int) (xs : List α) : List α := if w = 1 then xs else xs.reverse
def tStepL (K : PySem.W.Frag) (te : TE) (ts : TO) : TE := fun σ H Q => te σ H fun x H1 => ts σ H1 fun o H2 => ∃ (a : Addr) (xs : List V) (w : Int), x = .ref a ∧ o = some w ∧ (w = 1 ∨ w = -1) ∧ SqL K H2 a xs ∧ ∀ p, H2 p = none → Q (.ref p) (upd H2 p (.lst (stepV w xs)))
theorem pe_stepL {e es : Expr} {te : TE} {ts : TO} {p3 pos : Pos} (he : PE X e te) (hst : PO X (some es) ts) : PE X (.Subscript e (.Slice none none (some es) p3) pos) (tStepL X.K te ts) := by
  refine ⟨fun pins s σ H Q I h => ?_⟩
  refine Subscript_ (thn (he.run pins s σ H _ I h) fun v s1 ⟨x, H1, I1, r1, q1⟩ => ?_)
  refine wpAny_Slice (thn (po_none.run pins s1 σ H1 (fun o H2 => o = none ∧ H2 = H1) I1 ⟨rfl, rfl⟩) fun vl s2 ⟨l, H2, I2, pl, el, e2⟩ => ?_)
  subst el e2
  refine thn (po_none.run pins s2 σ H2 (fun o H3 => o = none ∧ H3 = H2) I2 ⟨rfl, rfl⟩) fun vu s3 ⟨u, H3, I3, pu, eu, e3⟩ => ?_
  subst eu e3
  refine thn (hst.run pins s3 σ H3 _ I3 q1) fun vs s4 ⟨o, H4, I4, ps, q4⟩ => ?_
  obtain ⟨a, xs, w, ex, eo, hw, hx, q⟩ := q4
  subst ex eo
  cases r1
  have I5 : Inv X pins σ H4 { s4 with heap := s4.heap.push { cls := .type "slice", data := .fields #[vl, vu, vs] } } := I4.kept (t' := s4.toks) fun b ob q => Heap.get?_push_of_some _ q
  obtain ⟨its, r, ht, hz⟩ := I5.list hx
  have hlen := r.length
  show wpAny (model X.prog X.w) X.A (subscriptTail e (.Slice none none (some es) p3) (.ref a) (.ref s4.heap.objs.size)) (EP X pins σ Q) X.xe { s4 with heap := s4.heap.push { cls := .type "slice", data := .fields #[vl, vu, vs] } }
  refine tail_any (ops := [.ref a, .ref s4.heap.objs.size]) ht.isList.typeIs (PySem.slot_list_getitem.lookup) ?_ (by with_unfolding_all rfl)
  refine wpAny_getItem_list_slice ht.isList (Heap.IsSliceOf.new _ vl vu vs) pl pu ps (by rcases hw with rfl | rfl <;> decide) ?_ (by rw [List.size_toArray]; omega)
  rcases hw with rfl | rfl
  · rw [pick_one]
    refine ⟨.ref _, _, I5.laid (t' := s4.toks) (o := .lst xs) (fun b ob q => Heap.get?_push_of_some _ q) (Nat.le_refl _) ?_, rfl, q _ (I5.hok.fresh (Nat.le_refl _))⟩
    exact ⟨hz, _, 0, r, Heap.get?_push_size _ rfl⟩
  · rw [PySem.W.krv_pick]
    refine ⟨.ref _, _, I5.laid (t' := s4.toks) (o := .lst xs.reverse) (fun b ob q => Heap.get?_push_of_some _ q) (Nat.le_refl _) ?_, rfl, q _ (I5.hok.fresh (Nat.le_refl _))⟩
    exact ⟨by rw [List.length_reverse]; exact hz, _, 0, r.reverse, Heap.get?_push_size _ rfl⟩
end L2
namespace Ab
open PySem PySem.Spec PyProof.Rows L2 MyB MyR MyD MyC
def aStepL (te : AE) (ts : AO1) : AE := fun ρ η Q => te ρ η fun x η1 => ts ρ η1 fun o η2 => ∃ (xs : List AV) (w : Int), o = some w ∧ (w = 1 ∨ w = -1) ∧ LstOf η2 x xs ∧ (∃ n, x = .rf n) ∧ ∀ m, η2 m = none → Q (.rf m) (pt η2 m (.lst (stepV w xs)))
variable {K : KG} {X : Cx} {e es : Expr} {te ts : AE}
theorem xe_stepL {p3 pos : Pos} (hK : X.K = K) (he : XE K X e te) (hs : XE K X es ts) : XE K X (.Subscript e (.Slice none none (some es) p3) pos) (aStepL te (aPart ts)) := by
  obtain ⟨t1, p1, q1⟩ := he
  obtain ⟨t2, p2, q2⟩ := xpo_some hs
  obtain ⟨K, Gg, mn⟩ := K; have hK : X.K = K := hK; subst hK
  refine ⟨_, pe_stepL p1 p2, ?_⟩
  intro θ ρ η σ H AQ Q R S h C
  refine q1 θ ρ η σ H _ _ R S h ?_
  intro θ1 η1 H1 x v e1 R1 r1 h1
  refine q2 θ1 ρ η1 σ H1 _ _ R1 (S.ext e1) h1 ?_
  rintro θ2 η2 H2 o _ e2 R2 rfl ⟨xs, w, rfl, hw, hx, ⟨n, rfl⟩, h2⟩
  obtain ⟨a, vs, rfl, hv, rv⟩ := hx.sq R2 (r1.ext e2)
  refine ⟨a, vs, w, rfl, rfl, hw, ?_, fun p hp => ?_⟩
  · exact hv
  · unfold stepV at h2 ⊢
    rcases hw with rfl | rfl
    · rw [if_pos rfl] at h2 ⊢
      exact new_lst R2 hp rv (C.ext (e1.trans e2)) h2
    · rw [if_neg (by decide)] at h2 ⊢
      exact new_lst R2 hp rv.rev (C.ext (e1.trans e2)) h2
end Ab

/-! t[::-1] of a tuple. -/
namespace HT
open PySem PySem.Spec PyProof.Rows
section
variable {prog : Program} {w : World} {A : Around} {E : Value → Shared → Prop} {s : Shared}
theorem adjust_rev (n : Nat) : Builtin.Slice.sliceAdjust none none (-1) (n : Int) = ((n : Int) - 1, -1) := by
  unfold Builtin.Slice.sliceAdjust
  have h1 : ((-1 : Int) < 0) := by decide
  simp only [h1, if_true]
theorem places_rev (n : Nat) : Builtin.Slice.slicePlaces ((n : Int) - 1) (-1) (-1) = n := by
  unfold Builtin.Slice.slicePlaces
  have h1 : ¬ ((-1 : Int) > 0) := by decide
  simp only [h1, if_false]
  rw [show (- -1 : Int) = 1 by decide, Int.ediv_one]
  split <;> omega
theorem sliceApplied_rev {sl : Addr} {vs : Value} {n : Nat} {Q : Int × Int × Nat → Shared → Prop} (hs : s.heap.IsSliceOf sl .none .none vs) (ps : IsPart vs (some (-1)))
    (h : Q ((n : Int) - 1, -1, n) s) : wpAny (model prog w) A (Builtin.Slice.sliceApplied (.ref sl) (pure (n : Int))) Q E s := by
  obtain ⟨os, hos, hcs, hds⟩ := id hs
  unfold Builtin.Slice.sliceApplied Builtin.Slice.sliceFields
  refine wpAny_bind (wpAny_bind (wpAny_field hos hds (x := .none) rfl (wpAny_bind (wpAny_field hos hds (x := .none) rfl (wpAny_bind (wpAny_field hos hds (x := vs) rfl (wpAny_pure ?_)))))))
  refine wpAny_bind (slicePart_ ps ?_)
  show wpAny _ _ (if ((-1 : Int) == 0) = true then _ else _) _ _ s
  rw [if_neg (by decide)]
  refine wpAny_bind (slicePart_none (wpAny_bind (slicePart_none (wpAny_bind (wpAny_pure ?_)))))
  show wpAny _ _ (match Builtin.Slice.sliceAdjust none none (-1) (n : Int) with | (lo, hi) => pure (lo, (-1 : Int), Builtin.Slice.slicePlaces lo hi (-1))) _ _ s
  rw [adjust_rev n]
  show wpAny _ _ (pure ((n : Int) - 1, (-1 : Int), Builtin.Slice.slicePlaces ((n : Int) - 1) (-1) (-1))) _ _ s
  rw [places_rev]
  exact wpAny_pure h
theorem fm_congr {α β : Type} {f g : α → Option β} : ∀ {l : List α}, (∀ x ∈ l, f x = g x) → l.filterMap f = l.filterMap g
  | [], _ => rfl
  | x :: l, h => by rw [List.filterMap_cons, List.filterMap_cons, h x List.mem_cons_self, fm_congr fun y hy => h y (List.mem_cons_of_mem _ hy)]
theorem pick_rev (xs : Array Value) : ((List.range xs.size).filterMap fun (m : Nat) => xs[(((xs.size : Int) - 1) + (m : Int) * (-1)).toNat]?).toArray = xs.toList.reverse.toArray := by
  have e : (List.range xs.size).filterMap (fun (m : Nat) => xs[(((xs.size : Int) - 1) + (m : Int) * (-1)).toNat]?) = ((List.range xs.size).map fun k => xs.size - 1 - k).filterMap (xs[·]?) := by
    rw [List.filterMap_map]
    refine fm_congr fun m hm => ?_
    have := List.mem_range.mp hm
    show xs[_]? = xs[xs.size - 1 - m]?
    congr 1
    omega
  rw [e, PySem.W.krv_range, List.filterMap_reverse, PySem.W.krv_all]
theorem getItem_tuple_rev {t sl : Addr} {items : Array Value} {vs : Value} {Q : Value → Shared → Prop} (ht : IsTup s.heap t items) (hs : s.heap.IsSliceOf sl .none .none vs) (ps : IsPart vs (some (-1)))
    (h : Q (.ref s.heap.objs.size) { s with heap := s.heap.push { cls := .type "tuple", data := .seq items.toList.reverse.toArray } })
    (hsz : items.size ≤ sizeLine) : wpAny (model prog w) A (getItem (.ref t) (.ref sl)) Q E s := by
  have htake : sizeOk (.seq items.toList.reverse.toArray) := by
    show items.toList.reverse.toArray.size ≤ sizeLine
    rw [List.size_toArray, List.length_reverse, Array.length_toList]
    omega
  obtain ⟨os, hos, hcs, hds⟩ := id hs
  have hTs : s.TypeIs (.ref sl) "slice" := ⟨os, hos, hcs⟩
  unfold getItem
  try with_reducible refine wpAny_holding ?_
  first | refine wpAny_bind (wpAny_pure ?_) | skip
  refine wpAny_bind (wpAny_sequenceKey ht.typeIs (by decide) ?_)
  refine wpAny_bind (wpAny_callSpecial?_slot (name := Str.ofString "__getitem__") ht.typeIs PyProof.Rows.slot_tuple_getitem
    (wpAny_call_entry PyProof.Rows.slot_tuple_getitem ht.typeIs entry_tuple_getitem ?_ (args_tuple_getitem _ _)))
  show wpAny _ _ (Builtin.Tuple.tupleItemsOf (.ref t) >>= _) _ _ s
  refine wpAny_bind (tupleItemsOf_ ht ?_)
  refine wpAny_bind (wpAny_typeOf hTs ?_)
  rw [if_pos (by decide)]
  refine wpAny_bind (sliceApplied_rev hs ps ?_)
  have hno : ¬ ((((items.size : Int) - 1) == 0 && (-1 : Int) == 1 && items.size == items.size) = true) := by
    intro q
    rw [Bool.and_eq_true, Bool.and_eq_true] at q
    exact absurd q.1.2 (by decide)
  show wpAny _ _ (if (((items.size : Int) - 1) == 0 && (-1 : Int) == 1 && items.size == items.size) = true then _ else _) _ _ s
  rw [if_neg hno, pick_rev]
  first
    | exact wpAny_bind (m := Builtin.Tuple.tupleExact _) (wpAny_newObj_type (wpAny_pure ⟨_, rfl, wpAny_pure h⟩) htake)
    | exact wpAny_bind (m := Builtin.Tuple.tupleExact _) (wpAny_newObj_type (wpAny_bind (wpAny_pure (wpAny_pure ⟨_, rfl, wpAny_pure h⟩))) htake)
    | exact wpAny_bind (wpAny_bind (m := Builtin.Tuple.tupleExact _) (wpAny_newObj_type (wpAny_pure (wpAny_pure ⟨_, rfl, wpAny_pure h⟩)) htake))
    | exact wpAny_bind (wpAny_bind (m := Builtin.Tuple.tupleExact _) (wpAny_newObj_type (wpAny_pure ⟨_, rfl, wpAny_pure h⟩) htake))
end
end HT
namespace L2
open PySem PySem.Spec PyProof.Rows
variable {X : Cx}
def tRevT (K : PySem.W.Frag) (te : TE) : TE := fun σ H Q => te σ H fun x H1 => ∃ a xs, x = .ref a ∧ SqT K H1 a xs ∧ ∀ p, H1 p = none → Q (.ref p) (upd H1 p (.tup xs.reverse))
theorem pe_revT {e : Expr} {te : TE} {k : Nat} {p1 p2 p3 pos : Pos} (he : PE X e te) : PE X (.Subscript e (.Slice none none (some (.UnaryOp .USub (.Constant (.int 1) k p1) p2)) p3) pos) (tRevT X.K te) := by
  refine ⟨fun pins s σ H Q I h => ?_⟩
  refine Subscript_ (thn (he.run pins s σ H _ I h) fun v s1 ⟨x, H1, I1, r1, q1⟩ => ?_)
  obtain ⟨a, xs, ex, hx, q⟩ := q1
  subst ex
  cases r1
  have hst : PO X (some (.UnaryOp .USub (.Constant (.int 1) k p1) p2)) (tPart (tUn (rU fun i => .int (-i)) (tC (.int 1)))) := po_some (pe_un un_neg pe_int)
  refine wpAny_Slice (thn (po_none.run pins s1 σ H1 (fun o H2 => o = none ∧ H2 = H1) I1 ⟨rfl, rfl⟩) fun vl s2 ⟨l, H2, I2, pl, el, e2⟩ => ?_)
  subst el e2
  refine thn (po_none.run pins s2 σ H2 (fun o H3 => o = none ∧ H3 = H2) I2 ⟨rfl, rfl⟩) fun vu s3 ⟨u, H3, I3, pu, eu, e3⟩ => ?_
  subst eu e3
  refine thn (hst.run pins s3 σ H3 (fun o H4 => o = some (-1) ∧ H4 = H3) I3 ⟨1, rfl, -1, rfl, rfl, rfl⟩) fun vs s4 ⟨o, H4, I4, ps, eo, e4⟩ => ?_
  subst eo e4
  cases pl
  cases pu
  have I5 : Inv X pins σ H4 { s4 with heap := s4.heap.push { cls := .type "slice", data := .fields #[.none, .none, vs] } } := I4.kept (t' := s4.toks) fun b ob q => Heap.get?_push_of_some _ q
  obtain ⟨its, r, ht, hz⟩ := I5.tuple hx
  have hlen := r.length
  show wpAny (model X.prog X.w) X.A (subscriptTail e (.Slice none none (some (.UnaryOp .USub (.Constant (.int 1) k p1) p2)) p3) (.ref a) (.ref s4.heap.objs.size)) (EP X pins σ Q) X.xe { s4 with heap := s4.heap.push { cls := .type "slice", data := .fields #[.none, .none, vs] } }
  refine tail_any (ops := [.ref a, .ref s4.heap.objs.size]) ht.typeIs (PyProof.Rows.slot_tuple_getitem.lookup) ?_ (by with_unfolding_all rfl)
  refine HT.getItem_tuple_rev ht (Heap.IsSliceOf.new _ .none .none vs) ps ?_ (by rw [List.size_toArray]; omega)
  refine ⟨.ref _, _, I5.laid (t' := s4.toks) (o := .tup xs.reverse) (fun b ob q => Heap.get?_push_of_some _ q) (Nat.le_refl _) ?_, rfl, q _ (I5.hok.fresh (Nat.le_refl _))⟩
  exact ⟨by rw [List.length_reverse]; exact hz, _, r.reverse, IsTup.new _ _⟩
end L2
namespace Ab
open PySem PySem.Spec PyProof.Rows L2 MyB MyR MyD MyC
def aRevT (te : AE) : AE := fun ρ η Q => te ρ η fun x η1 => ∃ xs, x = .tup xs ∧ Q (.tup xs.reverse) η1
variable {K : KG} {X : Cx} {e : Expr} {te : AE}
theorem xe_revT {k : Nat} {p1 p2 p3 pos : Pos} (hK : X.K = K) (he : XE K X e te) : XE K X (.Subscript e (.Slice none none (some (.UnaryOp .USub (.Constant (.int 1) k p1) p2)) p3) pos) (aRevT te) := by
  obtain ⟨t1, p, q⟩ := he
  refine ⟨_, pe_revT p, ?_⟩
  intro θ ρ η σ H AQ Q R S h C
  refine q θ ρ η σ H _ _ R S h ?_
  rintro θ1 η1 H1 x v e1 R1 r1 ⟨xs, rfl, h1⟩
  cases r1 with
  | tup u hH r =>
    rw [hK]
    exact ⟨_, _, rfl, sqT hH, fun p hp => C θ1 η1 _ _ _ (e1.trans (ext_new hp)) (R1.new0 hp) (.tup (R1.untr hp) upd_same (r.rev.ext (ext_new hp))) h1⟩
theorem s_revT {ρ : Sta} {η : Eta} {Q : AK} (k : te ρ η fun x η1 => ∃ xs, x = .tup xs ∧ Q (.tup xs.reverse) η1) : aRevT te ρ η Q := k
end Ab

/-! range(i, j, -1); sorted of a list of ints. -/
namespace Ab
open PySem L2 MyB MyR MyD MyC
variable {K : KG} {X : Cx} {tg : Expr} {pos : Pos}
def rngC (lo c : Int) (n : Nat) : List AV := (List.range n).map fun (k : Nat) => .int (lo + (k : Int) * c)
theorem rngC_len (lo c : Int) (n : Nat) : (rngC lo c n).length = n := by simp [rngC]
def aiRng3 (ta : AA) : AI := fun ρ η Q => ta ρ η fun zs η1 => ∃ i j : Int, zs = [.int i, .int j, .int (-1)] ∧ -(2 ^ 62) ≤ i ∧ i < 2 ^ 62 ∧ -(2 ^ 62) ≤ j ∧ j < 2 ^ 62 ∧ Q (rngC i (-1) (i - j).toNat) (fun _ => True) η1
theorem s_iRng3 {ta : AA} {ρ : Sta} {η : Eta} {R : AR} (k : ta ρ η fun zs η1 => ∃ i j : Int, zs = [.int i, .int j, .int (-1)] ∧ -(2 ^ 62) ≤ i ∧ i < 2 ^ 62 ∧ -(2 ^ 62) ≤ j ∧ j < 2 ^ 62 ∧ R (rngC i (-1) (i - j).toNat) (fun _ => True) η1) : aiRng3 ta ρ η R := k
theorem yrngC {θ : Th} {H H2 : Hp} {η : Eta} {lo c : Int} {n i : Nat} {v : V} (R : RelH K θ η H) (hi : i < n) (y : YFn (fun i => .int (lo + (i : Nat) * c)) i H v H2) : ∃ x, (rngC lo c n)[i]? = some x ∧ Ext θ H θ H2 ∧ RelH K θ η H2 ∧ Rep K θ H2 x v := by
  obtain ⟨rfl, rfl⟩ := y
  exact ⟨_, by simp [rngC, hi], .refl, R, .int⟩
theorem walks_rngC {θ : Th} {H : Hp} {lo c : Int} {n : Nat} : Walks K θ H (Itc lo c n) (rngC lo c n) (fun _ => True) := by
  intro θ' η' H' i e R st
  have w := walk_rangeC (lo := lo) (c := c) (n := n)
  refine ⟨fun c => ?_, ?_⟩
  · rw [rngC_len] at c
    exact ⟨w.goes i H' c trivial, fun v H2 y => yrngC R c (w.yields i H' v H2 c trivial y)⟩
  · rintro rfl
    rw [rngC_len]
    exact w.stops H' trivial
theorem xi_range3 {a b c : Expr} {ta : AA} {p : Pos} (hg : Gl X "range") (hm : X.mg "range" = none) (ha : XA K X [a, b, c] ta)
    (hs : starEach [a, b, c] X.env = (false, eval a X.env) :: starEach [b, c] X.env := by rfl) (hpl : (backTo pos (starEach [b, c] X.env)).any (·.1) = false := by rfl) :
    XIt K X tg (.Call (.Name "range" p) [a, b, c] [] pos) (aiRng3 ta) := by
  obtain ⟨t, p1, q⟩ := ha
  refine ⟨_, pi_range3 hg hm p1 hs hpl, ?_⟩
  intro θ ρ η σ H AQ Q R S h C
  refine q θ ρ η σ H _ _ R S h ?_
  rintro θ1 η1 H1 zs vs e1 R1 r1 ⟨i, j, rfl, b0, b1, b2, b3, h1⟩
  cases r1 with
  | cons r1 r2 =>
    cases r2 with
    | cons r2 r3 =>
      cases r3 with
      | cons r3 r4 =>
        cases r1
        cases r2
        cases r3
        cases r4
        exact ⟨i, j, -1, _, rfl, RgC.neg b0 b1 b2 b3, C θ1 η1 H1 _ _ _ e1 R1 walks_rngC h1⟩
def kSortI : ARn := fun xs η Q => ∃ (x : AV) (ns : List Int), xs = [x] ∧ LstOf η x (ns.map AV.int) ∧ (∃ n, x = .rf n) ∧ ∀ ms : List Int, ms.Perm ns → ms.Pairwise (· ≤ ·) → ∀ n, η n = none → Q (.rf n) (pt η n (.lst (ms.map AV.int)))
theorem reps_intsI {θ : Th} {H : Hp} : ∀ {ns : List Int} {vs : List V}, Reps K θ H (ns.map AV.int) vs → vs = ns.map V.int
  | [], _, r => by cases r; rfl
  | n :: ns, _, r => by
    cases r with
    | cons r1 r2 =>
      cases r1
      rw [reps_intsI r2]
      rfl
theorem reps_of_ints {θ : Th} {H : Hp} : ∀ ns : List Int, Reps K θ H (ns.map AV.int) (ns.map V.int)
  | [] => .nil
  | n :: ns => .cons .int (reps_of_ints ns)
theorem xc_sortI (hK : X.K = K) : XC K X (.builtin "sorted") kSortI := by
  obtain ⟨K, Gg, mn⟩ := K; have hK : X.K = K := hK; subst hK
  refine ⟨_, cr_sortedI, ?_⟩
  rintro θ η H xs vs AQ Q R r ⟨x, ns, rfl, hx, ⟨n0, rfl⟩, q⟩ C
  obtain ⟨v, rfl, r1⟩ := reps1 r
  obtain ⟨a, us, rfl, hu, ru⟩ := hx.sq R r1
  have e := reps_intsI ru
  subst e
  exact ⟨a, ns, rfl, hu, fun ms p hp hs hn => new_lst R hn (reps_of_ints ms) C (q ms hp hs)⟩
end Ab

/-! list.pop(i); a def that may raise, called where it does not; sorted lists are one. -/
namespace Ab
open PySem PySem.Spec PyProof.Rows L2 MyB MyR MyD
theorem Reps.eraseIdx {K : PySem.W.Frag} {θ : Th} {H : Hp} : ∀ {xs : List AV} {vs : List V} (k : Nat), Reps K θ H xs vs → Reps K θ H (xs.eraseIdx k) (vs.eraseIdx k)
  | _, _, _, .nil => .nil
  | _, _, 0, .cons a b => b
  | _, _, k + 1, .cons a b => .cons a (Reps.eraseIdx k b)
def kPopAt : ARm := fun x ys η Q => ∃ n xs i k y, x = .rf n ∧ ys = [.int i] ∧ η n = some (.lst xs) ∧ -(2 ^ 63) ≤ i ∧ i < 2 ^ 63 ∧ seqIndex? i xs.length = some k ∧ xs[k]? = some y ∧ Q y (pt η n (.lst (xs.eraseIdx k)))
section
variable {K : KG} {X : Cx}
theorem xmt_popAt : XMt K X "list.pop" kPopAt := by
  refine ⟨_, mt_popAt, ?_⟩
  rintro θ η H x v zs vs AQ Q R r rs ⟨n, xs, i, k, y, rfl, rfl, hn, h1, h2, hk, hy, q⟩ C
  obtain ⟨w, rfl, rw'⟩ := reps1 rs
  cases rw'
  cases r with
  | rf h =>
    obtain ⟨a, e, us, hu, ru⟩ := R.at n _ hn
    rw [h] at e; cases e
    obtain ⟨u, hu2, ru2⟩ := ru.at hy
    have e1 : Ext θ H θ _ := ext_at (o := .lst (us.eraseIdx k)) R h hu
    have R2 := R.put (o := .lst (xs.eraseIdx k)) (v := .lst (us.eraseIdx k)) h hu ⟨_, upd_same, (ru.eraseIdx k).ext e1⟩
    exact ⟨_, us, i, k, u, rfl, rfl, hu, h1, h2, by rw [← ru.len]; exact hk, hu2, C θ _ _ _ _ e1 R2 (ru2.ext e1) q⟩
theorem s_popAt {η : Eta} {Q : AK} {n : Nat} {xs : List AV} {i : Int} {y : AV} (h : η n = some (.lst xs)) (h0 : 0 ≤ i) (h1 : i < 2 ^ 63) (hy : xs[i.toNat]? = some y) (q : Q y (pt η n (.lst (xs.eraseIdx i.toNat)))) : kPopAt (.rf n) [.int i] η Q := by
  have hl := (List.getElem?_eq_some_iff.mp hy).1
  refine ⟨n, xs, i, i.toNat, y, rfl, rfl, h, by omega, h1, ?_, hy, q⟩
  unfold seqIndex?
  have c : (0 ≤ i && decide (i < (xs.length : Int))) = true := by
    rw [decide_eq_true h0, decide_eq_true (show i < (xs.length : Int) by omega)]
    rfl
  simp only [if_neg (show ¬ i < 0 by omega)]
  rw [if_pos c]
end
/-! ### a def that may raise, called where it does not -/
def aCallN (asp : ASpX) (ts : AA) : AE := fun ρ η Q => ts ρ η fun xs η1 => asp xs η1 Q fun _ _ => False
section
variable {K : KG} {X : Cx} {k : Nat} {ps : List Str} {asp : ASpX} {x : Str} {p pos : Pos} {e : Expr} {es : List Expr} {ts : AA}
theorem xe_callN (hK : X.K = K.k) (D : XDefX X.prog X.w K.k X.mg X.base k x ps asp) (hr : Room k X.A) (hg : Gl X x) (ha : XA K X (e :: es) ts) (hdb : (x == ("__debug__" : Str)) = false := by decide)
    (he : starEach (e :: es) X.env = (false, eval e X.env) :: starEach es X.env := by rfl) (hpl : (backTo pos (starEach es X.env)).any (·.1) = false := by rfl) :
    XE K X (.Call (.Name x p) (e :: es) [] pos) (aCallN asp ts) := by
  obtain ⟨t1, p1, q1⟩ := ha
  obtain ⟨f, fd, F, m, kp, b⟩ := D
  rw [← hK] at F kp b
  refine ⟨_, pe_call F hr hg m kp b .nil passL p1 hdb he hpl, ?_⟩
  intro θ ρ η σ H AQ Q R S h Cc
  refine q1 θ ρ η σ H _ _ R S h ?_
  intro θ1 η1 H1 xs vs e1 R1 r1 h1
  rw [List.append_nil, hK]
  exact ⟨θ1, η1, xs, AQ, _, R1.tp, r1, h1, (Cc.ext e1).tp R1.gh, fun _ _ _ _ _ _ _ _ _ z => z.elim⟩
theorem s_callN {ρ : Sta} {η : Eta} {Q : AK} (k : ts ρ η fun xs η1 => asp xs η1 Q fun _ _ => False) : aCallN asp ts ρ η Q := k
end
theorem sorted_one : ∀ {A B : List Int}, A.Perm B → A.Pairwise (· ≤ ·) → B.Pairwise (· ≤ ·) → A = B
  | [], B, p, _, _ => (List.nil_perm.mp p).symm
  | a :: A, B, p, hA, hB => by
    cases B with
    | nil => exact absurd (List.perm_nil.mp p) (by simp)
    | cons b B =>
      have ab : a = b := by
        have h1 := p.mem_iff.mp (List.mem_cons_self (a := a) (l := A))
        have h2 := p.mem_iff.mpr (List.mem_cons_self (a := b) (l := B))
        have l1 : b ≤ a := by
          rcases List.mem_cons.mp h1 with e | e
          · omega
          · exact (List.pairwise_cons.mp hB).1 a e
        have l2 : a ≤ b := by
          rcases List.mem_cons.mp h2 with e | e
          · omega
          · exact (List.pairwise_cons.mp hA).1 b e
        omega
      subst ab
      rw [sorted_one (List.Perm.cons_inv p) (List.pairwise_cons.mp hA).2 (List.pairwise_cons.mp hB).2]
/-- a list of ints, ascending -/
def srt (L : List Int) : List Int := L.mergeSort
theorem srt_perm (L : List Int) : (srt L).Perm L := List.mergeSort_perm L _
theorem srt_sorted (L : List Int) : (srt L).Pairwise (· ≤ ·) := by
  have h := List.pairwise_mergeSort (le := fun a b : Int => decide (a ≤ b)) (fun a b c h1 h2 => by simp at *; omega) (fun a b => by simp; omega) L
  exact h.imp fun {a b} e => by simpa using e
theorem srt_of {L M : List Int} (p : M.Perm L) (h : M.Pairwise (· ≤ ·)) : M = srt L := sorted_one (p.trans (srt_perm L).symm) h (srt_sorted L)
theorem srt_len (L : List Int) : (srt L).length = L.length := (srt_perm L).length_eq
end Ab

/-! t >= u of tuples of ints -/
namespace L2
open PySem PySem.Spec PyProof.Rows
def geI (ns ms : List Int) : Bool := Ob.lexAt (fun j => decide (ns.getD j 0 = ms.getD j 0)) (fun j => decide (ms.getD j 0 ≤ ns.getD j 0)) (decide (ns.length ≥ ms.length)) 0 (min ns.length ms.length)
def rGeT (K : PySem.W.Frag) : R2 := fun x y H Q => ∃ (a b : Addr) (ns ms : List Int), x = .ref a ∧ y = .ref b ∧ SqT K H a (ns.map V.int) ∧ SqT K H b (ms.map V.int) ∧ Q (.bl (geI ns ms)) H
theorem op_geT {X : Cx} (hu : X.A.units < cLine) : OpR X (compareOp .GtE) (rGeT X.K) := by
  intro pins s σ H x y v u Q I rx ry h
  obtain ⟨a, b, ns, ms, rfl, rfl, ha, hb, q⟩ := h
  cases rx
  cases ry
  obtain ⟨its, r1, p1, _⟩ := I.tuple ha
  obtain ⟨its2, r2, p2, _⟩ := I.tuple hb
  have i1 : IntsAre its ns := Vals.ints r1
  have i2 : IntsAre its2 ms := Vals.ints r2
  have e1 : its.toArray.size = ns.length := by rw [List.size_toArray]; exact i1.length
  have e2 : its2.toArray.size = ms.length := by rw [List.size_toArray]; exact i2.length
  have at1 : ∀ j (h1 : j < its.toArray.size), ∃ t, its.toArray[j] = .int (ns.getD j 0) t := fun j h1 => PyProof.Rows.IntsAre.int_at i1 _ _ (by simp at h1; simp [h1])
  have at2 : ∀ j (h1 : j < its2.toArray.size), ∃ t, its2.toArray[j] = .int (ms.getD j 0) t := fun j h1 => PyProof.Rows.IntsAre.int_at i2 _ _ (by simp at h1; simp [h1])
  have R := Ob.RcOp.tuples_ge (A := X.A) (s := s) (e := fun j => decide (ns.getD j 0 = ms.getD j 0)) (r := fun j => decide (ms.getD j 0 ≤ ns.getD j 0)) p1 p2 hu (fun j h1 h2 => by
    obtain ⟨t, et⟩ := at1 j h1
    obtain ⟨t', et'⟩ := at2 j h2
    rw [et, et']
    have z : (ns.getD j 0 == ms.getD j 0) = decide (ns.getD j 0 = ms.getD j 0) := by
      by_cases q : ns.getD j 0 = ms.getD j 0
      · rw [decide_eq_true q]; exact beq_iff_eq.mpr q
      · rw [decide_eq_false q]; exact beq_eq_false_iff_ne.mpr q
    rw [← z]
    exact SeqAt.EqAt.int_int _ _ _ _) (fun j h1 h2 _ => by
    obtain ⟨t, et⟩ := at1 j h1
    obtain ⟨t', et'⟩ := at2 j h2
    rw [et, et']
    exact Ob.RcOp.ge_int _ _ _ _)
  rw [e1, e2] at R
  have z : wpAny (model X.prog X.w) X.A (compareOp .GtE (.ref a) (.ref b)) (EP X pins σ Q) X.xe s := R X.prog X.w X.xe (EP X pins σ Q) ⟨.bl _, H, I, rfl, q⟩
  exact z
theorem op_geTK {X : Cx} {K : PySem.W.Frag} (h : X.K = K) (hu : X.A.units < cLine) : OpR X (compareOp .GtE) (rGeT K) := by subst h; exact op_geT hu
end L2
namespace Ab
open PySem PySem.Spec PyProof.Rows L2 MyB MyR MyD
section
variable {K : KG} {X : Cx}
def kGeT : AR2 := fun x y η Q => ∃ ns ms : List Int, x = tI ns ∧ y = tI ms ∧ Q (.bl (geI ns ms)) η
theorem xo_geT (hK : X.K = K) (hu : X.A.units + 64 < cLine) : XO K X (compareOp .GtE) kGeT := by
  refine ⟨_, op_geTK hK (by omega), ?_⟩
  rintro θ η H x y v u AQ Q R r1 r2 ⟨ns, ms, rfl, rfl, q⟩ C
  cases r1 with
  | tup u1 h1 r1 =>
    cases r2 with
    | tup u2 h2 r2 =>
      rw [r1.ints] at h1
      rw [r2.ints] at h2
      exact ⟨_, _, ns, ms, rfl, rfl, sqT h1, sqT h2, C θ η H _ _ .refl R .bl q⟩
theorem geI_two (a b c d : Int) : geI [a, b] [c, d] = !decide (a < c ∨ a = c ∧ b < d) := by
  show (if decide (a = c) = true then (if decide (b = d) = true then decide (2 ≥ 2) else decide (d ≤ b)) else decide (c ≤ a)) = _
  by_cases e : a = c
  · subst e
    rw [if_pos (decide_eq_true rfl)]
    by_cases f : b = d
    · subst f
      rw [if_pos (decide_eq_true rfl), decide_eq_false (show ¬ (a < a ∨ a = a ∧ b < b) by omega)]
      rfl
    · rw [if_neg (fun z => f (of_decide_eq_true z))]
      by_cases g : d ≤ b
      · rw [decide_eq_true g, decide_eq_false (show ¬ (a < a ∨ a = a ∧ b < d) by omega)]; rfl
      · rw [decide_eq_false g, decide_eq_true (show (a < a ∨ a = a ∧ b < d) by omega)]; rfl
  · rw [if_neg (fun z => e (of_decide_eq_true z))]
    by_cases g : c ≤ a
    · rw [decide_eq_true g, decide_eq_false (show ¬ (a < c ∨ a = c ∧ b < d) by omega)]; rfl
    · rw [decide_eq_false g, decide_eq_true (show (a < c ∨ a = c ∧ b < d) by omega)]; rfl
theorem s_geP {a b c d : Int} {η : Eta} {Q : AK} (k : Q (.bl (!decide (a < c ∨ a = c ∧ b < d))) η) : kGeT (.tup [.int a, .int b]) (.tup [.int c, .int d]) η Q := by
  refine ⟨[a, b], [c, d], rfl, rfl, ?_⟩
  rw [geI_two]
  exact k
end
end Ab

/-! xs == [], xs != [], whatever stands in xs -/
namespace L2
open PySem PySem.Spec PyProof.Rows
def rEqNil (ne : Bool) (K : PySem.W.Frag) : R2 := fun x y H Q => ∃ (a b : Addr) (xs : List V), x = .ref a ∧ y = .ref b ∧ SqL K H a xs ∧ SqL K H b [] ∧ Q (.bl (ne != xs.isEmpty)) H
theorem plain_list {h : Heap} {a : Addr} {its : Array Value} (p : PlainL h a its) : h.IsList a its := by
  obtain ⟨o, n, ho, hc, _, hd⟩ := p
  exact ⟨o, ho, hc, n, hd⟩
theorem op_eqNil {X : Cx} {K : PySem.W.Frag} (hK : X.K = K) (hu : X.A.units + 64 < cLine) : OpR X (compareOp .Eq) (rEqNil false K) := by
  subst hK
  intro pins s σ H x y v u Q I rx ry h
  obtain ⟨a, b, xs, rfl, rfl, ha, hb, q⟩ := h
  cases rx
  cases ry
  obtain ⟨its, r1, p1, _⟩ := I.list ha
  obtain ⟨its2, r2, p2, _⟩ := I.list hb
  cases r2
  have go : ∀ k : Bool, k = (false != xs.isEmpty) → EP X pins σ Q (.bool k) s := fun k e => ⟨.bl k, H, I, rfl, by rw [e]; exact q⟩
  cases xs with
  | nil =>
    cases r1
    exact SeqAt.RcAt.lists (e := fun _ => true) (plain_list p1) (plain_list p2) rfl (by omega) (fun j h1 _ => by simp at h1) X.prog X.w X.xe _ (go _ rfl)
  | cons c xs =>
    cases r1 with
    | cons q1 q2 => exact SeqAt.RcAt.lists_lengths (plain_list p1) (plain_list p2) (by simp) (by omega) X.prog X.w X.xe _ (go _ rfl)
theorem op_neNil {X : Cx} {K : PySem.W.Frag} (hK : X.K = K) (hu : X.A.units + 64 < cLine) : OpR X (compareOp .NotEq) (rEqNil true K) := by
  subst hK
  intro pins s σ H x y v u Q I rx ry h
  obtain ⟨a, b, xs, rfl, rfl, ha, hb, q⟩ := h
  cases rx
  cases ry
  obtain ⟨its, r1, p1, _⟩ := I.list ha
  obtain ⟨its2, r2, p2, _⟩ := I.list hb
  cases r2
  have go : ∀ k : Bool, k = (true != xs.isEmpty) → EP X pins σ Q (.bool k) s := fun k e => ⟨.bl k, H, I, rfl, by rw [e]; exact q⟩
  cases xs with
  | nil =>
    cases r1
    exact SeqAt.RcNeAt.lists (e := fun _ => true) (plain_list p1) (plain_list p2) rfl (by omega) (fun j h1 _ => by simp at h1) X.prog X.w X.xe _ (go _ rfl)
  | cons c xs =>
    cases r1 with
    | cons q1 q2 => exact SeqAt.RcNeAt.lists_lengths (plain_list p1) (plain_list p2) (by simp) (by omega) X.prog X.w X.xe _ (go _ rfl)
end L2
namespace Ab
open PySem PySem.Spec PyProof.Rows L2 MyB MyR MyD
section
variable {K : KG} {X : Cx}
def kEqNil (ne : Bool) : AR2 := fun x y η Q => ∃ (n m : Nat) (xs : List AV), x = .rf n ∧ y = .rf m ∧ η n = some (.lst xs) ∧ η m = some (.lst []) ∧ Q (.bl (ne != xs.isEmpty)) η
theorem xo_eqNil (hK : X.K = K) (hu : X.A.units + 64 < cLine) : XO K X (compareOp .Eq) (kEqNil false) := by
  refine ⟨_, op_eqNil hK hu, ?_⟩
  rintro θ η H x y v u AQ Q R r1 r2 ⟨n, m, xs, rfl, rfl, hn, hm, q⟩ C
  cases r1 with
  | rf h1 =>
    cases r2 with
    | rf h2 =>
      obtain ⟨a, e1, vs, k1, w1⟩ := R.at n _ hn
      obtain ⟨b, e2, us, k2, w2⟩ := R.at m _ hm
      rw [h1] at e1; cases e1
      rw [h2] at e2; cases e2
      cases w2
      have e : vs.isEmpty = xs.isEmpty := by cases w1 <;> rfl
      exact ⟨_, _, vs, rfl, rfl, .inl (.inl k1), .inl (.inl k2), C θ η H _ _ .refl R .bl (by rw [e]; exact q)⟩
theorem xo_neNil (hK : X.K = K) (hu : X.A.units + 64 < cLine) : XO K X (compareOp .NotEq) (kEqNil true) := by
  refine ⟨_, op_neNil hK hu, ?_⟩
  rintro θ η H x y v u AQ Q R r1 r2 ⟨n, m, xs, rfl, rfl, hn, hm, q⟩ C
  cases r1 with
  | rf h1 =>
    cases r2 with
    | rf h2 =>
      obtain ⟨a, e1, vs, k1, w1⟩ := R.at n _ hn
      obtain ⟨b, e2, us, k2, w2⟩ := R.at m _ hm
      rw [h1] at e1; cases e1
      rw [h2] at e2; cases e2
      cases w2
      have e : vs.isEmpty = xs.isEmpty := by cases w1 <;> rfl
      exact ⟨_, _, vs, rfl, rfl, .inl (.inl k1), .inl (.inl k2), C θ η H _ _ .refl R .bl (by rw [e]; exact q)⟩
end
end Ab

/-! try .. except A as e: .. except B as e: ..: several clauses, with names or without. -/
namespace L2
open PySem PySem.Spec PyProof.Rows
/-- a clause: the class it names, the slot of its own name, what its suite does -/
structure Clause where
  c : Value
  i : Option Nat
  ts : Addr → Value → Option Addr → TS
def endC : Option Nat → Ends → Ends
  | none, D => D
  | some i, D => { nx := fun σ' H' => D.nx (σ'.set i none) H', rt := D.rt, bk := fun σ' H' => D.bk (σ'.set i none) H', ct := fun σ' H' => D.ct (σ'.set i none) H' }
def setC (a : Addr) : Option Nat → St → St
  | none, σ => σ
  | some i, σ => σ.set i (some (.ref a))
/-- what clauses, one behind the other, wish of an exception -/
def wCl (K : PySem.W.Frag) (Wout : WX) (D : Ends) : List Clause → WX
  | [] => Wout
  | q :: r => fun cls d σ H => ∃ b, PySem.W.exmOne K cls q.c = some b ∧ (b = true → ∀ a, H a = none → q.ts a cls d (endC q.i D) (setC a q.i σ) H) ∧ (b = false → wCl K Wout D r cls d σ H)
inductive ClOk (X : Cx) : List ExceptHandler → List Clause → Prop
  | nil : ClOk X [] []
  | as {x n : Str} {i : Nat} {c : Value} {ts : Addr → Value → Option Addr → TS} {b₀ : Stmt} {suite : List Stmt} {np pos' : Pos} {hds : List ExceptHandler} {l : List Clause} (hi : X.N[i]? = some n) (hln : X.env.kindOf n = some .local) (hc : Names X x c)
      (hsu : ∀ (a : Addr) (oe : Obj) (cls : Value) (d : Option Addr) (pn : List (Addr × Obj)), Zc cls d oe → (∃ vs, oe.data = .fields vs) → PSs (X.suite a ((a, oe) :: pn)) (b₀ :: suite) (ts a cls d)) (r : ClOk X hds l) :
      ClOk X (.ExceptHandler (some (.Name x np)) (some n) (b₀ :: suite) pos' :: hds) (⟨c, some i, ts⟩ :: l)
  | un {x : Str} {c : Value} {ts : Addr → Value → Option Addr → TS} {b₀ : Stmt} {suite : List Stmt} {np pos' : Pos} {hds : List ExceptHandler} {l : List Clause} (hc : Names X x c)
      (hsu : ∀ (a : Addr) (oe : Obj) (cls : Value) (d : Option Addr) (pn : List (Addr × Obj)), Zc cls d oe → (∃ vs, oe.data = .fields vs) → PSs (X.suite a ((a, oe) :: pn)) (b₀ :: suite) (ts a cls d)) (r : ClOk X hds l) :
      ClOk X (.ExceptHandler (some (.Name x np)) none (b₀ :: suite) pos' :: hds) (⟨c, none, ts⟩ :: l)
section
variable {X : Cx} {body : List Stmt} {h₀ : ExceptHandler} {hds : List ExceptHandler} {l : List Clause} {pos : Pos} {tb : WX → TS} {Wout : WX}
theorem ps_try_cl (hs : X.stack = X.env :: X.outer) (hf : X.env.frame = some X.env.locals) (hN : X.N.Nodup) (tk : Takes X Wout)
    (hb : ∀ (W : WX) (pn : List (Addr × Obj)) (xe : Value → Shared → Prop), Takes (X.tr pn xe) W → PassesOwn (model X.prog X.w) X.A X.env xe → PSs (X.tr pn xe) body (tb W))
    (hh : ClOk X (h₀ :: hds) l) : PS X (.Try body (h₀ :: hds) [] [] pos) (fun D σ H => tb (wCl X.K Wout D l) D σ H) := by
  refine ⟨fun pins s σ H D I h => ?_⟩
  have ok := I.ok
  have hfr : X.A.frames = some (X.env :: X.outer) := by rw [ok.frames, hs]
  refine wpAny_Try_except ?_
  refine wpAny_mono ((hb (wCl X.K Wout D l) (X.pn ++ pins) (fun e s₁ => wpAny (model X.prog X.w) X.A (noteFrame e X.env) (fun _ s₂ => wpAny (model X.prog X.w) X.A (setFlight e none) (fun _ s₃ =>
    wpAny (model X.prog X.w) X.A (handleBy e X.env (h₀ :: hds)) (SP X pins D) X.xe s₃) X.xe s₂) X.xe s₁) (fun u s' xx => ?_) PassesOwn.looking).run [] s σ H D (I.toTry _) h) (fun f s1 hsp => ?_) (fun e s1 he => he)
  rotate_left
  · cases f with
    | ret u =>
      obtain ⟨v, σ', H', J', r, q⟩ := hsp
      exact ⟨v, σ', H', J'.ofTry ok, r, q⟩
    | next =>
      obtain ⟨σ', H', J', q⟩ := hsp
      exact wpAny_execs_nil ⟨σ', H', J'.ofTry ok, q⟩
    | brk =>
      obtain ⟨σ', H', J', q⟩ := hsp
      exact ⟨σ', H', J'.ofTry ok, q⟩
    | cont =>
      obtain ⟨σ', H', J', q⟩ := hsp
      exact ⟨σ', H', J'.ofTry ok, q⟩
  obtain ⟨a, B, sI, pins', σ', H', cls, d, rfl, J', nb, up, sky, na, os, ag, w⟩ := xx
  have J : Inv X pins σ' H' sI := J'.ofTry ok
  have sky' : Sky B (X.env :: X.outer) a (Zc cls d) X.env.locals s'.heap := by rw [← hs]; exact sky
  show wpAny (model X.prog X.w) X.A (noteFrame (.ref a) X.env) _ _ _
  refine Sky.land Zc.steady hfr hf sky' fun h3 fl3 up3 => ?_
  have J3 : Inv X pins σ' H' { s' with heap := h3 } := J.landed nb fl3.1 (up.trans up3) os ag
  obtain ⟨oe3, vs3, he3, hz3, hd3⟩ := fl3.there
  have nfr : a ∉ frs (X.env :: X.outer) := fun hm => by
    obtain ⟨_, o', e', hnf⟩ := fl3.2.2.1.mem hm
    rw [he3] at e'; cases e'
    exact hnf _ hd3
  have nL : a ≠ X.env.locals := fun z => nfr (List.mem_filterMap.mpr ⟨X.env, List.mem_cons_self, by rw [hf, z]⟩)
  have nF : a ∉ X.fs := fun hm => by
    obtain ⟨e, he, q⟩ := List.mem_filterMap.mp hm
    exact nfr (List.mem_filterMap.mpr ⟨e, List.mem_cons_of_mem _ he, q⟩)
  have S3 := J3.suite he3 hd3 na nL nF
  have test : ∀ {x : Str} {c : Value} {np : Pos} {Q : Value → Shared → Prop} {E : Value → Shared → Prop}, Names X x c → Q c { s' with heap := h3 } → wpAny (model X.prog X.w) (X.A.mark (some (.ref a))) (eval (.Name x np) X.env) Q E { s' with heap := h3 } := fun {x c np Q E} hc q => by
    obtain ⟨hg, hdbg, hm | ⟨hm, hv, hnn⟩⟩ := hc
    · exact ld_glob (X := X.suite a ((a, oe3) :: (X.pn ++ pins))) S3 hg hm q hdbg
    · exact ld_blt (X := X.suite a ((a, oe3) :: (X.pn ++ pins))) S3 hg hm hv q hnn hdbg
  have LT : PySem.W.Looks (model X.prog X.w) h3 (typeOf (.ref a)) cls := fun A Q E s k q => wpAny_typeOf_ref (k _ _ he3) (by rw [hz3.1]; exact q)
  have go : ∀ {hds' : List ExceptHandler} {l' : List Clause}, ClOk X hds' l' → wCl X.K Wout D l' cls d σ' H' → wpAny (model X.prog X.w) X.A (handleBy (.ref a) X.env hds') (SP X pins D) X.xe { s' with heap := h3 } := by
    intro hds' l' hk
    induction hk with
    | nil =>
      intro w
      refine wpAny_handleBy_nil ?_
      obtain ⟨k1, k2, k3, oe, vs, T, oT, ts', he, hz, hd, h1, hr⟩ := id fl3
      unfold PySem.passOn
      refine wpAny_bind (wpAny_field he hd h1 ?_)
      rw [if_neg (show ¬ ((Value.ref T == Value.none) = true) from by simp)]
      have fin : wpAny (model X.prog X.w) X.A (setFlight (.ref a) X.env.frame) (fun _ s4 => wpAny (model X.prog X.w) X.A (throw (.ref a) : Sem Flow) (SP X pins D) X.xe s4) X.xe { s' with heap := h3 } := by
        rw [hf]
        refine HandSPX.setFlight_upZ fl3 fun h4 hh4 up4 => wpAny_throw (tk _ _ ?_)
        exact ⟨a, B, sI, pins, σ', H', cls, d, rfl, J, nb, (up.trans up3).trans up4, .inr (.inr (by rw [hs]; exact hh4)), na, os, ag, w⟩
      first
        | exact wpAny_bind (wpAny_pure (wpAny_bind fin))
        | exact wpAny_bind fin
    | @as x n i c ts b₀ suite np pos' hds2 l2 hi hln hc hsu r ih =>
      rintro ⟨b, hb1, hyes, hno⟩
      refine wpAny_handleBy_cons (codeAny_handlers_test ?_) (by intro q; cases q)
      have LM := PySem.W.exm_one (M := model X.prog X.w) (J3.kIn) LT hb1
      refine test hc (LM.here ?_)
      cases b with
      | false => exact ih (hno rfl)
      | true =>
        refine codeAny_handlers_suite_as ?_
        refine HandSPX.lands_againZ fl3 fun h4 fl4 up4 => ?_
        have J4 : Inv X pins σ' H' { s' with heap := h4 } := J.landed nb fl4.1 ((up.trans up3).trans up4) os ag
        obtain ⟨oe4, vs4, he4, hz4, hd4⟩ := fl4.there
        refine store_ok (X := X.suite a ((a, oe4) :: (X.pn ++ pins))) (v := .ref a) (J4.suite he4 hd4 na nL nF) hN hi (.inl hln) rfl (fun s5 S5 => ?_) (.inr hln)
        refine wpAny_mono ((hsu a oe4 cls d (X.pn ++ pins) hz4 ⟨_, hd4⟩).run [] s5 _ H' _ S5 (hyes rfl a na)) (fun f s6 hsp => ?_) (fun _ _ z => False.elim z)
        have fin : ∀ {σ6 : St} {H6 : Hp} {Q : Shared → Prop}, Inv (X.suite a ((a, oe4) :: (X.pn ++ pins))) [] σ6 H6 s6 → (∀ s7, Inv X pins (σ6.set i none) H6 s7 → Q s7) →
            wpAny (model X.prog X.w) X.A (do bindName X.env n .none; unbindBehindTheSuite X.env n pos') (fun _ s7 => Q s7) X.xe s6 := fun S6 hq => gone_ok (S6.unsuite ok) hN hi hln hq
        cases f with
        | ret u =>
          obtain ⟨v6, σ6, H6, S6, r6, q6⟩ := hsp
          exact fin S6 fun s7 J7 => ⟨_, _, _, J7, r6, q6⟩
        | next =>
          obtain ⟨σ6, H6, S6, q6⟩ := hsp
          exact fin S6 fun s7 J7 => ⟨_, _, J7, q6⟩
        | brk =>
          obtain ⟨σ6, H6, S6, q6⟩ := hsp
          exact fin S6 fun s7 J7 => ⟨_, _, J7, q6⟩
        | cont =>
          obtain ⟨σ6, H6, S6, q6⟩ := hsp
          exact fin S6 fun s7 J7 => ⟨_, _, J7, q6⟩
    | @un x c ts b₀ suite np pos' hds2 l2 hc hsu r ih =>
      rintro ⟨b, hb1, hyes, hno⟩
      refine wpAny_handleBy_cons (codeAny_handlers_test ?_) (by intro q; cases q)
      have LM := PySem.W.exm_one (M := model X.prog X.w) (J3.kIn) LT hb1
      refine test hc (LM.here ?_)
      cases b with
      | false => exact ih (hno rfl)
      | true =>
        refine codeAny_handlers_suite ?_
        refine HandSPX.lands_againZ fl3 fun h4 fl4 up4 => ?_
        have J4 : Inv X pins σ' H' { s' with heap := h4 } := J.landed nb fl4.1 ((up.trans up3).trans up4) os ag
        obtain ⟨oe4, vs4, he4, hz4, hd4⟩ := fl4.there
        refine wpAny_mono ((hsu a oe4 cls d (X.pn ++ pins) hz4 ⟨_, hd4⟩).run [] _ _ H' _ (J4.suite he4 hd4 na nL nF) (hyes rfl a na)) (fun f s6 hsp => ?_) (fun _ _ z => False.elim z)
        cases f with
        | ret u =>
          obtain ⟨v6, σ6, H6, S6, r6, q6⟩ := hsp
          exact ⟨_, _, _, S6.unsuite ok, r6, q6⟩
        | next =>
          obtain ⟨σ6, H6, S6, q6⟩ := hsp
          exact ⟨_, _, S6.unsuite ok, q6⟩
        | brk =>
          obtain ⟨σ6, H6, S6, q6⟩ := hsp
          exact ⟨_, _, S6.unsuite ok, q6⟩
        | cont =>
          obtain ⟨σ6, H6, S6, q6⟩ := hsp
          exact ⟨_, _, S6.unsuite ok, q6⟩
  exact go hh w
end
end L2
namespace Ab
open PySem PySem.Spec PyProof.Rows L2 MyB MyR MyD
structure ACl where
  C : Addr
  i : Option Nat
  ts : Addr → AX → AS
def endA : Option Nat → AEnds → AEnds
  | none, D => D
  | some i, D => { nx := fun ρ2 η2 => D.nx (ρ2.set i none) η2, rt := D.rt, bk := fun ρ2 η2 => D.bk (ρ2.set i none) η2, ct := fun ρ2 η2 => D.ct (ρ2.set i none) η2 }
def setA (a : Addr) : Option Nat → Sta → Sta
  | none, ρ => ρ
  | some i, ρ => ρ.set i (some (.gl a))
def wClA (K : PySem.W.Frag) (AWout : AWish) (D : AEnds) : List ACl → AWish
  | [] => AWout
  | q :: r => fun x ρ η => ∃ b, PySem.W.exmOne K (.ref x.1) (.ref q.C) = some b ∧ (b = true → ∀ a, q.ts a x (endA q.i D) (setA a q.i ρ) η) ∧ (b = false → wClA K AWout D r x ρ η)
def asTryN (K : PySem.W.Frag) (l : List ACl) (tb : AWish → AS) (AWout : AWish) : AS := fun D ρ η => tb (wClA K AWout D l) D ρ η
inductive AClOk (K : KG) (X : Cx) : List ExceptHandler → List ACl → Prop
  | nil : AClOk K X [] []
  | as {x n : Str} {i : Nat} {C : Addr} {ts : Addr → AX → AS} {b₀ : Stmt} {suite : List Stmt} {np pos' : Pos} {hds : List ExceptHandler} {l : List ACl} (hi : X.N[i]? = some n) (hln : X.env.kindOf n = some .local) (hc : Names X x (.ref C))
      (hsu : ∀ (a : Addr) (oe : Obj) (cls : Value) (d : Option Addr) (pn : List (Addr × Obj)), Zc cls d oe → (∃ vs, oe.data = .fields vs) → ∀ y, XSs (K.exc y cls d) (X.suite a ((a, oe) :: pn)) (b₀ :: suite) (ts a y)) (r : AClOk K X hds l) :
      AClOk K X (.ExceptHandler (some (.Name x np)) (some n) (b₀ :: suite) pos' :: hds) (⟨C, some i, ts⟩ :: l)
  | un {x : Str} {C : Addr} {ts : Addr → AX → AS} {b₀ : Stmt} {suite : List Stmt} {np pos' : Pos} {hds : List ExceptHandler} {l : List ACl} (hc : Names X x (.ref C))
      (hsu : ∀ (a : Addr) (oe : Obj) (cls : Value) (d : Option Addr) (pn : List (Addr × Obj)), Zc cls d oe → (∃ vs, oe.data = .fields vs) → ∀ y, XSs (K.exc y cls d) (X.suite a ((a, oe) :: pn)) (b₀ :: suite) (ts a y)) (r : AClOk K X hds l) :
      AClOk K X (.ExceptHandler (some (.Name x np)) none (b₀ :: suite) pos' :: hds) (⟨C, none, ts⟩ :: l)
def liC (K : KG) (q : ACl) : Clause := ⟨.ref q.C, q.i, liS K q.ts⟩
section
variable {K : KG} {X : Cx} {body : List Stmt} {h₀ : ExceptHandler} {hds : List ExceptHandler} {l : List ACl} {pos : Pos} {tb : AWish → AS} {Wout : WX} {AWout : AWish}
theorem AClOk.lift (h : AClOk K X hds l) : ClOk X hds (l.map (liC K)) := by
  induction h with
  | nil => exact .nil
  | as hi hln hc hsu r ih => exact .as hi hln hc (fun a oe cls d pn z v => liS_ok (hsu a oe cls d pn z v)) ih
  | un hc hsu r ih => exact .un hc (fun a oe cls d pn z v => liS_ok (hsu a oe cls d pn z v)) ih
theorem Ce.endC {θ : Th} {H : Hp} {A : AEnds} {D : Ends} (h : Ce K θ H A D) : ∀ i : Option Nat, Ce K θ H (endA i A) (endC i D)
  | none => h
  | some i => ⟨fun θ2 η2 H2 ρ2 σ2 e2 R2 S2 q => h.nx θ2 η2 H2 _ _ e2 R2 (S2.del i) q, h.rt, fun θ2 η2 H2 ρ2 σ2 e2 R2 S2 q => h.bk θ2 η2 H2 _ _ e2 R2 (S2.del i) q, fun θ2 η2 H2 ρ2 σ2 e2 R2 S2 q => h.ct θ2 η2 H2 _ _ e2 R2 (S2.del i) q⟩
theorem Rst.setC {K : PySem.W.Frag} {θ : Th} {H : Hp} {ρ : Sta} {σ : L2.St} (h : Rst K θ H ρ σ) (a : Addr) : ∀ i : Option Nat, Rst K θ H (setA a i ρ) (setC a i σ)
  | none => h
  | some _ => h.set .gl
theorem gw_cl (hK : X.K = K.k) {θ : Th} {H : Hp} {A : AEnds} {D : Ends} (Cc : Ce K θ H A D) (hout : GW K AWout Wout θ H) : ∀ l : List ACl, GW K (wClA K.k AWout A l) (wCl X.K Wout D (l.map (liC K))) θ H
  | [] => hout
  | q :: r => fun θ' η' H' ρ' σ' y cls d e R' S' rx ⟨b, h1, h2, h3⟩ =>
    ⟨b, by rw [hK, rx.1]; exact h1, fun hb a _ => ⟨y, θ', _, η', _, R'.toexc rx, S'.setC a q.i, h2 hb a, ((Cc.ext e).endC q.i).toexc⟩, fun hb => gw_cl hK Cc hout r θ' η' H' ρ' σ' y cls d e R' S' rx (h3 hb)⟩
theorem xs_tryN (hs : X.stack = X.env :: X.outer) (hf : X.env.frame = some X.env.locals) (hK : X.K = K.k) (hN : X.N.Nodup) (tk : Takes X Wout)
    (hout : ∀ θ H, K.G θ H → GW K AWout Wout θ H)
    (hb : ∀ (W : WX) (pn : List (Addr × Obj)) (xe : Value → Shared → Prop), Takes (X.tr pn xe) W → PassesOwn (model X.prog X.w) X.A X.env xe → ∀ AW, XSs (K.wish AW W) (X.tr pn xe) body (tb AW))
    (hh : AClOk K X (h₀ :: hds) l) : XS K X (.Try body (h₀ :: hds) [] [] pos) (asTryN K.k l tb AWout) := by
  refine ⟨_, ps_try_cl (tb := fun W => liB K W tb) hs hf hN tk (fun W pn xe t1 po => liB_ok (hb W pn xe t1 po)) hh.lift, ?_⟩
  intro θ ρ η σ H A D R S h Cc
  exact ⟨_, θ, ρ, η, A, R.towish (gw_cl hK Cc (hout θ H R.gh) l), S, h, Cc.towish⟩
end
section
variable {K : PySem.W.Frag} {l : List ACl} {tb : AWish → AS} {AWout : AWish} {D : AEnds} {ρ : Sta} {η : Eta}
theorem s_tryN (k : tb (wClA K AWout D l) D ρ η) : asTryN K l tb AWout D ρ η := k
/-- the clauses, one after the other -/
theorem w_no {q : ACl} {r : List ACl} {x : AX} (e : PySem.W.exmOne K (.ref x.1) (.ref q.C) = some false) (k : wClA K AWout D r x ρ η) : wClA K AWout D (q :: r) x ρ η := ⟨false, e, fun z => (by cases z), fun _ => k⟩
theorem w_as {C : Addr} {i : Nat} {ts : Addr → AX → AS} {r : List ACl} {x : AX} (e : PySem.W.exmOne K (.ref x.1) (.ref C) = some true)
    (k : ∀ a, ts a x { nx := fun ρ2 η2 => D.nx (ρ2.set i none) η2, rt := D.rt, bk := fun ρ2 η2 => D.bk (ρ2.set i none) η2, ct := fun ρ2 η2 => D.ct (ρ2.set i none) η2 } (ρ.set i (some (.gl a))) η) : wClA K AWout D (⟨C, some i, ts⟩ :: r) x ρ η := ⟨true, e, fun _ => k, fun z => (by cases z)⟩
theorem w_un {C : Addr} {ts : Addr → AX → AS} {r : List ACl} {x : AX} (e : PySem.W.exmOne K (.ref x.1) (.ref C) = some true) (k : ∀ a, ts a x D ρ η) : wClA K AWout D (⟨C, none, ts⟩ :: r) x ρ η := ⟨true, e, fun _ => k, fun z => (by cases z)⟩
end
end Ab

/-! a global text -/
namespace Ab
open PySem PySem.Spec PyProof.Rows L2 MyB MyR MyD
section
variable {K : KG} {X : Cx} {pos : Pos}
theorem xe_globS {x s : Str} {t : Tok} (hg : Gl X x) (hm : X.mg x = some (.str s t)) (hd : (x == ("__debug__" : Str)) = false := by decide) : XE K X (.Name x pos) (aC (.str s)) := ⟨_, pe_glob (v := .str s) hg hm ⟨t, rfl⟩ hd, .cst fun _ _ => .str⟩
end
end Ab

/-! data of whole numbers, texts, None and tuples of such: told as equal just if they are. -/
namespace Ab
open PySem PySem.Spec PyProof.Rows L2 MyB MyR MyD MyC
inductive NmS : Nat → AV → Prop
  | int {n i} : NmS n (.int i)
  | non {n} : NmS n .non
  | str {n s} : (PyData.str s).canLay0 = true → NmS n (.str s)
  | tup {n xs} : (∀ x ∈ xs, NmS n x) → NmS (n + 1) (.tup xs)
theorem pls_of : ∀ {xs : List AV}, (∀ x ∈ xs, Pl x) → Pls xs
  | [], _ => .nil
  | x :: xs, h => .cons (h x List.mem_cons_self) (pls_of fun y hy => h y (List.mem_cons_of_mem _ hy))
theorem NmS.pl {n : Nat} {x : AV} (h : NmS n x) : Pl x := by
  induction h with
  | int => exact .int
  | non => exact .non
  | str => exact .str
  | tup h ih => exact .tup (pls_of ih)
theorem NmS.shp {n : Nat} {x : AV} (h : NmS n x) : Shp (dat x) n := by
  induction h with
  | int => rw [dat]; exact shp_int
  | non => exact shp_none
  | str h => rw [dat]; exact ⟨h, by simp [PyData.depth]⟩
  | tup h ih =>
    rw [dat]
    refine shp_tup fun d hd => ?_
    obtain ⟨x, hx, rfl⟩ := mem_datL hd
    exact ih x hx
theorem eqvAll_of : ∀ {xs ys : List AV}, (∀ x ∈ xs, ∀ y, y ∈ ys → (PyData.eqv (dat x) (dat y) = true ↔ x = y)) → (PyData.eqvAll (datL xs) (datL ys) = true ↔ xs = ys)
  | [], [], _ => by simp [datL, PyData.eqvAll]
  | [], _ :: _, _ => by simp [datL, PyData.eqvAll]
  | _ :: _, [], _ => by simp [datL, PyData.eqvAll]
  | x :: xs, y :: ys, h => by
    have i := eqvAll_of (xs := xs) (ys := ys) fun a ha b hb => h a (List.mem_cons_of_mem _ ha) b (List.mem_cons_of_mem _ hb)
    have j := h x List.mem_cons_self y List.mem_cons_self
    show PyData.eqvAll (dat x :: datL xs) (dat y :: datL ys) = true ↔ _
    rw [PyData.eqvAll, Bool.and_eq_true, i, j, List.cons.injEq]
theorem NmS.eqv {n : Nat} {x : AV} (hx : NmS n x) : ∀ {m : Nat} {y : AV}, NmS m y → (PyData.eqv (dat x) (dat y) = true ↔ x = y) := by
  induction hx with
  | int =>
    intro m y hy
    cases hy with
    | int => rw [dat, dat, PyData.eqv]; simp
    | _ => simp [dat, PyData.eqv]
  | non =>
    intro m y hy
    cases hy with
    | _ => simp [dat, PyData.eqv]
  | str =>
    intro m y hy
    cases hy with
    | str => rw [dat, dat, PyData.eqv]; simp
    | _ => simp [dat, PyData.eqv]
  | tup h ih =>
    intro m y hy
    cases hy with
    | tup h2 =>
      rw [dat, dat, PyData.eqv, eqvAll_of fun a ha b hb => ih a ha (h2 b hb)]
      simp
    | _ => simp [dat, PyData.eqv]
theorem NmD.ns {n : Nat} {x : AV} (h : NmD n x) : NmS n x := by
  induction h with
  | int => exact .int
  | non => exact .non
  | tup h ih => exact .tup ih
theorem NmS.two {n : Nat} {a b : AV} (ha : NmS n a) (hb : NmS n b) : NmS (n + 1) (.tup [a, b]) := .tup fun x hx => by
  simp only [List.mem_cons, List.not_mem_nil, or_false] at hx
  rcases hx with rfl | rfl <;> assumption
theorem NmS.three {n : Nat} {a b c : AV} (ha : NmS n a) (hb : NmS n b) (hc : NmS n c) : NmS (n + 1) (.tup [a, b, c]) := .tup fun x hx => by
  simp only [List.mem_cons, List.not_mem_nil, or_false] at hx
  rcases hx with rfl | rfl | rfl <;> assumption
theorem NmS.map {α : Type} {f : α → AV} {n : Nat} {L : List α} (h : ∀ a ∈ L, NmS n (f a)) : NmS (n + 1) (.tup (L.map f)) := .tup fun x hx => by
  obtain ⟨a, ha, rfl⟩ := List.mem_map.mp hx
  exact h a ha
theorem NmS.up {n : Nat} {x : AV} (h : NmS n x) : NmS (n + 1) x := by
  induction h with
  | int => exact .int
  | non => exact .non
  | str h => exact .str h
  | tup h ih => exact .tup ih
section
variable {η : Eta} {Q : AK} {x y : AV} {n m : Nat} {p : Prop} [Decidable p]
theorem eqv_ns (hx : NmS n x) (hy : NmS m y) (e : x = y ↔ p) : PyData.eqv (dat x) (dat y) = decide p := by
  rw [Bool.eq_iff_iff, hx.eqv hy, e, decide_eq_true_eq]
theorem s_eqGS (hx : NmS n x) (hy : NmS m y) (e : x = y ↔ p) (k : Q (.bl (decide p)) η) (hn : n ≤ 64 := by decide) (hm : m ≤ 64 := by decide) : kEqG x y η Q :=
  ⟨_, _, .pl hx.pl, .pl hy.pl, hx.shp.ok hn, hy.shp.ok hm, by rw [eqv_ns hx hy e]; exact k⟩
theorem s_neGS (hx : NmS n x) (hy : NmS m y) (e : x = y ↔ p) (k : Q (.bl (!decide p)) η) (hn : n ≤ 64 := by decide) (hm : m ≤ 64 := by decide) : kNeG x y η Q :=
  ⟨_, _, .pl hx.pl, .pl hy.pl, hx.shp.ok hn, hy.shp.ok hm, by rw [eqv_ns hx hy e]; exact k⟩
end
end Ab

namespace Law
open PySem L2
def top (i : Nat) : Stmt := PySem.Challenge.pw_willinglift_k18_whole_moves_as_logs.main.body.getD i (.Pass ⟨0, 0, 0, 0⟩)
abbrev s_BadHouse___init__ : Stmt := inClass (top 2) 0
abbrev N_BadHouse___init__ : List Str := ["self", "part"]
abbrev s_TooMany___init__ : Stmt := inClass (top 3) 0
abbrev N_TooMany___init__ : List Str := ["self", "limit"]
abbrev s_is_integer : Stmt := top 8
abbrev N_is_integer : List Str := ["thing"]
theorem sc_is_integer : FnScope ["thing"] ["thing"] (defScope s_is_integer) := ⟨rfl, rfl, rfl, by decide +kernel, rfl, by decide +kernel, by decide +kernel⟩
abbrev s_is_within : Stmt := top 9
abbrev N_is_within : List Str := ["thing", "least", "most"]
theorem sc_is_within : FnScope ["thing", "least", "most"] ["thing", "least", "most"] (defScope s_is_within) := ⟨rfl, rfl, rfl, by decide +kernel, rfl, by decide +kernel, by decide +kernel⟩
abbrev s_House___init__ : Stmt := inClass (top 10) 0
abbrev N_House___init__ : List Str := ["self", "floors", "room"]
theorem sc_House___init__ : FnScope ["self", "floors", "room"] ["self", "floors", "room"] (defScope s_House___init__) := ⟨rfl, rfl, rfl, by decide +kernel, rfl, by decide +kernel, by decide +kernel⟩
abbrev s_House___eq__ : Stmt := inClass (top 10) 1
abbrev N_House___eq__ : List Str := ["self", "other"]
theorem sc_House___eq__ : FnScope ["self", "other"] ["self", "other"] (defScope s_House___eq__) := ⟨rfl, rfl, rfl, by decide +kernel, rfl, by decide +kernel, by decide +kernel⟩
abbrev s_is_way : Stmt := top 14
abbrev N_is_way : List Str := ["thing"]
theorem sc_is_way : FnScope ["thing"] ["thing"] (defScope s_is_way) := ⟨rfl, rfl, rfl, by decide +kernel, rfl, by decide +kernel, by decide +kernel⟩
abbrev s_is_aboard : Stmt := top 15
abbrev N_is_aboard : List Str := ["thing", "pair", "one", "other"]
theorem sc_is_aboard : FnScope ["thing", "pair", "one", "other"] ["thing"] (defScope s_is_aboard) := ⟨rfl, rfl, rfl, by decide +kernel, rfl, by decide +kernel, by decide +kernel⟩
abbrev s_is_built_move : Stmt := top 16
abbrev N_is_built_move : List Str := ["thing"]
theorem sc_is_built_move : FnScope ["thing"] ["thing"] (defScope s_is_built_move) := ⟨rfl, rfl, rfl, by decide +kernel, rfl, by decide +kernel, by decide +kernel⟩
abbrev s_is_rounds : Stmt := top 23
abbrev N_is_rounds : List Str := ["thing"]
theorem sc_is_rounds : FnScope ["thing"] ["thing"] (defScope s_is_rounds) := ⟨rfl, rfl, rfl, by decide +kernel, rfl, by decide +kernel, by decide +kernel⟩
abbrev s_written_in : Stmt := top 24
abbrev N_written_in : List Str := ["thing", "waiting", "found", "log", "depth", "item"]
theorem sc_written_in : FnScope ["thing", "waiting", "found", "log", "depth", "item"] ["thing"] (defScope s_written_in) := ⟨rfl, rfl, rfl, by decide +kernel, rfl, by decide +kernel, by decide +kernel⟩
abbrev s_check_built : Stmt := top 25
abbrev N_check_built : List Str := ["log"]
theorem sc_check_built : FnScope ["log"] ["log"] (defScope s_check_built) := ⟨rfl, rfl, rfl, by decide +kernel, rfl, by decide +kernel, by decide +kernel⟩
abbrev s_count_of : Stmt := top 26
abbrev N_count_of : List Str := ["log", "found", "item"]
theorem sc_count_of : FnScope ["log", "found", "item"] ["log"] (defScope s_count_of) := ⟨rfl, rfl, rfl, by decide +kernel, rfl, by decide +kernel, by decide +kernel⟩
abbrev s_length_of : Stmt := top 27
abbrev N_length_of : List Str := ["log"]
theorem sc_length_of : FnScope ["log"] ["log"] (defScope s_length_of) := ⟨rfl, rfl, rfl, by decide +kernel, rfl, by decide +kernel, by decide +kernel⟩
abbrev s_out_of : Stmt := top 28
abbrev N_out_of : List Str := ["log", "found", "item"]
theorem sc_out_of : FnScope ["log", "found", "item"] ["log"] (defScope s_out_of) := ⟨rfl, rfl, rfl, by decide +kernel, rfl, by decide +kernel, by decide +kernel⟩
abbrev s_written_out : Stmt := top 29
abbrev N_written_out : List Str := ["log"]
theorem sc_written_out : FnScope ["log"] ["log"] (defScope s_written_out) := ⟨rfl, rfl, rfl, by decide +kernel, rfl, by decide +kernel, by decide +kernel⟩
abbrev s_as_log : Stmt := top 30
abbrev N_as_log : List Str := ["moves", "move", "found", "many"]
theorem sc_as_log : FnScope ["moves", "move", "found", "many"] ["moves"] (defScope s_as_log) := ⟨rfl, rfl, rfl, by decide +kernel, rfl, by decide +kernel, by decide +kernel⟩
abbrev s__law_hand : Stmt := top 32
abbrev N__law_hand : List Str := ["_law_script", "_law_cells", "_law_cell"]
theorem sc__law_hand : FnScope ["_law_script", "_law_cells", "_law_cell"] ["_law_script"] (defScope s__law_hand) := ⟨rfl, rfl, rfl, by decide +kernel, rfl, by decide +kernel, by decide +kernel⟩
abbrev s__law_draw : Stmt := top 33
abbrev N__law_draw : List Str := ["_law_hand_here", "_law_many", "_law_cell", "_law_digit", "_law_number"]
theorem sc__law_draw : FnScope ["_law_hand_here", "_law_many", "_law_cell", "_law_digit", "_law_number"] ["_law_hand_here", "_law_many"] (defScope s__law_draw) := ⟨rfl, rfl, rfl, by decide +kernel, rfl, by decide +kernel, by decide +kernel⟩
abbrev s__law_deep : Stmt := top 34
abbrev N__law_deep : List Str := ["_law_kind", "_law_found", "_law_turn"]
theorem sc__law_deep : FnScope ["_law_kind", "_law_found", "_law_turn"] ["_law_kind"] (defScope s__law_deep) := ⟨rfl, rfl, rfl, by decide +kernel, rfl, by decide +kernel, by decide +kernel⟩
abbrev s__law_is_int : Stmt := top 35
abbrev N__law_is_int : List Str := ["_law_thing", "_law_least", "_law_most"]
theorem sc__law_is_int : FnScope ["_law_thing", "_law_least", "_law_most"] ["_law_thing", "_law_least", "_law_most"] (defScope s__law_is_int) := ⟨rfl, rfl, rfl, by decide +kernel, rfl, by decide +kernel, by decide +kernel⟩
abbrev s__law_is_built : Stmt := top 36
abbrev N__law_is_built : List Str := ["_law_thing", "_law_k", "_law_pair"]
theorem sc__law_is_built : FnScope ["_law_thing", "_law_k", "_law_pair"] ["_law_thing"] (defScope s__law_is_built) := ⟨rfl, rfl, rfl, by decide +kernel, rfl, by decide +kernel, by decide +kernel⟩
abbrev s__law_bent_move : Stmt := top 37
abbrev N__law_bent_move : List Str := ["_law_hand_here", "_law_move", "_law_house", "_law_way", "_law_aboard", "_law_things", "_law_thing", "_law_kind", "_law_at", "_law_want", "_law_many", "_law_pair"]
theorem sc__law_bent_move : FnScope ["_law_hand_here", "_law_move", "_law_house", "_law_way", "_law_aboard", "_law_things", "_law_thing", "_law_kind", "_law_at", "_law_want", "_law_many", "_law_pair"] ["_law_hand_here", "_law_move", "_law_house"] (defScope s__law_bent_move) := ⟨rfl, rfl, rfl, by decide +kernel, rfl, by decide +kernel, by decide +kernel⟩
abbrev s__law_any_move : Stmt := top 38
abbrev N__law_any_move : List Str := ["_law_hand_here", "_law_known", "_law_turn"]
theorem sc__law_any_move : FnScope ["_law_hand_here", "_law_known", "_law_turn"] ["_law_hand_here"] (defScope s__law_any_move) := ⟨rfl, rfl, rfl, by decide +kernel, rfl, by decide +kernel, by decide +kernel⟩
abbrev s__law_moves : Stmt := top 39
abbrev N__law_moves : List Str := ["_law_hand_here", "_law_found", "_law_turn", "_law_row", "_law_k"]
theorem sc__law_moves : FnScope ["_law_hand_here", "_law_found", "_law_turn", "_law_row", "_law_k"] ["_law_hand_here"] (defScope s__law_moves) := ⟨rfl, rfl, rfl, by decide +kernel, rfl, by decide +kernel, by decide +kernel⟩
abbrev s__law_due : Stmt := top 40
abbrev N__law_due : List Str := ["_law_moves_here", "_law_found", "_law_at", "_law_place", "_law_many"]
theorem sc__law_due : FnScope ["_law_moves_here", "_law_found", "_law_at", "_law_place", "_law_many"] ["_law_moves_here"] (defScope s__law_due) := ⟨rfl, rfl, rfl, by decide +kernel, rfl, by decide +kernel, by decide +kernel⟩
abbrev s__law_told : Stmt := top 41
abbrev N__law_told : List Str := ["_law_moves_here", "_law_found", "e"]
theorem sc__law_told : FnScope ["_law_moves_here", "_law_found", "e"] ["_law_moves_here"] (defScope s__law_told) := ⟨rfl, rfl, rfl, by decide +kernel, rfl, by decide +kernel, by decide +kernel⟩
abbrev s__law_right : Stmt := top 42
abbrev N__law_right : List Str := ["_law_thing", "_law_move", "_law_due_here"]
theorem sc__law_right : FnScope ["_law_thing", "_law_move", "_law_due_here"] ["_law_thing"] (defScope s__law_right) := ⟨rfl, rfl, rfl, by decide +kernel, rfl, by decide +kernel, by decide +kernel⟩
abbrev s_law : Stmt := top 43
abbrev N_law : List Str := ["_law_script", "_law_hand_here", "_law_house", "_law_turn", "_law_moves_here", "_law_kind", "_law_at", "_law_things"]
theorem sc_law : FnScope ["_law_script", "_law_hand_here", "_law_house", "_law_turn", "_law_moves_here", "_law_kind", "_law_at", "_law_things"] ["_law_script"] (defScope s_law) := ⟨rfl, rfl, rfl, by decide +kernel, rfl, by decide +kernel, by decide +kernel⟩
end Law

namespace Law
open PySem L2 MyB MyR MyD Ab
section
variable {P : Program} {w : World} {K : PySem.W.Frag} {mg : Str → Option Value} {base : Heap}
theorem sc_BadHouse___init__ : FnScope N_BadHouse___init__ ["self", "part"] (defScope s_BadHouse___init__) := ⟨rfl, rfl, rfl, by decide +kernel, rfl, by decide +kernel, by decide +kernel⟩
theorem Y_err_BadHouse {E_BadHouse : Addr} (I_BadHouse : ErrI K mg "BadHouse" "BadHouse.__init__" s_BadHouse___init__ E_BadHouse "part") : ErrF P w K mg base "BadHouse" E_BadHouse "part" := by
  obtain ⟨ox, gC, nf, fI, fd, F, iC, tI⟩ := I_BadHouse
  refine ⟨ox, gC, fI, fd, iC, tI, F.ok sc_BadHouse___init__ (fun vs H Q E h => by obtain ⟨a, v, rfl, _⟩ := h; rfl) (fun cdv A outer s H vs Q E hr h => ?_), F.binds (ps := ["self", "part"]) fun _ _ _ _ _ _ us hl => match us, hl with | [_, _], _ => rfl⟩
  obtain ⟨a, v, rfl, ea, k⟩ := h
  refine ⟨_, pss_one (ps_ost (pv 0) (pv 1)), ?_⟩
  exact ⟨v, rfl, .ref a, rfl, a, E_BadHouse, rfl, ox, nf, .inl ⟨ea, fun dx h1 h2 => k dx h1 h2⟩⟩
theorem sc_TooMany___init__ : FnScope N_TooMany___init__ ["self", "limit"] (defScope s_TooMany___init__) := ⟨rfl, rfl, rfl, by decide +kernel, rfl, by decide +kernel, by decide +kernel⟩
theorem Y_err_TooMany {E_TooMany : Addr} (I_TooMany : ErrI K mg "TooMany" "TooMany.__init__" s_TooMany___init__ E_TooMany "limit") : ErrF P w K mg base "TooMany" E_TooMany "limit" := by
  obtain ⟨ox, gC, nf, fI, fd, F, iC, tI⟩ := I_TooMany
  refine ⟨ox, gC, fI, fd, iC, tI, F.ok sc_TooMany___init__ (fun vs H Q E h => by obtain ⟨a, v, rfl, _⟩ := h; rfl) (fun cdv A outer s H vs Q E hr h => ?_), F.binds (ps := ["self", "limit"]) fun _ _ _ _ _ _ us hl => match us, hl with | [_, _], _ => rfl⟩
  obtain ⟨a, v, rfl, ea, k⟩ := h
  refine ⟨_, pss_one (ps_ost (pv 0) (pv 1)), ?_⟩
  exact ⟨v, rfl, .ref a, rfl, a, E_TooMany, rfl, ox, nf, .inl ⟨ea, fun dx h1 h2 => k dx h1 h2⟩⟩
end
end Law

namespace Law
open PySem L2 MyB MyR MyD Ab
def hV (CH : Addr) (fl rm : Int) : AV := .ob CH [("floors", .int fl), ("room", .int rm)]
end Law

namespace Law
open PySem L2 MyB MyR MyD Ab
local macro_rules | `(tactic| walk_at "kp") => `(tactic| first | exact Kept.refl | (refine' Kept.put ?kpa ?kpb; (case kpb => (walk_at "nn")); (case kpa => (walk_at "kp"))) | (refine' Kept.back ?kpa ?kpb; (case kpb => assumption); (case kpa => (walk_at "kp"))))
local macro_rules | `(tactic| walk_at "nn") => `(tactic| first | assumption | (refine' Kept.none ?nna ?nnb; (case nnb => assumption); (case nna => (walk_at "kp"))))
local macro_rules | `(tactic| walk_at "en") => `(tactic| first | assumption | exact pt_same | ((repeat rw [pt_ne (by assumption)]); first | assumption | exact pt_same))
local macro_rules | `(tactic| walk_at "lo") => `(tactic| first | assumption | exact lo_rf (by walk_at "en") | exact Or.inr rfl)
local macro_rules | `(tactic| walk_at "nu") => `(tactic| with_unfolding_all (first | assumption | decide | exact ⟨by decide, by decide⟩ | exact .inr ⟨by decide, by decide⟩ | exact ⟨by decide, by decide, by decide⟩ | exact ⟨by omega, by omega⟩ | exact .inl ⟨by omega, by omega⟩ | exact .inr ⟨by omega, by omega⟩))
local macro_rules | `(tactic| walk_at "ad") => `(tactic| with_reducible (first
  | refine s_seq ?_ | refine s_asg ?_ | refine s_tryAs ?_ | refine s_tryOnly ?_ | refine s_raise ?_ | refine s_raise1 ?_ | refine s_callX ?_ | refine s_xf ?_ | refine s_op ?_ | refine s_un ?_
  | (refine' s_var ?rdh ?_; (case rdh => (with_unfolding_all rfl)))
  | refine s_c ?_ | refine s_add ?_ | refine s_II ?_ | refine s_IB ?_ | refine s_lt ?_ | refine s_U ?_ | refine s_eqI ?_ | refine s_neI ?_ | refine s_eqB ?_ | refine s_neB ?_ | refine s_eqX ?_ | refine s_neX ?_
  | refine s_isNn ?_ | refine s_isNi ?_ | refine s_isNt ?_ | refine s_isNr ?_ | refine s_isNb ?_ | refine s_ntNn ?_ | refine s_ntNi ?_ | refine s_ntNt ?_ | refine s_ntNr ?_
  | refine s_test ?_ | refine s_not ?_ | refine s_and ?_ | refine s_or ?_ | refine s_yes ?_ | refine s_bl ?_
  | refine s_andV ?_ | refine s_orV ?_ | refine s_notV ?_ | refine s_chain ?_ | refine s_if ?_ | refine s_next ?_ | refine s_brk ?_ | refine s_cnt ?_ | refine s_ifS ?_
  | refine s_ret ?_ | refine s_retN ?_ | refine s_drop ?_ | refine s_name ?_ | refine s_sub ?_ | refine s_gCons ?_ | refine s_gNil ?_
  | refine s_cons ?_ | refine s_nil ?_ | refine s_cb ?_ | refine s_call ?_ | refine s_tup ?_ | refine s_lst ?_
  | refine s_mkT2 ?_ | refine s_mkT3 ?_ | refine s_mkT1 ?_ | refine s_mkT0 ?_ | refine s_mkT4 ?_ | refine s_mkT5 ?_
  | refine s_par ?_ | refine s_par3 ?_ | refine s_par2 ?_ | refine s_par33 ?_ | refine s_iRng1 ?_ | refine s_iRng2 ?_ | refine s_for ?_ | refine s_iList ?_ | refine s_iTup ?_ | refine s_theTup ?_ | refine s_lc ?_ | refine s_bm ?_
  | refine s_sl ?_ | refine s_noPart ?_ | refine s_part ?_ | refine s_abs ?_ | refine s_int ?_ | refine s_intB ?_ | refine s_max ?_ | refine s_min ?_ | refine s_max3 ?_ | refine s_theInt ?_ | refine s_lenT ?_ | refine s_tupT ?_ | refine s_slT3 ?_ | refine s_slT ?_ | refine s_dget ?_ | refine s_dget2 ?_ | refine s_din ?_ | refine s_iZip ?_ | refine s_iEnum ?_ | refine s_iEnumT ?_ | refine s_sortIt ?_ | refine s_zipT ?_ | refine s_sumM ?_ | refine s_anyM ?_ | refine s_allM ?_ | refine s_dc ?_ | refine s_iKeys ?_ | refine s_listT' ?_
  | refine s_sumT ?_
  | (refine' s_gTup ?rdi ?_; (case rdi => (with_unfolding_all rfl)))
  | (refine' s_gLst ?rdh ?rdi ?_; (case rdh => (with_unfolding_all (walk_at "lo"))); (case rdi => (with_unfolding_all rfl)))
  | (refine' s_ixT ?rdi ?_; (case rdi => (with_unfolding_all rfl)))
  | (refine' s_ixL ?rdh ?rdi ?_; (case rdh => (with_unfolding_all (walk_at "lo"))); (case rdi => (with_unfolding_all rfl)))
  | (refine' s_setL ?rdh ?rdi ?_; (case rdh => (with_unfolding_all (walk_at "en"))); (case rdi => (with_unfolding_all rfl)))
  | (refine' s_lenL ?rdh ?_; (case rdh => (with_unfolding_all (walk_at "lo"))))
  | (refine' s_all ?rdh ?_; (case rdh => (with_unfolding_all (walk_at "lo"))))
  | (refine' s_any ?rdh ?_; (case rdh => (with_unfolding_all (walk_at "lo"))))
  | (refine' s_sum ?rdh ?_; (case rdh => (with_unfolding_all (walk_at "lo"))))
  | (refine' s_listL' ?rdh ?_; (case rdh => (with_unfolding_all (walk_at "lo"))))
  | (refine' s_tupL ?rdh ?_; (case rdh => (with_unfolding_all (walk_at "lo"))))
  | (refine' And.intro (s_isL ?rdh) ?_; (case rdh => (with_unfolding_all (walk_at "en"))))
  | (refine' s_IC ?rdh ?_; (case rdh => (walk_at "nu")))
  | (refine' s_mul ?rdh ?_; (case rdh => (walk_at "nu")))
  | (refine' s_div ?rdh ?_; (case rdh => (walk_at "nu")))
  | (refine' s_floors ?rdh ?_; (case rdh => assumption)) | (refine' s_room ?rdh ?_; (case rdh => assumption))
  | (refine' s_house ?rdh ?_; (case rdh => assumption)) | (refine' s_lift ?rdh ?_; (case rdh => assumption)) | (refine' s_grps ?rdh ?_; (case rdh => assumption))
  | refine s_eqG ?_ | refine s_neG ?_ | refine s_eqN ?_ | refine s_neN ?_
  | (refine' s_aug ?rdh ?_; (case rdh => (with_unfolding_all rfl)))))
local macro_rules | `(tactic| walk_at "ad*") => `(tactic| (repeat (walk_at "ad")))

/-! ### things of any kind: which are integers -/
def intOf : AV → Option Int
  | .int i => some i
  | _ => none
theorem TyA.kept {K : PySem.W.Frag} {η η' : Eta} {x : AV} {t : Value} (h : TyA K η x t) (k : Kept η η') : TyA K η' x t := by
  cases h with
  | non => exact .non
  | bl => exact .bl
  | int => exact .int
  | str => exact .str
  | tup => exact .tup
  | lst e => exact .lst (k _ _ e)
  | dK e => exact .dK (k _ _ e)
  | dT e => exact .dT (k _ _ e)
  | ob c => exact .ob c
  | ins e c => exact .ins (k _ _ e) c
structure Thg (K : PySem.W.Frag) (η : Eta) (x : AV) : Prop where
  ex : ∃ t b1 b2, TyA K η x t ∧ PySem.W.kitOne K t (.type "int") = some b1 ∧ PySem.W.kitOne K t (.type "bool") = some b2 ∧ (b1 && !b2) = (intOf x).isSome
theorem Thg.kept {K : PySem.W.Frag} {η η' : Eta} {x : AV} (h : Thg K η x) (k : Kept η η') : Thg K η' x := by
  obtain ⟨t, b1, b2, ty, r⟩ := h.ex
  exact ⟨t, b1, b2, TyA.kept ty k, r⟩
theorem thg_int {K : PySem.W.Frag} {η : Eta} {i : Int} : Thg K η (.int i) := ⟨_, true, false, .int, kit_ty (by decide +kernel), kit_ty (by decide +kernel), rfl⟩
theorem thg_bl {K : PySem.W.Frag} {η : Eta} {b : Bool} : Thg K η (.bl b) := ⟨_, true, true, .bl, kit_ty (by decide +kernel), kit_ty (by decide +kernel), rfl⟩
theorem thg_non {K : PySem.W.Frag} {η : Eta} : Thg K η .non := ⟨_, false, false, .non, kit_ty (by decide +kernel), kit_ty (by decide +kernel), rfl⟩
theorem thg_str {K : PySem.W.Frag} {η : Eta} {x : Str} : Thg K η (.str x) := ⟨_, false, false, .str, kit_ty (by decide +kernel), kit_ty (by decide +kernel), rfl⟩
theorem thg_tup {K : PySem.W.Frag} {η : Eta} {xs : List AV} : Thg K η (.tup xs) := ⟨_, false, false, .tup, kit_ty (by decide +kernel), kit_ty (by decide +kernel), rfl⟩
theorem thg_lst {K : PySem.W.Frag} {η : Eta} {n : Nat} {xs : List AV} (h : η n = some (.lst xs)) : Thg K η (.rf n) := ⟨_, false, false, .lst h, kit_ty (by decide +kernel), kit_ty (by decide +kernel), rfl⟩
theorem thg_dK {K : PySem.W.Frag} {η : Eta} {n : Nat} {xs : List (Key × AV)} (h : η n = some (.dK xs)) : Thg K η (.rf n) := ⟨_, false, false, .dK h, kit_ty (by decide +kernel), kit_ty (by decide +kernel), rfl⟩
/-- a class that is no int -/
structure NoInt (K : PySem.W.Frag) (C : Addr) : Prop where
  i : PySem.W.kitOne K (.ref C) (.type "int") = some false
  b : PySem.W.kitOne K (.ref C) (.type "bool") = some false
theorem thg_ob {K : PySem.W.Frag} {η : Eta} {C : Addr} {fs : List (Str × AV)} (c : C8.InsC K C) (n : NoInt K C) : Thg K η (.ob C fs) := ⟨_, false, false, .ob c, n.i, n.b, rfl⟩
def inB (lo hi : Int) (x : AV) : Bool :=
  match intOf x with
  | some n => decide (lo ≤ n) && decide (n ≤ hi)
  | none => false
section
variable {P : Program} {w : World} {K : PySem.W.Frag} {mg : Str → Option Value} {base : Heap} {CH CS CR C : Addr}
def spXInteger (K : PySem.W.Frag) : ASp := fun xs η Q => ∃ x, xs = [x] ∧ Thg K η x ∧ Q (.bl (intOf x).isSome) η
theorem X_integer (B : Bi mg) (R_is_integer : Raw K mg "is_integer" s_is_integer) : XDef P w K mg base 2 "is_integer" ["thing"] (spXInteger K) := by
  refine XDef.of R_is_integer (N := N_is_integer) (ps := ["thing"]) sc_is_integer (fun _ _ _ _ _ _ us hl => match us, hl with | [_], _ => rfl) ?_ fun f cdv A outer s H E hr => ⟨_, (xss_one (xs_ret (xe_and (xe_callB (xc_isi rfl) (by rfl) B.isinstance (by decide +kernel) (xa_cons (xv 0) (xa_cons (xe_bltn (n := "int") (by rfl) B.int (by decide +kernel)) xa_nil))) (xe_one (xe_not (xe_callB (xc_isi rfl) (by rfl) B.isinstance (by decide +kernel) (xa_cons (xv 0) (xa_cons (xe_bltn (n := "bool") (by rfl) B.bool (by decide +kernel)) xa_nil)))))))), ?_⟩
  · rintro xs η Q ⟨x, rfl, _⟩
    rfl
  rintro xs η Q ⟨x, rfl, ⟨t, b1, b2, ty, k1, k2, e⟩, k⟩
  walk_at "ad*"
  refine ⟨_, _, _, _, _, rfl, .ty, ty, k1, ?_⟩
  walk_at "ad*"
  rw [← e] at k
  cases b1 with
  | false =>
    refine iteF ?_
    exact .same k
  | true =>
    refine ite_yes rfl ?_
    walk_at "ad*"
    refine ⟨_, _, _, _, _, rfl, .ty, ty, k2, ?_⟩
    walk_at "ad*"
    rw [Bool.true_and] at k
    exact .same k
def spXWithin (K : PySem.W.Frag) : ASp := fun xs η Q => ∃ (x : AV) (lo hi : Int), xs = [x, .int lo, .int hi] ∧ Thg K η x ∧ Q (.bl (inB lo hi x)) η
theorem X_within (B : Bi mg) (R_is_within : Raw K mg "is_within" s_is_within) (D_is_integer : XDef P w K mg base 2 "is_integer" ["thing"] (spXInteger K)) : XDef P w K mg base 3 "is_within" ["thing", "least", "most"] (spXWithin K) := by
  refine XDef.of R_is_within (N := N_is_within) (ps := ["thing", "least", "most"]) sc_is_within (fun _ _ _ _ _ _ us hl => match us, hl with | [_, _, _], _ => rfl) ?_ fun f cdv A outer s H E hr => ⟨_, (xss_one (xs_ret (xe_and (xe_callD rfl D_is_integer (hr.mono (by decide)) rfl (xa_cons (xv 0) xa_nil)) (xe_one (xe_chain xo_le xo_le (xv 1) (xv 0) (xv 2)))))), ?_⟩
  · rintro xs η Q ⟨x, lo, hi, rfl, _⟩
    rfl
  rintro xs η Q ⟨x, lo, hi, rfl, th, k⟩
  walk_at "ad*"
  refine ⟨x, rfl, th, ?_⟩
  walk_at "ad*"
  unfold inB at k
  cases x with
  | int n =>
    refine ite_yes rfl ?_
    walk_at "ad*"
    refine ite_dec (fun c => ?_) (fun c => ?_)
    · walk_at "ad*"
      have k : Q (.bl (decide (lo ≤ n) && decide (n ≤ hi))) η := k
      rw [decide_eq_true c, Bool.true_and] at k
      exact .same k
    · have k : Q (.bl (decide (lo ≤ n) && decide (n ≤ hi))) η := k
      rw [decide_eq_false c, Bool.false_and] at k
      exact .same k
  | _ => exact iteF (.same k)
theorem inB_int {lo hi : Int} {x : AV} (h : inB lo hi x = true) : ∃ n, x = .int n ∧ lo ≤ n ∧ n ≤ hi := by
  unfold inB at h
  cases x with
  | int n =>
    have h : (decide (lo ≤ n) && decide (n ≤ hi)) = true := h
    rw [Bool.and_eq_true, decide_eq_true_eq, decide_eq_true_eq] at h
    exact ⟨n, rfl, h⟩
  | _ => cases h
end
end Law

namespace Law
open PySem L2 MyB MyR MyD MyC Ab
local macro_rules | `(tactic| walk_at "kp") => `(tactic| first | exact Kept.refl | (refine' Kept.put ?kpa ?kpb; (case kpb => (walk_at "nn")); (case kpa => (walk_at "kp"))) | (refine' Kept.back ?kpa ?kpb; (case kpb => assumption); (case kpa => (walk_at "kp"))))
local macro_rules | `(tactic| walk_at "nn") => `(tactic| first | assumption | (refine' Kept.none ?nna ?nnb; (case nnb => assumption); (case nna => (walk_at "kp"))))
local macro_rules | `(tactic| walk_at "en") => `(tactic| first | assumption | exact pt_same | ((repeat rw [pt_ne (by assumption)]); first | assumption | exact pt_same))
local macro_rules | `(tactic| walk_at "lo") => `(tactic| first | assumption | exact lo_rf (by walk_at "en") | exact Or.inr rfl)
local macro_rules | `(tactic| walk_at "nu") => `(tactic| with_unfolding_all (first | assumption | decide | exact ⟨by decide, by decide⟩ | exact .inr ⟨by decide, by decide⟩ | exact ⟨by decide, by decide, by decide⟩ | exact ⟨by omega, by omega⟩ | exact .inl ⟨by omega, by omega⟩ | exact .inr ⟨by omega, by omega⟩))
local macro_rules | `(tactic| walk_at "ad") => `(tactic| with_reducible (first
  | refine s_seq ?_ | refine s_asg ?_ | refine s_tryAs ?_ | refine s_tryOnly ?_ | refine s_raise ?_ | refine s_raise1 ?_ | refine s_callX ?_ | refine s_xf ?_ | refine s_op ?_ | refine s_un ?_
  | (refine' s_var ?rdh ?_; (case rdh => (with_unfolding_all rfl)))
  | refine s_c ?_ | refine s_add ?_ | refine s_II ?_ | refine s_IB ?_ | refine s_lt ?_ | refine s_U ?_ | refine s_eqI ?_ | refine s_neI ?_ | refine s_eqB ?_ | refine s_neB ?_ | refine s_eqX ?_ | refine s_neX ?_
  | refine s_isNn ?_ | refine s_isNi ?_ | refine s_isNt ?_ | refine s_isNr ?_ | refine s_isNb ?_ | refine s_ntNn ?_ | refine s_ntNi ?_ | refine s_ntNt ?_ | refine s_ntNr ?_
  | refine s_test ?_ | refine s_not ?_ | refine s_and ?_ | refine s_or ?_ | refine s_yes ?_ | refine s_bl ?_
  | refine s_andV ?_ | refine s_orV ?_ | refine s_notV ?_ | refine s_chain ?_ | refine s_if ?_ | refine s_next ?_ | refine s_brk ?_ | refine s_cnt ?_ | refine s_ifS ?_
  | refine s_ret ?_ | refine s_retN ?_ | refine s_drop ?_ | refine s_name ?_ | refine s_sub ?_ | refine s_gCons ?_ | refine s_gNil ?_
  | refine s_cons ?_ | refine s_nil ?_ | refine s_cb ?_ | refine s_call ?_ | refine s_tup ?_ | refine s_lst ?_
  | refine s_mkT2 ?_ | refine s_mkT3 ?_ | refine s_mkT1 ?_ | refine s_mkT0 ?_ | refine s_mkT4 ?_ | refine s_mkT5 ?_
  | refine s_par ?_ | refine s_par3 ?_ | refine s_par2 ?_ | refine s_par33 ?_ | refine s_iRng1 ?_ | refine s_iRng2 ?_ | refine s_for ?_ | refine s_iList ?_ | refine s_iTup ?_ | refine s_theTup ?_ | refine s_lc ?_ | refine s_bm ?_
  | refine s_sl ?_ | refine s_noPart ?_ | refine s_part ?_ | refine s_abs ?_ | refine s_int ?_ | refine s_intB ?_ | refine s_max ?_ | refine s_min ?_ | refine s_max3 ?_ | refine s_theInt ?_ | refine s_lenT ?_ | refine s_tupT ?_ | refine s_slT3 ?_ | refine s_slT ?_ | refine s_dget ?_ | refine s_dget2 ?_ | refine s_din ?_ | refine s_iZip ?_ | refine s_iEnum ?_ | refine s_iEnumT ?_ | refine s_sortIt ?_ | refine s_zipT ?_ | refine s_sumM ?_ | refine s_anyM ?_ | refine s_allM ?_ | refine s_dc ?_ | refine s_iKeys ?_ | refine s_listT' ?_
  | refine s_sumT ?_
  | (refine' s_gTup ?rdi ?_; (case rdi => (with_unfolding_all rfl)))
  | (refine' s_gLst ?rdh ?rdi ?_; (case rdh => (with_unfolding_all (walk_at "lo"))); (case rdi => (with_unfolding_all rfl)))
  | (refine' s_ixT ?rdi ?_; (case rdi => (with_unfolding_all rfl)))
  | (refine' s_ixL ?rdh ?rdi ?_; (case rdh => (with_unfolding_all (walk_at "lo"))); (case rdi => (with_unfolding_all rfl)))
  | (refine' s_setL ?rdh ?rdi ?_; (case rdh => (with_unfolding_all (walk_at "en"))); (case rdi => (with_unfolding_all rfl)))
  | (refine' s_lenL ?rdh ?_; (case rdh => (with_unfolding_all (walk_at "lo"))))
  | (refine' s_all ?rdh ?_; (case rdh => (with_unfolding_all (walk_at "lo"))))
  | (refine' s_any ?rdh ?_; (case rdh => (with_unfolding_all (walk_at "lo"))))
  | (refine' s_sum ?rdh ?_; (case rdh => (with_unfolding_all (walk_at "lo"))))
  | (refine' s_listL' ?rdh ?_; (case rdh => (with_unfolding_all (walk_at "lo"))))
  | (refine' s_tupL ?rdh ?_; (case rdh => (with_unfolding_all (walk_at "lo"))))
  | (refine' And.intro (s_isL ?rdh) ?_; (case rdh => (with_unfolding_all (walk_at "en"))))
  | (refine' s_IC ?rdh ?_; (case rdh => (walk_at "nu")))
  | (refine' s_mul ?rdh ?_; (case rdh => (walk_at "nu")))
  | (refine' s_div ?rdh ?_; (case rdh => (walk_at "nu")))
  | (refine' s_floors ?rdh ?_; (case rdh => assumption)) | (refine' s_room ?rdh ?_; (case rdh => assumption))
  | (refine' s_house ?rdh ?_; (case rdh => assumption)) | (refine' s_lift ?rdh ?_; (case rdh => assumption)) | (refine' s_grps ?rdh ?_; (case rdh => assumption))
  | refine s_eqG ?_ | refine s_neG ?_ | refine s_eqN ?_ | refine s_neN ?_
  | (refine' s_aug ?rdh ?_; (case rdh => (with_unfolding_all rfl)))))
local macro_rules | `(tactic| walk_at "ad*") => `(tactic| (repeat (walk_at "ad")))

local macro_rules | `(tactic| walk_at "az") => `(tactic| first | walk_at "ad" | with_reducible (first | refine iteF ?_ | refine iteT ?_ | refine ite_nT ?_ | refine ite_nF ?_ | (refine' s_rngJ ?rdh ?_; (case rdh => omega)) | (refine' s_rngJ2 ?rdh ?_; (case rdh => omega)) | refine s_isT ?_ | refine s_notT ?_ | refine s_isF ?_ | refine s_notF ?_ | refine s_isi_non_int ?_ | refine s_isi_non_bool ?_ | refine s_isi_non_tuple ?_ | refine s_isi_non_list ?_ | refine s_isi_non_str ?_ | refine s_isi_bl_int ?_ | refine s_isi_bl_bool ?_ | refine s_isi_bl_tuple ?_ | refine s_isi_bl_list ?_ | refine s_isi_bl_str ?_ | refine s_isi_int_int ?_ | refine s_isi_int_bool ?_ | refine s_isi_int_tuple ?_ | refine s_isi_int_list ?_ | refine s_isi_int_str ?_ | refine s_isi_str_int ?_ | refine s_isi_str_bool ?_ | refine s_isi_str_tuple ?_ | refine s_isi_str_list ?_ | refine s_isi_str_str ?_ | refine s_isi_tup_int ?_ | refine s_isi_tup_bool ?_ | refine s_isi_tup_tuple ?_ | refine s_isi_tup_list ?_ | refine s_isi_tup_str ?_))
local macro_rules | `(tactic| walk_at "az*") => `(tactic| (repeat (walk_at "az")))
local macro_rules | `(tactic| walk_at "cl") => `(tactic| ((repeat refine Exists.intro _ ?_); refine And.intro rfl ?_; (repeat (refine And.intro (by first | assumption | omega | exact lo_rf (by assumption)) ?_))))

local macro_rules | `(tactic| walk_at "bz") => `(tactic| first | (with_reducible (refine' s_nameE ?rde ?_; (case rde => ((try simp only [List.set_cons_succ, List.set_cons_zero]); exact rfl)))) | (with_reducible (refine' s_par2E ?rde ?_; (case rde => ((try simp only [List.set_cons_succ, List.set_cons_zero]); exact rfl)))) | walk_at "az")
local macro_rules | `(tactic| walk_at "bz*") => `(tactic| (repeat (walk_at "bz")))

local macro_rules | `(tactic| walk_at "cz") => `(tactic| first | with_reducible (first | refine s_fldS ?_ | refine s_makeN ?_ | refine s_callN ?_ | refine s_stepL ?_ | refine s_revT ?_ | refine s_methN ?_ | refine s_methX ?_ | refine s_bm0 ?_ | refine s_listIt ?_) | walk_at "bz")
local macro_rules | `(tactic| walk_at "cz*") => `(tactic| (repeat (walk_at "cz")))

/-! ### House(floors, room), of things of any kind -/
section
variable {P : Program} {w : World} {K : PySem.W.Frag} {mg : Str → Option Value} {base : Heap} {CH CS CR C : Addr}
theorem s_hF {η : Eta} {Q : AK} {fl rm : Int} (iH : C8.InsC K CH) (na : PySem.W.findIn K (.ref CH) "floors" = some none) (k : Q (.int fl) η) : kFld K "floors" (hV CH fl rm) η Q := .inl ⟨CH, _, _, rfl, ⟨iH.cl, na⟩, rfl, k⟩
theorem s_hR {η : Eta} {Q : AK} {fl rm : Int} (iH : C8.InsC K CH) (na : PySem.W.findIn K (.ref CH) "room" = some none) (k : Q (.int rm) η) : kFld K "room" (hV CH fl rm) η Q := .inl ⟨CH, _, _, rfl, ⟨iH.cl, na⟩, (lk_tl (by decide +kernel)).trans lk_hd, k⟩
def spYHouse (K : PySem.W.Frag) (CH EB : Addr) : ASpX := fun xs η Q AE => ∃ a b : AV, xs = [a, b] ∧ Thg K η a ∧ Thg K η b ∧ (∀ fl rm, a = .int fl → b = .int rm → 2 ≤ fl → fl ≤ 40 → 1 ≤ rm → rm ≤ 10 ^ 12 → Q (hV CH fl rm) η) ∧
  (inB 2 40 a = false → AE (EB, [("part", .str "floors")]) η) ∧ (inB 2 40 a = true → inB 1 (10 ^ 12) b = false → AE (EB, [("part", .str "room")]) η)
theorem Y_House (B : Bi mg) (iH : C8.InsC K CH) (naF : PySem.W.findIn K (.ref CH) "floors" = some none) (naR : PySem.W.findIn K (.ref CH) "room" = some none) {t1 t2 : Tok} (c_MOST_FLOORS : mg "MOST_FLOORS" = some (.int 40 t1)) (c_MOST_ROOM : mg "MOST_ROOM" = some (.int (10 ^ 12) t2)) {E_BadHouse : Addr}
    (T_BadHouse : ErrF P w K mg base "BadHouse" E_BadHouse "part") (R_House___init__ : RawC K mg "House" "House.__init__" s_House___init__ CH) (D_is_within : XDef P w K mg base 3 "is_within" ["thing", "least", "most"] (spXWithin K)) :
    XNewX P w K mg base 4 "House" CH ["self", "floors", "room"] (spYHouse K CH E_BadHouse) := by
  refine XNewX.of R_House___init__ (N := N_House___init__) (ps := ["self", "floors", "room"]) sc_House___init__ (fun _ _ _ _ _ _ us hl => match us, hl with | [_, _, _], _ => rfl) ?_ fun f cdv A outer s H E hr tk po => ⟨_, fun AW => (xss_cons (xs_if (xt_not (xt_val (xe_callD rfl D_is_within (hr.mono (by decide)) rfl (xa_cons (xv 1) (xa_cons xe_int (xa_cons (xe_globI rfl c_MOST_FLOORS) xa_nil))))))
    (xss_one (xs_raise1 rfl rfl tk T_BadHouse (hr.mono (by decide)) xe_str rfl))
    xss_nil)
  (xss_cons (xs_if (xt_not (xt_val (xe_callD rfl D_is_within (hr.mono (by decide)) rfl (xa_cons (xv 2) (xa_cons xe_int (xa_cons (xe_globI rfl c_MOST_ROOM) xa_nil))))))
    (xss_one (xs_raise1 rfl rfl tk T_BadHouse (hr.mono (by decide)) xe_str rfl))
    xss_nil)
  (xss_cons (xs_fld rfl (xv 0) (xv 1) rfl)
  (xss_one (xs_fld rfl (xv 0) (xv 2) rfl))))), ?_⟩
  · rintro xs η Q AE ⟨a, b, rfl, _⟩
    rfl
  rintro xs η Q AE ⟨a, b, rfl, ta, tb, k1, k2, k3⟩ n hn
  have kk : Kept η (pt η n (.ins CH [])) := Kept.put .refl hn
  walk_at "cz*"
  refine ⟨a, 2, 40, rfl, ta.kept kk, ?_⟩
  walk_at "cz*"
  cases ca : inB 2 40 a with
  | false =>
    walk_at "cz*"
    exact .sub kk (k2 ca)
  | true =>
    walk_at "cz*"
    refine ⟨b, 1, 10 ^ 12, rfl, tb.kept kk, ?_⟩
    walk_at "cz*"
    cases cb : inB 1 (10 ^ 12) b with
    | false =>
      walk_at "cz*"
      exact .sub kk (k3 ca cb)
    | true =>
      obtain ⟨fl, rfl, f1, f2⟩ := inB_int ca
      obtain ⟨rm, rfl, r1, r2⟩ := inB_int cb
      walk_at "cz*"
      have p1 : putA [] ("floors" : Str) (.int fl) = [(("floors" : Str), AV.int fl)] := putA_none (fs := []) rfl
      have p2 : putA [(("floors" : Str), AV.int fl)] ("room" : Str) (.int rm) = [(("floors" : Str), AV.int fl), (("room" : Str), AV.int rm)] := putA_none (by rw [List.any_cons, List.any_nil, decide_eq_false (show ¬ (("floors" : Str), AV.int fl).1 = ("room" : Str) from (by decide +kernel : ¬ ("floors" : Str) = "room"))]; rfl)
      refine ⟨n, CH, [], rfl, pt_same, ⟨iH.cl, naF⟩, by decide, ?_⟩
      rewrite [pt_pt, p1]
      walk_at "cz*"
      refine ⟨n, CH, _, rfl, pt_same, ⟨iH.cl, naR⟩, by simp, ?_⟩
      rewrite [pt_pt, p2]
      exact .inl ⟨_, pt_same, .cons .int (.cons .int .nil), fun m o e => (Kept.put .refl hn) m o e, k1 fl rm rfl rfl f1 f2 r1 r2⟩
end
end Law

namespace Law
open PySem L2 MyB MyR MyD Ab
local macro_rules | `(tactic| walk_at "kp") => `(tactic| first | exact Kept.refl | (refine' Kept.put ?kpa ?kpb; (case kpb => (walk_at "nn")); (case kpa => (walk_at "kp"))) | (refine' Kept.back ?kpa ?kpb; (case kpb => assumption); (case kpa => (walk_at "kp"))))
local macro_rules | `(tactic| walk_at "nn") => `(tactic| first | assumption | (refine' Kept.none ?nna ?nnb; (case nnb => assumption); (case nna => (walk_at "kp"))))
local macro_rules | `(tactic| walk_at "en") => `(tactic| first | assumption | exact pt_same | ((repeat rw [pt_ne (by assumption)]); first | assumption | exact pt_same))
local macro_rules | `(tactic| walk_at "lo") => `(tactic| first | assumption | exact lo_rf (by walk_at "en") | exact Or.inr rfl)
local macro_rules | `(tactic| walk_at "nu") => `(tactic| with_unfolding_all (first | assumption | decide | exact ⟨by decide, by decide⟩ | exact .inr ⟨by decide, by decide⟩ | exact ⟨by decide, by decide, by decide⟩ | exact ⟨by omega, by omega⟩ | exact .inl ⟨by omega, by omega⟩ | exact .inr ⟨by omega, by omega⟩))
local macro_rules | `(tactic| walk_at "ad") => `(tactic| with_reducible (first
  | refine s_seq ?_ | refine s_asg ?_ | refine s_op ?_ | refine s_un ?_
  | (refine' s_var ?rdh ?_; (case rdh => (with_unfolding_all rfl)))
  | refine s_c ?_ | refine s_add ?_ | refine s_II ?_ | refine s_IB ?_ | refine s_lt ?_ | refine s_U ?_ | refine s_eqI ?_ | refine s_neI ?_ | refine s_eqB ?_ | refine s_neB ?_ | refine s_eqX ?_ | refine s_neX ?_
  | refine s_isNn ?_ | refine s_isNi ?_ | refine s_isNt ?_ | refine s_isNr ?_ | refine s_isNb ?_ | refine s_ntNn ?_ | refine s_ntNi ?_ | refine s_ntNt ?_ | refine s_ntNr ?_
  | refine s_test ?_ | refine s_not ?_ | refine s_and ?_ | refine s_or ?_ | refine s_yes ?_ | refine s_bl ?_
  | refine s_andV ?_ | refine s_orV ?_ | refine s_notV ?_ | refine s_chain ?_ | refine s_if ?_ | refine s_next ?_ | refine s_brk ?_ | refine s_cnt ?_ | refine s_ifS ?_
  | refine s_ret ?_ | refine s_retN ?_ | refine s_drop ?_ | refine s_name ?_ | refine s_sub ?_ | refine s_gCons ?_ | refine s_gNil ?_
  | refine s_cons ?_ | refine s_nil ?_ | refine s_cb ?_ | refine s_call ?_ | refine s_tup ?_ | refine s_lst ?_
  | refine s_mkT2 ?_ | refine s_mkT3 ?_ | refine s_mkT1 ?_ | refine s_mkT0 ?_ | refine s_mkT4 ?_ | refine s_mkT5 ?_
  | refine s_par ?_ | refine s_par3 ?_ | refine s_par2 ?_ | refine s_par33 ?_ | refine s_iRng1 ?_ | refine s_iRng2 ?_ | refine s_for ?_ | refine s_iList ?_ | refine s_iTup ?_ | refine s_theTup ?_ | refine s_lc ?_ | refine s_bm ?_
  | refine s_sl ?_ | refine s_noPart ?_ | refine s_part ?_ | refine s_abs ?_ | refine s_int ?_ | refine s_intB ?_ | refine s_max ?_ | refine s_min ?_ | refine s_max3 ?_ | refine s_theInt ?_ | refine s_lenT ?_ | refine s_tupT ?_ | refine s_slT3 ?_ | refine s_slT ?_ | refine s_dget ?_ | refine s_dget2 ?_ | refine s_din ?_ | refine s_iZip ?_ | refine s_iEnum ?_ | refine s_iEnumT ?_ | refine s_sortIt ?_ | refine s_zipT ?_ | refine s_sumM ?_ | refine s_anyM ?_ | refine s_allM ?_ | refine s_dc ?_ | refine s_iKeys ?_ | refine s_listT' ?_
  | refine s_sumT ?_
  | (refine' s_gTup ?rdi ?_; (case rdi => (with_unfolding_all rfl)))
  | (refine' s_gLst ?rdh ?rdi ?_; (case rdh => (with_unfolding_all (walk_at "lo"))); (case rdi => (with_unfolding_all rfl)))
  | (refine' s_ixT ?rdi ?_; (case rdi => (with_unfolding_all rfl)))
  | (refine' s_ixL ?rdh ?rdi ?_; (case rdh => (with_unfolding_all (walk_at "lo"))); (case rdi => (with_unfolding_all rfl)))
  | (refine' s_setL ?rdh ?rdi ?_; (case rdh => (with_unfolding_all (walk_at "en"))); (case rdi => (with_unfolding_all rfl)))
  | (refine' s_lenL ?rdh ?_; (case rdh => (with_unfolding_all (walk_at "lo"))))
  | (refine' s_all ?rdh ?_; (case rdh => (with_unfolding_all (walk_at "lo"))))
  | (refine' s_any ?rdh ?_; (case rdh => (with_unfolding_all (walk_at "lo"))))
  | (refine' s_sum ?rdh ?_; (case rdh => (with_unfolding_all (walk_at "lo"))))
  | (refine' s_listL' ?rdh ?_; (case rdh => (with_unfolding_all (walk_at "lo"))))
  | (refine' s_tupL ?rdh ?_; (case rdh => (with_unfolding_all (walk_at "lo"))))
  | (refine' And.intro (s_isL ?rdh) ?_; (case rdh => (with_unfolding_all (walk_at "en"))))
  | (refine' s_IC ?rdh ?_; (case rdh => (walk_at "nu")))
  | (refine' s_mul ?rdh ?_; (case rdh => (walk_at "nu")))
  | (refine' s_div ?rdh ?_; (case rdh => (walk_at "nu")))
  | (refine' s_floors ?rdh ?_; (case rdh => assumption)) | (refine' s_room ?rdh ?_; (case rdh => assumption))
  | (refine' s_house ?rdh ?_; (case rdh => assumption)) | (refine' s_lift ?rdh ?_; (case rdh => assumption)) | (refine' s_grps ?rdh ?_; (case rdh => assumption))
  | refine s_eqG ?_ | refine s_neG ?_ | refine s_eqN ?_ | refine s_neN ?_
  | (refine' s_aug ?rdh ?_; (case rdh => (with_unfolding_all rfl)))))
local macro_rules | `(tactic| walk_at "ad*") => `(tactic| (repeat (walk_at "ad")))

/-! ### the hand of the laws: numbers drawn -/
section
variable {P : Program} {w : World} {K : PySem.W.Frag} {mg : Str → Option Value} {base : Heap}
/-- the law's hand stands at d, its cells at c -/
structure Hand (η : Eta) (d c : Nat) : Prop where
  ex : ∃ (p q s t : Int) (cells : List Int), η d = some (.lst [.rf c, .int p, .int q, .int s, .int t]) ∧ η c = some (.lst (cells.map .int)) ∧ 0 ≤ p ∧ 0 ≤ q ∧ cells.length ≤ 63 ∧ (∀ n ∈ cells, 0 ≤ n) ∧ c ≠ d
/-- all but what the hand holds is as it was -/
def But (d : Nat) (η η' : Eta) : Prop := ∀ n, n ≠ d → η' n = η n
theorem But.refl {d : Nat} {η : Eta} : But d η η := fun _ _ => rfl
theorem But.trans {d : Nat} {η η1 η2 : Eta} (a : But d η η1) (b : But d η1 η2) : But d η η2 := fun n h => (b n h).trans (a n h)
theorem But.put {d : Nat} {η : Eta} {o : AO} : But d η (pt η d o) := fun n h => pt_ne h
theorem Hand.new {η : Eta} {d c n : Nat} {o : AO} (h : Hand η d c) (hn : η n = none) : Hand (pt η n o) d c := by
  obtain ⟨p, q, s, t, cells, e1, e2, r⟩ := h.ex
  exact ⟨p, q, s, t, cells, (pt_ne (by rintro rfl; rw [hn] at e1; cases e1)).trans e1, (pt_ne (by rintro rfl; rw [hn] at e2; cases e2)).trans e2, r⟩
theorem Hand.far {η : Eta} {d c n : Nat} {o : AO} (h : Hand η d c) (n1 : n ≠ d) (n2 : n ≠ c) : Hand (pt η n o) d c := by
  obtain ⟨p, q, s, t, cells, e1, e2, r⟩ := h.ex
  exact ⟨p, q, s, t, cells, (pt_ne (Ne.symm n1)).trans e1, (pt_ne (Ne.symm n2)).trans e2, r⟩
theorem Hand.ne {η : Eta} {d c n : Nat} (h : Hand η d c) (hn : η n = none) : n ≠ d ∧ n ≠ c := by
  obtain ⟨p, q, s, t, cells, e1, e2, r⟩ := h.ex
  exact ⟨(by rintro rfl; rw [hn] at e1; cases e1), (by rintro rfl; rw [hn] at e2; cases e2)⟩
theorem Hand.kept {η η' : Eta} {d c : Nat} (h : Hand η d c) (k : Kept η η') : Hand η' d c := by
  obtain ⟨p, q, s, t, cells, e1, e2, r⟩ := h.ex
  exact ⟨p, q, s, t, cells, k _ _ e1, k _ _ e2, r⟩
/-- all that was there is as it was, but the hand -/
def KB (d : Nat) (η η' : Eta) : Prop := ∀ q o, q ≠ d → η q = some o → η' q = some o
theorem KB.refl {d : Nat} {η : Eta} : KB d η η := fun _ _ _ e => e
theorem KB.but {d : Nat} {η η1 η2 : Eta} (h : KB d η η1) (b : But d η1 η2) : KB d η η2 := fun q o hq e => (b q hq).trans (h q o hq e)
theorem KB.put {d n : Nat} {o : AO} {η η1 : Eta} (h : KB d η η1) (hn : η1 n = none) : KB d η (pt η1 n o) := fun q u hq e => by
  have e' := h q u hq e
  rw [pt_ne (by rintro rfl; rw [hn] at e'; cases e')]
  exact e'
theorem KB.own {d n : Nat} {o : AO} {η η1 : Eta} (h : KB d η η1) (hn : η n = none) : KB d η (pt η1 n o) := fun q u hq e => by
  rw [pt_ne (by rintro rfl; rw [hn] at e; cases e)]
  exact h q u hq e
theorem KB.none {d n : Nat} {η η1 : Eta} (h : KB d η η1) (nd : n ≠ d) (hn : η1 n = Option.none) : η n = Option.none := by
  cases e : η n with
  | none => rfl
  | some o =>
    have := h n o nd e
    rw [hn] at this
    cases this
theorem KB.trans {d : Nat} {η η1 η2 : Eta} (h : KB d η η1) (g : KB d η1 η2) : KB d η η2 := fun q o hq e => g q o hq (h q o hq e)
theorem KB.kept {d : Nat} {η η1 η2 : Eta} (h : KB d η η1) (g : Kept η1 η2) : KB d η η2 := fun q o hq e => g q o (h q o hq e)
theorem But.kb {d : Nat} {η η1 : Eta} (b : But d η η1) : KB d η η1 := KB.refl.but b
theorem hand_drop {Q : AK} {x : AV} {η η' : Eta} {d c : Nat} (h0 : Hand η d c) (h : Hand η' d c) (b : KB d η η') (k : ∀ η'', Hand η'' d c → But d η η'' → Q x η'') : Dr Q x η' := by
  obtain ⟨p, q, s, t, cells, e1, e2, a1, a2, a3, a4, ncd⟩ := h.ex
  obtain ⟨p0, q0, s0, t0, cells0, f1, f2, _⟩ := h0.ex
  refine ⟨pt η d (.lst [.rf c, .int p, .int q, .int s, .int t]), fun m o e => ?_, k _ ⟨p, q, s, t, cells, pt_same, ?_, a1, a2, a3, a4, ncd⟩ But.put⟩
  · by_cases z : m = d
    · subst z
      rw [pt_same] at e
      rw [e1]
      exact e
    · rw [pt_ne z] at e
      exact b m o z e
  · rw [pt_ne ncd, f2]
    exact (b c _ ncd f2).symm.trans e2
theorem divW {i j : Int} (h : 0 < j) (h' : j < 2 ^ 100) : CDivW i j := wide_div (b := 100) h (by omega) (by decide) (by decide)
/-- draw(hand, many): a number from 0 below many -/
def spDraw : ASp := fun xs η Q => ∃ (d c : Nat) (m : Int), xs = [.rf d, .int m] ∧ Hand η d c ∧ 0 < m ∧ m < 2 ^ 100 ∧ ∀ (n : Int) (η' : Eta), 0 ≤ n → n < m → Hand η' d c → But d η η' → Q (.int n) η'
theorem D__law_draw (B : Bi mg) (R__law_draw : Raw K mg "_law_draw" s__law_draw) : XDef P w K mg base 2 "_law_draw" ["_law_hand_here", "_law_many"] spDraw := by
  refine XDef.of R__law_draw (N := N__law_draw) (ps := ["_law_hand_here", "_law_many"]) sc__law_draw (fun _ _ _ _ _ _ us hl => match us, hl with | [_, _], _ => rfl) ?_ fun f cdv A outer s H E hr => ⟨_, (xss_cut (xs_if (XW.xt (xw_and (xt_cmpR (xu_eq rfl hr.units) (xe_ix (xu_ix rfl) (xv 0) xe_int (fun _ _ => rfl)) xe_int (nomark _)) (xw_and1 (xt_cmpR (xu_lt rfl hr.units) (xe_ix (xu_ix rfl) (xv 0) xe_int (fun _ _ => rfl)) (xe_callB (xc_len rfl) (by rfl) B.len (by decide +kernel) (xa_cons (xe_ix (xu_ix rfl) (xv 0) xe_int (fun _ _ => rfl)) xa_nil)) (nomark _)))))
    (xss_cons (xs_set (i := 2) sc__law_draw.nd rfl (Or.inl rfl) (xe_ix (xu_ix rfl) (xe_ix (xu_ix rfl) (xv 0) xe_int (fun _ _ => rfl)) (xe_ix (xu_ix rfl) (xv 0) xe_int (fun _ _ => rfl)) (fun _ _ => rfl)))
      (xss_cons (xs_asg (xe_op (xu_add rfl) (xe_ix (xu_ix rfl) (xv 0) xe_int (fun _ _ => rfl)) xe_int) (xg_sub (xv 0) xe_int xset_list))
      (xss_cons (xs_asg (xe_op xo_mod (xe_callTy xc_int (by rfl) B.int (by decide +kernel) (xa_cons (xe_op (xu_add rfl) (xe_op (xu_add rfl) (xe_op (xu_mul rfl) (xe_ix (xu_ix rfl) (xv 0) xe_int (fun _ _ => rfl)) xe_int) (xv 2)) xe_int) xa_nil)) xe_int) (xg_sub (xv 0) xe_int xset_list))
      (xss_one (xs_if (xt_cmpR xo_ge (xv 2) (xe_op xo_pow xe_int xe_int) (nomark _))
        (xss_one (xs_asg (xv 2) (xg_sub (xv 0) xe_int xset_list)))
        xss_nil)))))
    xss_nil)
  (xss_cons (xs_if (xt_cmpR xo_gt (xe_ix (xu_ix rfl) (xv 0) xe_int (fun _ _ => rfl)) xe_int (nomark _))
    (xss_cons (xs_set (i := 3) sc__law_draw.nd rfl (Or.inl rfl) (xe_op xo_mod (xe_callTy xc_int (by rfl) B.int (by decide +kernel) (xa_cons (xe_ix (xu_ix rfl) (xv 0) xe_int (fun _ _ => rfl)) xa_nil)) (xv 1)))
      (xss_cons (xs_asg (xe_op xu_div (xe_ix (xu_ix rfl) (xv 0) xe_int (fun _ _ => rfl)) (xv 1)) (xg_sub (xv 0) xe_int xset_list))
      (xss_one (xs_ret (xv 3)))))
    xss_nil)
  (xss_cons (xs_asg (xe_op (xu_add rfl) (xe_ix (xu_ix rfl) (xv 0) xe_int (fun _ _ => rfl)) xe_int) (xg_sub (xv 0) xe_int xset_list))
  (xss_cons (xs_set (i := 4) sc__law_draw.nd rfl (Or.inl rfl) (xe_op xo_mod (xe_callTy xc_int (by rfl) B.int (by decide +kernel) (xa_cons (xe_op (xu_mul rfl) (xe_callTy xc_int (by rfl) B.int (by decide +kernel) (xa_cons (xe_op (xu_add rfl) (xe_ix (xu_ix rfl) (xv 0) xe_int (fun _ _ => rfl)) (xe_op (xu_mul rfl) xe_int (xe_ix (xu_ix rfl) (xv 0) xe_int (fun _ _ => rfl)))) xa_nil)) xe_int) xa_nil)) xe_int))
  (xss_cons (xs_set (i := 4) sc__law_draw.nd rfl (Or.inl rfl) (xe_op xo_mod (xe_callTy xc_int (by rfl) B.int (by decide +kernel) (xa_cons (xe_op (xu_mul rfl) (xv 4) (xe_op (xu_add rfl) (xe_op xu_div (xv 4) xe_int) xe_int)) xa_nil)) xe_int))
  (xss_cons (xs_set (i := 4) sc__law_draw.nd rfl (Or.inl rfl) (xe_op xo_mod (xe_callTy xc_int (by rfl) B.int (by decide +kernel) (xa_cons (xe_op (xu_mul rfl) (xv 4) (xe_op (xu_add rfl) (xe_op xu_div (xv 4) xe_int) xe_int)) xa_nil)) xe_int))
  (xss_one (xs_ret (xe_op xo_mod (xe_callTy xc_int (by rfl) B.int (by decide +kernel) (xa_cons (xe_op xu_div (xv 4) xe_int) xa_nil)) (xv 1)))))))))), ?_⟩
  · rintro xs η Q ⟨d, c, m, rfl, _⟩
    rfl
  rintro xs η Q ⟨d, c, m, rfl, ⟨p, q, z, t, cells, hd, hc, hp, hq, hl, hpos, ncd⟩, m0, m1, k⟩
  have fin : ∀ (n p' q' z' t' : Int) (η' : Eta), 0 ≤ n → n < m → 0 ≤ p' → 0 ≤ q' → η' d = some (.lst [.rf c, .int p', .int q', .int z', .int t']) → But d η η' → Dr Q (.int n) η' := fun n p' q' z' t' η' n0 n1 p0 q0 h b => .same (k n η' n0 n1 ⟨p', q', z', t', cells, h, (b c ncd).trans hc, p0, q0, hl, hpos, ncd⟩ b)
  have z0 : (m : Int) ≠ 0 := by omega
  walk_at "ad*"
  refine ⟨fun ρ' η' => ∃ (p q z : Int) (v : Option AV), 0 ≤ p ∧ 0 ≤ q ∧ η' d = some (.lst [.rf c, .int p, .int q, .int z, .int t]) ∧ But d η η' ∧ ρ' = [some (.rf d), some (.int m), v, none, none], ?_, ?_⟩
  · walk_at "ad*"
    refine ite_dec (fun h0 => ?_) (fun h0 => ?_)
    · walk_at "ad*"
      refine ite_dec (fun h1 => ?_) (fun h1 => ?_)
      · rw [List.length_map] at h1
        walk_at "ad*"
        have hx : p.toNat < cells.length := by omega
        have h9 : 0 ≤ cells[p.toNat] := hpos _ (List.getElem_mem hx)
        refine s_ixL (v := .int cells[p.toNat]) (lo_rf hc) (at_nat hp (by rw [List.getElem?_map, List.getElem?_eq_getElem hx]; rfl)) ?_
        walk_at "ad*"
        refine ite_dec (fun h2 => ?_) (fun h2 => ?_)
        · walk_at "ad*"
          exact ⟨p + 1, _, _, _, by omega, h9, pt_same, But.put.trans (But.put.trans But.put), rfl⟩
        · walk_at "ad*"
          exact ⟨p + 1, _, _, _, by omega, hq, pt_same, But.put.trans But.put, rfl⟩
      · walk_at "ad*"
        exact ⟨p, q, z, _, hp, hq, hd, .refl, rfl⟩
    · refine iteF ?_
      walk_at "ad*"
      exact ⟨p, q, z, _, hp, hq, hd, .refl, rfl⟩
  · rintro ρ' η' ⟨p, q, z, v, hp, hq, hd, b, rfl⟩
    walk_at "ad*"
    refine ite_dec (fun h0 => ?_) (fun h0 => ?_)
    · walk_at "ad*"
      refine s_divW (divW m0 m1) ?_
      walk_at "ad*"
      exact fin _ _ _ _ _ _ (Int.emod_nonneg _ z0) (Int.emod_lt_of_pos _ m0) hp (Int.ediv_nonneg hq (by omega)) pt_same (b.trans But.put)
    · walk_at "ad*"
      exact fin _ _ _ _ _ _ (Int.emod_nonneg _ z0) (Int.emod_lt_of_pos _ m0) hp hq pt_same (b.trans But.put)
/-- the script -/
def Scr (η : Eta) (x : AV) (ns : List Int) : Prop := LstOf η x (ns.map .int) ∧ ns.length ≤ 63
theorem cut63 {xs : List AV} (h : xs.length ≤ 63) : cutA xs none (some 63) = xs := by
  unfold cutA
  have e2 : HT.sIx xs.length xs.length (some 63) = xs.length := by
    have := HT.sIx_nat xs.length xs.length 63
    rw [show ((63 : Nat) : Int) = 63 from rfl] at this
    rw [this]
    omega
  rw [e2, HT.sIx_none, List.drop_zero, Nat.sub_zero, List.take_length]
def spHand : ASp := fun xs η Q => ∃ (x : AV) (ns : List Int), xs = [x] ∧ Scr η x ns ∧ ∀ (d c : Nat) (η' : Eta), Kept η η' → Hand η' d c → η d = none → η c = none → Q (.rf d) η'
theorem D__law_hand (B : Bi mg) (R__law_hand : Raw K mg "_law_hand" s__law_hand) : XDef P w K mg base 2 "_law_hand" ["_law_script"] spHand := by
  refine XDef.of R__law_hand (N := N__law_hand) (ps := ["_law_script"]) sc__law_hand (fun _ _ _ _ _ _ us hl => match us, hl with | [_], _ => rfl) ?_ fun f cdv A outer s H E hr => ⟨_, (xss_cons (xs_setLc (i := 1) (own := [("_law_cell", 2)]) rfl sc__law_hand.nd rfl rfl (sw_true rfl rfl rfl (by decide +kernel)) (xi_list rfl (xe_slice (xu_sl rfl) (xv 0) xpo_none (xpo_some xe_int))) (blkOk_by (own := [("_law_cell", 2)]) (N := N__law_hand) (sc := defScope s__law_hand) (by decide +kernel)) (fun _ _ _ _ _ => (xgc_name (i := 2) sc__law_hand.nd rfl (Or.inl rfl))) (fun _ _ _ _ _ => xts_nil) (fun _ _ _ _ _ => (xe_callB xc_abs (by rfl) B.abs (by decide +kernel) (xa_cons (xe_callTy xc_int (by rfl) B.int (by decide +kernel) (xa_cons (xv 2) xa_nil)) xa_nil))))
  (xss_one (xs_ret (xe_lst (xa_cons (xv 1) (xa_cons xe_int (xa_cons xe_int (xa_cons (xe_op (xu_add rfl) xe_int (xe_callB (xc_len rfl) (by rfl) B.len (by decide +kernel) (xa_cons (xv 1) xa_nil))) (xa_cons xe_int xa_nil))))))))), ?_⟩
  · rintro xs η Q ⟨x, ns, rfl, _⟩
    rfl
  · rintro xs η Q ⟨x, ns, rfl, ⟨hx, hl⟩, k⟩
    walk_at "ad*"
    refine s_slL hx fun n1 h1 => ?_
    rw [cut63 (by rw [List.length_map]; exact hl)]
    refine ⟨_, lo_rf pt_same, ?_⟩
    refine lc_map ns AV.int (fun z => .int (if z < 0 then -z else z)) rfl (by omega) (lo_rf pt_same) ?_ fun n2 h2 => ?_
    · intro z hz Add hAdd
      walk_at "ad*"
      exact hAdd
    walk_at "ad*"
    refine s_mkL (by simp) fun d h3 => ?_
    have e2 : η n2 = none := Kept.none (Kept.put .refl h1) h2
    have e3 : η d = none := Kept.none (Kept.put (Kept.put .refl h1) e2) h3
    have n2d : n2 ≠ d := by
      rintro rfl
      rw [pt_same] at h3
      cases h3
    have em : (ns.map fun z => AV.int (if z < 0 then -z else z)) = (ns.map fun z => if z < 0 then -z else z).map .int := by rw [List.map_map]; rfl
    refine .same (k d n2 _ (Kept.put (Kept.put (Kept.put .refl h1) e2) e3) ⟨0, 0, _, 0, ns.map fun z => if z < 0 then -z else z, pt_same, (pt_ne n2d).trans (by rw [pt_same, em]), by omega, by omega, by rw [List.length_map]; exact hl, fun n hn => ?_, n2d⟩ e3 e2)
    obtain ⟨z, _, rfl⟩ := List.mem_map.mp hn
    show 0 ≤ (if z < 0 then -z else z)
    split <;> omega
end
end Law

namespace Law
open PySem L2 MyB MyR MyD MyC Ab
local macro_rules | `(tactic| walk_at "kp") => `(tactic| first | exact Kept.refl | (refine' Kept.put ?kpa ?kpb; (case kpb => (walk_at "nn")); (case kpa => (walk_at "kp"))) | (refine' Kept.back ?kpa ?kpb; (case kpb => assumption); (case kpa => (walk_at "kp"))))
local macro_rules | `(tactic| walk_at "nn") => `(tactic| first | assumption | (refine' Kept.none ?nna ?nnb; (case nnb => assumption); (case nna => (walk_at "kp"))))
local macro_rules | `(tactic| walk_at "en") => `(tactic| first | assumption | exact pt_same | ((repeat rw [pt_ne (by assumption)]); first | assumption | exact pt_same))
local macro_rules | `(tactic| walk_at "lo") => `(tactic| first | assumption | exact lo_rf (by walk_at "en") | exact Or.inr rfl)
local macro_rules | `(tactic| walk_at "nu") => `(tactic| with_unfolding_all (first | assumption | decide | exact ⟨by decide, by decide⟩ | exact .inr ⟨by decide, by decide⟩ | exact ⟨by decide, by decide, by decide⟩ | exact ⟨by omega, by omega⟩ | exact .inl ⟨by omega, by omega⟩ | exact .inr ⟨by omega, by omega⟩))
local macro_rules | `(tactic| walk_at "ad") => `(tactic| with_reducible (first
  | refine s_seq ?_ | refine s_asg ?_ | refine s_op ?_ | refine s_un ?_
  | (refine' s_var ?rdh ?_; (case rdh => (with_unfolding_all rfl)))
  | refine s_c ?_ | refine s_add ?_ | refine s_II ?_ | refine s_IB ?_ | refine s_lt ?_ | refine s_U ?_ | refine s_eqI ?_ | refine s_neI ?_ | refine s_eqB ?_ | refine s_neB ?_ | refine s_eqX ?_ | refine s_neX ?_
  | refine s_isNn ?_ | refine s_isNi ?_ | refine s_isNt ?_ | refine s_isNr ?_ | refine s_isNb ?_ | refine s_ntNn ?_ | refine s_ntNi ?_ | refine s_ntNt ?_ | refine s_ntNr ?_
  | refine s_test ?_ | refine s_not ?_ | refine s_and ?_ | refine s_or ?_ | refine s_yes ?_ | refine s_bl ?_
  | refine s_andV ?_ | refine s_orV ?_ | refine s_notV ?_ | refine s_chain ?_ | refine s_if ?_ | refine s_next ?_ | refine s_brk ?_ | refine s_cnt ?_ | refine s_ifS ?_
  | refine s_ret ?_ | refine s_retN ?_ | refine s_drop ?_ | refine s_name ?_ | refine s_sub ?_ | refine s_gCons ?_ | refine s_gNil ?_
  | refine s_cons ?_ | refine s_nil ?_ | refine s_cb ?_ | refine s_call ?_ | refine s_tup ?_ | refine s_lst ?_
  | refine s_mkT2 ?_ | refine s_mkT3 ?_ | refine s_mkT1 ?_ | refine s_mkT0 ?_ | refine s_mkT4 ?_ | refine s_mkT5 ?_
  | refine s_par ?_ | refine s_par3 ?_ | refine s_par2 ?_ | refine s_par33 ?_ | refine s_iRng1 ?_ | refine s_iRng2 ?_ | refine s_for ?_ | refine s_iList ?_ | refine s_iTup ?_ | refine s_theTup ?_ | refine s_lc ?_ | refine s_bm ?_
  | refine s_sl ?_ | refine s_noPart ?_ | refine s_part ?_ | refine s_abs ?_ | refine s_int ?_ | refine s_intB ?_ | refine s_max ?_ | refine s_min ?_ | refine s_max3 ?_ | refine s_theInt ?_ | refine s_lenT ?_ | refine s_tupT ?_ | refine s_slT3 ?_ | refine s_slT ?_ | refine s_dget ?_ | refine s_dget2 ?_ | refine s_din ?_ | refine s_iZip ?_ | refine s_iEnum ?_ | refine s_iEnumT ?_ | refine s_sortIt ?_ | refine s_zipT ?_ | refine s_sumM ?_ | refine s_anyM ?_ | refine s_allM ?_ | refine s_dc ?_ | refine s_iKeys ?_ | refine s_listT' ?_
  | refine s_sumT ?_
  | (refine' s_gTup ?rdi ?_; (case rdi => (with_unfolding_all rfl)))
  | (refine' s_gLst ?rdh ?rdi ?_; (case rdh => (with_unfolding_all (walk_at "lo"))); (case rdi => (with_unfolding_all rfl)))
  | (refine' s_ixT ?rdi ?_; (case rdi => (with_unfolding_all rfl)))
  | (refine' s_ixL ?rdh ?rdi ?_; (case rdh => (with_unfolding_all (walk_at "lo"))); (case rdi => (with_unfolding_all rfl)))
  | (refine' s_setL ?rdh ?rdi ?_; (case rdh => (with_unfolding_all (walk_at "en"))); (case rdi => (with_unfolding_all rfl)))
  | (refine' s_lenL ?rdh ?_; (case rdh => (with_unfolding_all (walk_at "lo"))))
  | (refine' s_all ?rdh ?_; (case rdh => (with_unfolding_all (walk_at "lo"))))
  | (refine' s_any ?rdh ?_; (case rdh => (with_unfolding_all (walk_at "lo"))))
  | (refine' s_sum ?rdh ?_; (case rdh => (with_unfolding_all (walk_at "lo"))))
  | (refine' s_listL' ?rdh ?_; (case rdh => (with_unfolding_all (walk_at "lo"))))
  | (refine' s_tupL ?rdh ?_; (case rdh => (with_unfolding_all (walk_at "lo"))))
  | (refine' And.intro (s_isL ?rdh) ?_; (case rdh => (with_unfolding_all (walk_at "en"))))
  | (refine' s_IC ?rdh ?_; (case rdh => (walk_at "nu")))
  | (refine' s_mul ?rdh ?_; (case rdh => (walk_at "nu")))
  | (refine' s_div ?rdh ?_; (case rdh => (walk_at "nu")))
  | (refine' s_floors ?rdh ?_; (case rdh => assumption)) | (refine' s_room ?rdh ?_; (case rdh => assumption))
  | (refine' s_house ?rdh ?_; (case rdh => assumption)) | (refine' s_lift ?rdh ?_; (case rdh => assumption)) | (refine' s_grps ?rdh ?_; (case rdh => assumption))
  | refine s_eqG ?_ | refine s_neG ?_ | refine s_eqN ?_ | refine s_neN ?_
  | (refine' s_aug ?rdh ?_; (case rdh => (with_unfolding_all rfl)))))
local macro_rules | `(tactic| walk_at "ad*") => `(tactic| (repeat (walk_at "ad")))

section
variable {P : Program} {w : World} {K : PySem.W.Frag} {mg : Str → Option Value} {base : Heap}
end
end Law

namespace Law
open PySem L2 MyB MyR MyD MyC Ab
local macro_rules | `(tactic| walk_at "kp") => `(tactic| first | exact Kept.refl | (refine' Kept.put ?kpa ?kpb; (case kpb => (walk_at "nn")); (case kpa => (walk_at "kp"))) | (refine' Kept.back ?kpa ?kpb; (case kpb => assumption); (case kpa => (walk_at "kp"))))
local macro_rules | `(tactic| walk_at "nn") => `(tactic| first | assumption | (refine' Kept.none ?nna ?nnb; (case nnb => assumption); (case nna => (walk_at "kp"))))
local macro_rules | `(tactic| walk_at "en") => `(tactic| first | assumption | exact pt_same | ((repeat rw [pt_ne (by assumption)]); first | assumption | exact pt_same))
local macro_rules | `(tactic| walk_at "lo") => `(tactic| first | assumption | exact lo_rf (by walk_at "en") | exact Or.inr rfl)
local macro_rules | `(tactic| walk_at "nu") => `(tactic| with_unfolding_all (first | assumption | decide | exact ⟨by decide, by decide⟩ | exact .inr ⟨by decide, by decide⟩ | exact ⟨by decide, by decide, by decide⟩ | exact ⟨by omega, by omega⟩ | exact .inl ⟨by omega, by omega⟩ | exact .inr ⟨by omega, by omega⟩))
local macro_rules | `(tactic| walk_at "ad") => `(tactic| with_reducible (first
  | refine s_seq ?_ | refine s_asg ?_ | refine s_op ?_ | refine s_un ?_
  | (refine' s_var ?rdh ?_; (case rdh => (with_unfolding_all rfl)))
  | refine s_c ?_ | refine s_add ?_ | refine s_II ?_ | refine s_IB ?_ | refine s_lt ?_ | refine s_U ?_ | refine s_eqI ?_ | refine s_neI ?_ | refine s_eqB ?_ | refine s_neB ?_ | refine s_eqX ?_ | refine s_neX ?_
  | refine s_isNn ?_ | refine s_isNi ?_ | refine s_isNt ?_ | refine s_isNr ?_ | refine s_isNb ?_ | refine s_ntNn ?_ | refine s_ntNi ?_ | refine s_ntNt ?_ | refine s_ntNr ?_
  | refine s_test ?_ | refine s_not ?_ | refine s_and ?_ | refine s_or ?_ | refine s_yes ?_ | refine s_bl ?_
  | refine s_andV ?_ | refine s_orV ?_ | refine s_notV ?_ | refine s_chain ?_ | refine s_if ?_ | refine s_next ?_ | refine s_brk ?_ | refine s_cnt ?_ | refine s_ifS ?_
  | refine s_ret ?_ | refine s_retN ?_ | refine s_drop ?_ | refine s_name ?_ | refine s_sub ?_ | refine s_gCons ?_ | refine s_gNil ?_
  | refine s_cons ?_ | refine s_nil ?_ | refine s_cb ?_ | refine s_call ?_ | refine s_tup ?_ | refine s_lst ?_
  | refine s_mkT2 ?_ | refine s_mkT3 ?_ | refine s_mkT1 ?_ | refine s_mkT0 ?_ | refine s_mkT4 ?_ | refine s_mkT5 ?_
  | refine s_par ?_ | refine s_par3 ?_ | refine s_par2 ?_ | refine s_par33 ?_ | refine s_iRng1 ?_ | refine s_iRng2 ?_ | refine s_for ?_ | refine s_iList ?_ | refine s_iTup ?_ | refine s_theTup ?_ | refine s_lc ?_ | refine s_bm ?_
  | refine s_sl ?_ | refine s_noPart ?_ | refine s_part ?_ | refine s_abs ?_ | refine s_int ?_ | refine s_intB ?_ | refine s_max ?_ | refine s_min ?_ | refine s_max3 ?_ | refine s_theInt ?_ | refine s_lenT ?_ | refine s_tupT ?_ | refine s_slT3 ?_ | refine s_slT ?_ | refine s_dget ?_ | refine s_dget2 ?_ | refine s_din ?_ | refine s_iZip ?_ | refine s_iEnum ?_ | refine s_iEnumT ?_ | refine s_sortIt ?_ | refine s_zipT ?_ | refine s_sumM ?_ | refine s_anyM ?_ | refine s_allM ?_ | refine s_dc ?_ | refine s_iKeys ?_ | refine s_listT' ?_
  | refine s_sumT ?_
  | (refine' s_gTup ?rdi ?_; (case rdi => (with_unfolding_all rfl)))
  | (refine' s_gLst ?rdh ?rdi ?_; (case rdh => (with_unfolding_all (walk_at "lo"))); (case rdi => (with_unfolding_all rfl)))
  | (refine' s_ixT ?rdi ?_; (case rdi => (with_unfolding_all rfl)))
  | (refine' s_ixL ?rdh ?rdi ?_; (case rdh => (with_unfolding_all (walk_at "lo"))); (case rdi => (with_unfolding_all rfl)))
  | (refine' s_setL ?rdh ?rdi ?_; (case rdh => (with_unfolding_all (walk_at "en"))); (case rdi => (with_unfolding_all rfl)))
  | (refine' s_lenL ?rdh ?_; (case rdh => (with_unfolding_all (walk_at "lo"))))
  | (refine' s_all ?rdh ?_; (case rdh => (with_unfolding_all (walk_at "lo"))))
  | (refine' s_any ?rdh ?_; (case rdh => (with_unfolding_all (walk_at "lo"))))
  | (refine' s_sum ?rdh ?_; (case rdh => (with_unfolding_all (walk_at "lo"))))
  | (refine' s_listL' ?rdh ?_; (case rdh => (with_unfolding_all (walk_at "lo"))))
  | (refine' s_tupL ?rdh ?_; (case rdh => (with_unfolding_all (walk_at "lo"))))
  | (refine' And.intro (s_isL ?rdh) ?_; (case rdh => (with_unfolding_all (walk_at "en"))))
  | (refine' s_IC ?rdh ?_; (case rdh => (walk_at "nu")))
  | (refine' s_mul ?rdh ?_; (case rdh => (walk_at "nu")))
  | (refine' s_div ?rdh ?_; (case rdh => (walk_at "nu")))
  | (refine' s_floors ?rdh ?_; (case rdh => assumption)) | (refine' s_room ?rdh ?_; (case rdh => assumption))
  | (refine' s_house ?rdh ?_; (case rdh => assumption)) | (refine' s_lift ?rdh ?_; (case rdh => assumption)) | (refine' s_grps ?rdh ?_; (case rdh => assumption))
  | refine s_eqG ?_ | refine s_neG ?_ | refine s_eqN ?_ | refine s_neN ?_
  | (refine' s_aug ?rdh ?_; (case rdh => (with_unfolding_all rfl)))))
local macro_rules | `(tactic| walk_at "ad*") => `(tactic| (repeat (walk_at "ad")))

local macro_rules | `(tactic| walk_at "az") => `(tactic| first | walk_at "ad" | with_reducible (first | refine iteF ?_ | refine iteT ?_ | refine ite_nT ?_ | refine ite_nF ?_ | (refine' s_rngJ ?rdh ?_; (case rdh => omega)) | (refine' s_rngJ2 ?rdh ?_; (case rdh => omega)) | refine s_isT ?_ | refine s_notT ?_ | refine s_isF ?_ | refine s_notF ?_ | refine s_isi_non_int ?_ | refine s_isi_non_bool ?_ | refine s_isi_non_tuple ?_ | refine s_isi_non_list ?_ | refine s_isi_non_str ?_ | refine s_isi_bl_int ?_ | refine s_isi_bl_bool ?_ | refine s_isi_bl_tuple ?_ | refine s_isi_bl_list ?_ | refine s_isi_bl_str ?_ | refine s_isi_int_int ?_ | refine s_isi_int_bool ?_ | refine s_isi_int_tuple ?_ | refine s_isi_int_list ?_ | refine s_isi_int_str ?_ | refine s_isi_str_int ?_ | refine s_isi_str_bool ?_ | refine s_isi_str_tuple ?_ | refine s_isi_str_list ?_ | refine s_isi_str_str ?_ | refine s_isi_tup_int ?_ | refine s_isi_tup_bool ?_ | refine s_isi_tup_tuple ?_ | refine s_isi_tup_list ?_ | refine s_isi_tup_str ?_))
local macro_rules | `(tactic| walk_at "az*") => `(tactic| (repeat (walk_at "az")))
local macro_rules | `(tactic| walk_at "cl") => `(tactic| ((repeat refine Exists.intro _ ?_); refine And.intro rfl ?_; (repeat (refine And.intro (by first | assumption | omega | exact lo_rf (by assumption)) ?_))))

/-! ### things of any kind -/
theorem tyA_subT {K : PySem.W.Frag} {η η' : Eta} {x : AV} {t : Value} (h : TyA K η x t) (k : ∀ n o, x = .rf n → η n = some o → η' n = some o) : TyA K η' x t := by
  cases h with
  | non => exact .non
  | bl => exact .bl
  | int => exact .int
  | str => exact .str
  | tup => exact .tup
  | lst e => exact .lst (k _ _ rfl e)
  | dK e => exact .dK (k _ _ rfl e)
  | dT e => exact .dT (k _ _ rfl e)
  | ob c => exact .ob c
  | ins e c => exact .ins (k _ _ rfl e) c
/-- a class that is no tuple -/
structure NoTup (K : PySem.W.Frag) (C : Addr) : Prop where
  t : PySem.W.kitOne K (.ref C) (.type "tuple") = some false
  l : PySem.W.kitOne K (.ref C) (.type "list") = some false
  s : PySem.W.kitOne K (.ref C) (.type "str") = some false
/-- a thing of any kind, its whole numbers not beyond B, no part of it the hand -/
inductive MT (K : PySem.W.Frag) (h : Nat) (B : Int) (N : Nat) (η : Eta) : AV → Prop
  | int {i} : -B ≤ i → i ≤ B → MT K h B N η (.int i)
  | bl {b} : MT K h B N η (.bl b)
  | non : MT K h B N η .non
  | str {x} : MT K h B N η (.str x)
  | lst {n xs} : η n = some (.lst xs) → n ≠ h → MT K h B N η (.rf n)
  | dK {n xs} : η n = some (.dK xs) → n ≠ h → MT K h B N η (.rf n)
  | ob {C fs} : C8.InsC K C → NoInt K C → NoTup K C → MT K h B N η (.ob C fs)
  | tup {xs} : (∀ x ∈ xs, MT K h B N η x) → xs.length ≤ N → MT K h B N η (.tup xs)
section
variable {K : PySem.W.Frag} {h N : Nat} {B : Int} {η η' : Eta} {x : AV}
theorem MT.sub (m : MT K h B N η x) (k : ∀ n o, n ≠ h → η n = some o → η' n = some o) : MT K h B N η' x := by
  induction m with
  | int a b => exact .int a b
  | bl => exact .bl
  | non => exact .non
  | str => exact .str
  | lst e n => exact .lst (k _ _ n e) n
  | dK e n => exact .dK (k _ _ n e) n
  | ob a b c => exact .ob a b c
  | tup _ l ih => exact .tup ih l
theorem MT.kb (m : MT K h B N η x) (k : KB h η η') : MT K h B N η' x := m.sub fun n o ne e => k n o ne e
theorem MT.kept (m : MT K h B N η x) (k : Kept η η') : MT K h B N η' x := m.sub fun n o _ e => k n o e
theorem MT.up {B' : Int} (m : MT K h B N η x) (hb : B ≤ B') : MT K h B' N η x := by
  induction m with
  | int a b => exact .int (by omega) (by omega)
  | bl => exact .bl
  | non => exact .non
  | str => exact .str
  | lst e n => exact .lst e n
  | dK e n => exact .dK e n
  | ob a b c => exact .ob a b c
  | tup _ l ih => exact .tup ih l
theorem MT.thg (m : MT K h B N η x) : Thg K η x := by
  cases m with
  | int => exact thg_int
  | bl => exact thg_bl
  | non => exact thg_non
  | str => exact thg_str
  | lst e n => exact thg_lst e
  | dK e n => exact thg_dK e
  | ob a b c => exact thg_ob a b
  | tup => exact thg_tup
def isTup : AV → Bool
  | .tup _ => true
  | _ => false
theorem MT.isT (m : MT K h B N η x) : ∃ t, TyA K η x t ∧ PySem.W.kitOne K t (.type "tuple") = some (isTup x) := by
  cases m with
  | int => exact ⟨_, .int, kit_ty (r := false) (by decide +kernel)⟩
  | bl => exact ⟨_, .bl, kit_ty (r := false) (by decide +kernel)⟩
  | non => exact ⟨_, .non, kit_ty (r := false) (by decide +kernel)⟩
  | str => exact ⟨_, .str, kit_ty (r := false) (by decide +kernel)⟩
  | lst e n => exact ⟨_, .lst e, kit_ty (r := false) (by decide +kernel)⟩
  | dK e n => exact ⟨_, .dK e, kit_ty (r := false) (by decide +kernel)⟩
  | ob a b c => exact ⟨_, .ob a, c.t⟩
  | tup => exact ⟨_, .tup, kit_ty (r := true) (by decide +kernel)⟩
theorem s_isTup {Q : AK} (m : MT K h B N η x) (k : Q (.bl (isTup x)) η) : kIsi K [x, .ty "tuple"] η Q := by
  obtain ⟨t, ty, e⟩ := m.isT
  exact ⟨_, _, _, _, _, rfl, .ty, ty, e, k⟩
def isS : AV → Bool
  | .str _ => true
  | _ => false
theorem MT.isSt (m : MT K h B N η x) : ∃ t, TyA K η x t ∧ PySem.W.kitOne K t (.type "str") = some (isS x) := by
  cases m with
  | int => exact ⟨_, .int, kit_ty (r := false) (by decide +kernel)⟩
  | bl => exact ⟨_, .bl, kit_ty (r := false) (by decide +kernel)⟩
  | non => exact ⟨_, .non, kit_ty (r := false) (by decide +kernel)⟩
  | str => exact ⟨_, .str, kit_ty (r := true) (by decide +kernel)⟩
  | lst e n => exact ⟨_, .lst e, kit_ty (r := false) (by decide +kernel)⟩
  | dK e n => exact ⟨_, .dK e, kit_ty (r := false) (by decide +kernel)⟩
  | ob a b c => exact ⟨_, .ob a, c.s⟩
  | tup => exact ⟨_, .tup, kit_ty (r := false) (by decide +kernel)⟩
theorem s_isStr {Q : AK} (m : MT K h B N η x) (k : Q (.bl (isS x)) η) : kIsi K [x, .ty "str"] η Q := by
  obtain ⟨t, ty, e⟩ := m.isSt
  exact ⟨_, _, _, _, _, rfl, .ty, ty, e, k⟩
theorem strOf {x : AV} (h : isS x = true) : ∃ s, x = .str s := by
  cases x with
  | str s => exact ⟨s, rfl⟩
  | _ => cases h
theorem MT.in {xs : List AV} (m : MT K h B N η (.tup xs)) : (∀ x ∈ xs, MT K h B N η x) ∧ xs.length ≤ N := by
  cases m with
  | tup a b => exact ⟨a, b⟩
theorem MT.bd {i : Int} (m : MT K h B N η (.int i)) : -B ≤ i ∧ i ≤ B := by
  cases m with
  | int a b => exact ⟨a, b⟩
end
theorem intOf_some {x : AV} {i : Int} (h : intOf x = some i) : x = .int i := by
  cases x with
  | int n => cases h; rfl
  | _ => cases h
theorem intOf_none {x : AV} (h : intOf x = none) : ∀ i, x ≠ .int i := fun i e => by subst e; cases h
theorem notTup {x : AV} (h : isTup x = false) : ∀ xs, x ≠ .tup xs := fun xs e => by subst e; cases h
theorem tupOf {x : AV} (h : isTup x = true) : ∃ xs, x = .tup xs := by
  cases x with
  | tup xs => exact ⟨xs, rfl⟩
  | _ => cases h
theorem two_of {xs : List AV} (h : xs.length = 2) : ∃ a b, xs = [a, b] := by
  match xs, h with
  | [a, b], _ => exact ⟨a, b, rfl⟩
theorem inB_bool {lo hi : Int} {x : AV} : inB lo hi x = true ↔ ∃ n, x = .int n ∧ lo ≤ n ∧ n ≤ hi := by
  constructor
  · exact inB_int
  · rintro ⟨n, rfl, a, b⟩
    show (decide (lo ≤ n) && decide (n ≤ hi)) = true
    rw [decide_eq_true a, decide_eq_true b]
    rfl
theorem mt_at {K : PySem.W.Frag} {h N : Nat} {B j : Int} {η : Eta} {xs : List AV} (al : ∀ y ∈ xs, MT K h B N η y) (j0 : 0 ≤ j) (j1 : j < xs.length) : ∃ y, atI xs j = some y ∧ MT K h B N η y := by
  have hj : j.toNat < xs.length := by omega
  exact ⟨xs[j.toNat], at_nat j0 (List.getElem?_eq_getElem hj), al _ (List.getElem_mem hj)⟩
theorem cut_to {xs : List AV} {i : Int} (h : 0 ≤ i) (h' : i ≤ xs.length) : cutA xs none (some i) = xs.take i.toNat := by
  obtain ⟨k, rfl⟩ : ∃ k : Nat, i = (k : Int) := ⟨i.toNat, by omega⟩
  unfold cutA
  rw [HT.sIx_none, HT.sIx_nat, List.drop_zero, Nat.sub_zero, Int.toNat_natCast, Nat.min_eq_left (by omega)]
theorem cut_from {xs : List AV} {i : Int} (h : 0 ≤ i) (h' : i ≤ xs.length) : cutA xs (some i) none = xs.drop i.toNat := by
  obtain ⟨k, rfl⟩ : ∃ k : Nat, i = (k : Int) := ⟨i.toNat, by omega⟩
  unfold cutA
  rw [HT.sIx_none, HT.sIx_nat, Int.toNat_natCast, Nat.min_eq_left (by omega), List.take_of_length_le (by rw [List.length_drop]; omega)]
theorem mt_put {K : PySem.W.Frag} {h N : Nat} {B : Int} {η : Eta} {xs : List AV} {y : AV} {i j : Nat} (al : ∀ y ∈ xs, MT K h B N η y) (my : MT K h B N η y) (l : xs.length + 1 ≤ N) (ij : i ≤ j) (jl : j ≤ xs.length) : MT K h B N η (.tup (xs.take i ++ [y] ++ xs.drop j)) := by
  refine .tup (fun z hz => ?_) ?_
  · rcases List.mem_append.mp hz with hz | hz
    · rcases List.mem_append.mp hz with hz | hz
      · exact al z (List.mem_of_mem_take hz)
      · rw [List.mem_singleton] at hz
        subst hz
        exact my
    · exact al z (List.mem_of_mem_drop hz)
  · rw [List.length_append, List.length_append, List.length_take, List.length_drop]
    simp only [List.length_cons, List.length_nil]
    omega
theorem mt_two {K : PySem.W.Frag} {h N : Nat} {B : Int} {η : Eta} {a b : AV} (ha : MT K h B N η a) (hb : MT K h B N η b) (n : 2 ≤ N) : MT K h B N η (.tup [a, b]) := .tup (fun z hz => by
  simp only [List.mem_cons, List.not_mem_nil, or_false] at hz
  rcases hz with rfl | rfl <;> assumption) (by simpa using n)
theorem mt_one {K : PySem.W.Frag} {h N : Nat} {B : Int} {η : Eta} {a : AV} (ha : MT K h B N η a) (n : 1 ≤ N) : MT K h B N η (.tup [a]) := .tup (fun z hz => by
  rw [List.mem_singleton] at hz
  subst hz
  exact ha) (by simpa using n)
theorem mt_three {K : PySem.W.Frag} {h N : Nat} {B : Int} {η : Eta} {a b c : AV} (ha : MT K h B N η a) (hb : MT K h B N η b) (hc : MT K h B N η c) (n : 3 ≤ N) : MT K h B N η (.tup [a, b, c]) := .tup (fun z hz => by
  simp only [List.mem_cons, List.not_mem_nil, or_false] at hz
  rcases hz with rfl | rfl | rfl <;> assumption) (by simpa using n)
theorem MT.more {K : PySem.W.Frag} {h N N' : Nat} {B B' : Int} {η : Eta} {x : AV} (m : MT K h B N η x) (hb : B ≤ B') (hn : N ≤ N') : MT K h B' N' η x := by
  induction m with
  | int a b => exact .int (by omega) (by omega)
  | bl => exact .bl
  | non => exact .non
  | str => exact .str
  | lst e n => exact .lst e n
  | dK e n => exact .dK e n
  | ob a b c => exact .ob a b c
  | tup _ l ih => exact .tup ih (by omega)
end Law

namespace Law
open PySem L2 MyB MyR MyD Ab
abbrev Mv := Int × List (Int × Int)
abbrev pV (x : Int × Int) : AV := .tup [.int x.1, .int x.2]
abbrev abV (A : List (Int × Int)) : AV := .tup (A.map pV)
abbrev mV (m : Mv) : AV := .tup [.int m.1, abV m.2]
end Law

namespace Law
open PySem L2 MyB MyR MyD MyC Ab
local macro_rules | `(tactic| walk_at "kp") => `(tactic| first | exact Kept.refl | (refine' Kept.put ?kpa ?kpb; (case kpb => (walk_at "nn")); (case kpa => (walk_at "kp"))) | (refine' Kept.back ?kpa ?kpb; (case kpb => assumption); (case kpa => (walk_at "kp"))))
local macro_rules | `(tactic| walk_at "nn") => `(tactic| first | assumption | (refine' Kept.none ?nna ?nnb; (case nnb => assumption); (case nna => (walk_at "kp"))))
local macro_rules | `(tactic| walk_at "en") => `(tactic| first | assumption | exact pt_same | ((repeat rw [pt_ne (by assumption)]); first | assumption | exact pt_same))
local macro_rules | `(tactic| walk_at "lo") => `(tactic| first | assumption | exact lo_rf (by walk_at "en") | exact Or.inr rfl)
local macro_rules | `(tactic| walk_at "nu") => `(tactic| with_unfolding_all (first | assumption | decide | exact ⟨by decide, by decide⟩ | exact .inr ⟨by decide, by decide⟩ | exact ⟨by decide, by decide, by decide⟩ | exact ⟨by omega, by omega⟩ | exact .inl ⟨by omega, by omega⟩ | exact .inr ⟨by omega, by omega⟩))
local macro_rules | `(tactic| walk_at "ad") => `(tactic| with_reducible (first
  | refine s_seq ?_ | refine s_asg ?_ | refine s_op ?_ | refine s_un ?_
  | (refine' s_var ?rdh ?_; (case rdh => (with_unfolding_all rfl)))
  | refine s_c ?_ | refine s_add ?_ | refine s_II ?_ | refine s_IB ?_ | refine s_lt ?_ | refine s_U ?_ | refine s_eqI ?_ | refine s_neI ?_ | refine s_eqB ?_ | refine s_neB ?_ | refine s_eqX ?_ | refine s_neX ?_
  | refine s_isNn ?_ | refine s_isNi ?_ | refine s_isNt ?_ | refine s_isNr ?_ | refine s_isNb ?_ | refine s_ntNn ?_ | refine s_ntNi ?_ | refine s_ntNt ?_ | refine s_ntNr ?_
  | refine s_test ?_ | refine s_not ?_ | refine s_and ?_ | refine s_or ?_ | refine s_yes ?_ | refine s_bl ?_
  | refine s_andV ?_ | refine s_orV ?_ | refine s_notV ?_ | refine s_chain ?_ | refine s_if ?_ | refine s_next ?_ | refine s_brk ?_ | refine s_cnt ?_ | refine s_ifS ?_
  | refine s_ret ?_ | refine s_retN ?_ | refine s_drop ?_ | refine s_name ?_ | refine s_sub ?_ | refine s_gCons ?_ | refine s_gNil ?_
  | refine s_cons ?_ | refine s_nil ?_ | refine s_cb ?_ | refine s_call ?_ | refine s_tup ?_ | refine s_lst ?_
  | refine s_mkT2 ?_ | refine s_mkT3 ?_ | refine s_mkT1 ?_ | refine s_mkT0 ?_ | refine s_mkT4 ?_ | refine s_mkT5 ?_
  | refine s_par ?_ | refine s_par3 ?_ | refine s_par2 ?_ | refine s_par33 ?_ | refine s_iRng1 ?_ | refine s_iRng2 ?_ | refine s_for ?_ | refine s_iList ?_ | refine s_iTup ?_ | refine s_theTup ?_ | refine s_lc ?_ | refine s_bm ?_
  | refine s_sl ?_ | refine s_noPart ?_ | refine s_part ?_ | refine s_abs ?_ | refine s_int ?_ | refine s_intB ?_ | refine s_max ?_ | refine s_min ?_ | refine s_max3 ?_ | refine s_theInt ?_ | refine s_lenT ?_ | refine s_tupT ?_ | refine s_slT3 ?_ | refine s_slT ?_ | refine s_dget ?_ | refine s_dget2 ?_ | refine s_din ?_ | refine s_iZip ?_ | refine s_iEnum ?_ | refine s_iEnumT ?_ | refine s_sortIt ?_ | refine s_zipT ?_ | refine s_sumM ?_ | refine s_anyM ?_ | refine s_allM ?_ | refine s_dc ?_ | refine s_iKeys ?_ | refine s_listT' ?_
  | refine s_sumT ?_
  | (refine' s_gTup ?rdi ?_; (case rdi => (with_unfolding_all rfl)))
  | (refine' s_gLst ?rdh ?rdi ?_; (case rdh => (with_unfolding_all (walk_at "lo"))); (case rdi => (with_unfolding_all rfl)))
  | (refine' s_ixT ?rdi ?_; (case rdi => (with_unfolding_all rfl)))
  | (refine' s_ixL ?rdh ?rdi ?_; (case rdh => (with_unfolding_all (walk_at "lo"))); (case rdi => (with_unfolding_all rfl)))
  | (refine' s_setL ?rdh ?rdi ?_; (case rdh => (with_unfolding_all (walk_at "en"))); (case rdi => (with_unfolding_all rfl)))
  | (refine' s_lenL ?rdh ?_; (case rdh => (with_unfolding_all (walk_at "lo"))))
  | (refine' s_all ?rdh ?_; (case rdh => (with_unfolding_all (walk_at "lo"))))
  | (refine' s_any ?rdh ?_; (case rdh => (with_unfolding_all (walk_at "lo"))))
  | (refine' s_sum ?rdh ?_; (case rdh => (with_unfolding_all (walk_at "lo"))))
  | (refine' s_listL' ?rdh ?_; (case rdh => (with_unfolding_all (walk_at "lo"))))
  | (refine' s_tupL ?rdh ?_; (case rdh => (with_unfolding_all (walk_at "lo"))))
  | (refine' And.intro (s_isL ?rdh) ?_; (case rdh => (with_unfolding_all (walk_at "en"))))
  | (refine' s_IC ?rdh ?_; (case rdh => (walk_at "nu")))
  | (refine' s_mul ?rdh ?_; (case rdh => (walk_at "nu")))
  | (refine' s_div ?rdh ?_; (case rdh => (walk_at "nu")))
  | (refine' s_floors ?rdh ?_; (case rdh => assumption)) | (refine' s_room ?rdh ?_; (case rdh => assumption))
  | (refine' s_house ?rdh ?_; (case rdh => assumption)) | (refine' s_lift ?rdh ?_; (case rdh => assumption)) | (refine' s_grps ?rdh ?_; (case rdh => assumption))
  | refine s_eqG ?_ | refine s_neG ?_ | refine s_eqN ?_ | refine s_neN ?_
  | (refine' s_aug ?rdh ?_; (case rdh => (with_unfolding_all rfl)))))
local macro_rules | `(tactic| walk_at "ad*") => `(tactic| (repeat (walk_at "ad")))

theorem tyA_sub {K : PySem.W.Frag} {η η' : Eta} {x : AV} {t : Value} (h : TyA K η x t) (k : ∀ n o, x = .rf n → η n = some o → η' n = some o) : TyA K η' x t := by
  cases h with
  | non => exact .non
  | bl => exact .bl
  | int => exact .int
  | str => exact .str
  | tup => exact .tup
  | lst e => exact .lst (k _ _ rfl e)
  | dK e => exact .dK (k _ _ rfl e)
  | dT e => exact .dT (k _ _ rfl e)
  | ob c => exact .ob c
  | ins e c => exact .ins (k _ _ rfl e) c
theorem Thg.sub {K : PySem.W.Frag} {η η' : Eta} {x : AV} (h : Thg K η x) (k : ∀ n o, x = .rf n → η n = some o → η' n = some o) : Thg K η' x := by
  obtain ⟨t, b1, b2, ty, r⟩ := h
  exact ⟨t, b1, b2, tyA_sub ty k, r⟩
theorem Thg.kb {K : PySem.W.Frag} {η η' : Eta} {d : Nat} {x : AV} (h : Thg K η x) (k : KB d η η') (n : x ≠ .rf d) : Thg K η' x := h.sub fun m o e q => k m o (by rintro rfl; exact n e) q
section
variable {P : Program} {w : World} {K : PySem.W.Frag} {mg : Str → Option Value} {base : Heap} {CH CS CR C : Addr}
def spLIsInt (K : PySem.W.Frag) : ASp := fun xs η Q => ∃ (x : AV) (lo hi : Int), xs = [x, .int lo, .int hi] ∧ Thg K η x ∧ Q (.bl (inB lo hi x)) η
theorem D__law_is_int (B : Bi mg) (R__law_is_int : Raw K mg "_law_is_int" s__law_is_int) : XDef P w K mg base 2 "_law_is_int" ["_law_thing", "_law_least", "_law_most"] (spLIsInt K) := by
  refine XDef.of R__law_is_int (N := N__law_is_int) (ps := ["_law_thing", "_law_least", "_law_most"]) sc__law_is_int (fun _ _ _ _ _ _ us hl => match us, hl with | [_, _, _], _ => rfl) ?_ fun f cdv A outer s H E hr => ⟨_, (xss_one (xs_ret (xe_and (xe_callB (xc_isi rfl) (by rfl) B.isinstance (by decide +kernel) (xa_cons (xv 0) (xa_cons (xe_bltn (n := "int") (by rfl) B.int (by decide +kernel)) xa_nil))) (xe_and (xe_not (xe_callB (xc_isi rfl) (by rfl) B.isinstance (by decide +kernel) (xa_cons (xv 0) (xa_cons (xe_bltn (n := "bool") (by rfl) B.bool (by decide +kernel)) xa_nil)))) (xe_one (xe_chain xo_le xo_le (xv 1) (xv 0) (xv 2))))))), ?_⟩
  · rintro xs η Q ⟨x, lo, hi, rfl, _⟩
    rfl
  rintro xs η Q ⟨x, lo, hi, rfl, ⟨t, b1, b2, ty, q1, q2, e⟩, k⟩
  walk_at "ad*"
  refine ⟨_, _, _, _, _, rfl, .ty, ty, q1, ?_⟩
  walk_at "ad*"
  cases b1 with
  | false =>
    refine iteF ?_
    cases x with
    | int n => cases e
    | _ => exact .same k
  | true =>
    refine ite_yes rfl ?_
    walk_at "ad*"
    refine ⟨_, _, _, _, _, rfl, .ty, ty, q2, ?_⟩
    walk_at "ad*"
    cases b2 with
    | true =>
      refine iteF ?_
      cases x with
      | int n => cases e
      | _ => exact .same k
    | false =>
      refine ite_yes rfl ?_
      cases x with
      | int n =>
        walk_at "ad*"
        have k : Q (.bl (decide (lo ≤ n) && decide (n ≤ hi))) η := k
        refine ite_dec (fun c => ?_) (fun c => ?_)
        · walk_at "ad*"
          rw [decide_eq_true c, Bool.true_and] at k
          exact .same k
        · rw [decide_eq_false c, Bool.false_and] at k
          exact .same k
      | _ => cases e
end
end Law

namespace Law
open PySem L2 MyB MyR MyD MyC Ab
local macro_rules | `(tactic| walk_at "kp") => `(tactic| first | exact Kept.refl | (refine' Kept.put ?kpa ?kpb; (case kpb => (walk_at "nn")); (case kpa => (walk_at "kp"))) | (refine' Kept.back ?kpa ?kpb; (case kpb => assumption); (case kpa => (walk_at "kp"))))
local macro_rules | `(tactic| walk_at "nn") => `(tactic| first | assumption | (refine' Kept.none ?nna ?nnb; (case nnb => assumption); (case nna => (walk_at "kp"))))
local macro_rules | `(tactic| walk_at "en") => `(tactic| first | assumption | exact pt_same | ((repeat rw [pt_ne (by assumption)]); first | assumption | exact pt_same))
local macro_rules | `(tactic| walk_at "lo") => `(tactic| first | assumption | exact lo_rf (by walk_at "en") | exact Or.inr rfl)
local macro_rules | `(tactic| walk_at "nu") => `(tactic| with_unfolding_all (first | assumption | decide | exact ⟨by decide, by decide⟩ | exact .inr ⟨by decide, by decide⟩ | exact ⟨by decide, by decide, by decide⟩ | exact ⟨by omega, by omega⟩ | exact .inl ⟨by omega, by omega⟩ | exact .inr ⟨by omega, by omega⟩))
local macro_rules | `(tactic| walk_at "ad") => `(tactic| with_reducible (first
  | refine s_seq ?_ | refine s_asg ?_ | refine s_op ?_ | refine s_un ?_
  | (refine' s_var ?rdh ?_; (case rdh => (with_unfolding_all rfl)))
  | refine s_c ?_ | refine s_add ?_ | refine s_II ?_ | refine s_IB ?_ | refine s_lt ?_ | refine s_U ?_ | refine s_eqI ?_ | refine s_neI ?_ | refine s_eqB ?_ | refine s_neB ?_ | refine s_eqX ?_ | refine s_neX ?_
  | refine s_isNn ?_ | refine s_isNi ?_ | refine s_isNt ?_ | refine s_isNr ?_ | refine s_isNb ?_ | refine s_ntNn ?_ | refine s_ntNi ?_ | refine s_ntNt ?_ | refine s_ntNr ?_
  | refine s_test ?_ | refine s_not ?_ | refine s_and ?_ | refine s_or ?_ | refine s_yes ?_ | refine s_bl ?_
  | refine s_andV ?_ | refine s_orV ?_ | refine s_notV ?_ | refine s_chain ?_ | refine s_if ?_ | refine s_next ?_ | refine s_brk ?_ | refine s_cnt ?_ | refine s_ifS ?_
  | refine s_ret ?_ | refine s_retN ?_ | refine s_drop ?_ | refine s_name ?_ | refine s_sub ?_ | refine s_gCons ?_ | refine s_gNil ?_
  | refine s_cons ?_ | refine s_nil ?_ | refine s_cb ?_ | refine s_call ?_ | refine s_tup ?_ | refine s_lst ?_
  | refine s_mkT2 ?_ | refine s_mkT3 ?_ | refine s_mkT1 ?_ | refine s_mkT0 ?_ | refine s_mkT4 ?_ | refine s_mkT5 ?_
  | refine s_par ?_ | refine s_par3 ?_ | refine s_par2 ?_ | refine s_par33 ?_ | refine s_iRng1 ?_ | refine s_iRng2 ?_ | refine s_for ?_ | refine s_iList ?_ | refine s_iTup ?_ | refine s_theTup ?_ | refine s_lc ?_ | refine s_bm ?_
  | refine s_sl ?_ | refine s_noPart ?_ | refine s_part ?_ | refine s_abs ?_ | refine s_int ?_ | refine s_intB ?_ | refine s_max ?_ | refine s_min ?_ | refine s_max3 ?_ | refine s_theInt ?_ | refine s_lenT ?_ | refine s_tupT ?_ | refine s_slT3 ?_ | refine s_slT ?_ | refine s_dget ?_ | refine s_dget2 ?_ | refine s_din ?_ | refine s_iZip ?_ | refine s_iEnum ?_ | refine s_iEnumT ?_ | refine s_sortIt ?_ | refine s_zipT ?_ | refine s_sumM ?_ | refine s_anyM ?_ | refine s_allM ?_ | refine s_dc ?_ | refine s_iKeys ?_ | refine s_listT' ?_
  | refine s_sumT ?_
  | (refine' s_gTup ?rdi ?_; (case rdi => (with_unfolding_all rfl)))
  | (refine' s_gLst ?rdh ?rdi ?_; (case rdh => (with_unfolding_all (walk_at "lo"))); (case rdi => (with_unfolding_all rfl)))
  | (refine' s_ixT ?rdi ?_; (case rdi => (with_unfolding_all rfl)))
  | (refine' s_ixL ?rdh ?rdi ?_; (case rdh => (with_unfolding_all (walk_at "lo"))); (case rdi => (with_unfolding_all rfl)))
  | (refine' s_setL ?rdh ?rdi ?_; (case rdh => (with_unfolding_all (walk_at "en"))); (case rdi => (with_unfolding_all rfl)))
  | (refine' s_lenL ?rdh ?_; (case rdh => (with_unfolding_all (walk_at "lo"))))
  | (refine' s_all ?rdh ?_; (case rdh => (with_unfolding_all (walk_at "lo"))))
  | (refine' s_any ?rdh ?_; (case rdh => (with_unfolding_all (walk_at "lo"))))
  | (refine' s_sum ?rdh ?_; (case rdh => (with_unfolding_all (walk_at "lo"))))
  | (refine' s_listL' ?rdh ?_; (case rdh => (with_unfolding_all (walk_at "lo"))))
  | (refine' s_tupL ?rdh ?_; (case rdh => (with_unfolding_all (walk_at "lo"))))
  | (refine' And.intro (s_isL ?rdh) ?_; (case rdh => (with_unfolding_all (walk_at "en"))))
  | (refine' s_IC ?rdh ?_; (case rdh => (walk_at "nu")))
  | (refine' s_mul ?rdh ?_; (case rdh => (walk_at "nu")))
  | (refine' s_div ?rdh ?_; (case rdh => (walk_at "nu")))
  | (refine' s_floors ?rdh ?_; (case rdh => assumption)) | (refine' s_room ?rdh ?_; (case rdh => assumption))
  | (refine' s_house ?rdh ?_; (case rdh => assumption)) | (refine' s_lift ?rdh ?_; (case rdh => assumption)) | (refine' s_grps ?rdh ?_; (case rdh => assumption))
  | refine s_eqG ?_ | refine s_neG ?_ | refine s_eqN ?_ | refine s_neN ?_
  | (refine' s_aug ?rdh ?_; (case rdh => (with_unfolding_all rfl)))))
local macro_rules | `(tactic| walk_at "ad*") => `(tactic| (repeat (walk_at "ad")))

local macro_rules | `(tactic| walk_at "az") => `(tactic| first | walk_at "ad" | with_reducible (first | refine iteF ?_ | refine iteT ?_ | refine ite_nT ?_ | refine ite_nF ?_ | (refine' s_rngJ ?rdh ?_; (case rdh => omega)) | (refine' s_rngJ2 ?rdh ?_; (case rdh => omega)) | refine s_isT ?_ | refine s_notT ?_ | refine s_isF ?_ | refine s_notF ?_ | refine s_isi_non_int ?_ | refine s_isi_non_bool ?_ | refine s_isi_non_tuple ?_ | refine s_isi_non_list ?_ | refine s_isi_non_str ?_ | refine s_isi_bl_int ?_ | refine s_isi_bl_bool ?_ | refine s_isi_bl_tuple ?_ | refine s_isi_bl_list ?_ | refine s_isi_bl_str ?_ | refine s_isi_int_int ?_ | refine s_isi_int_bool ?_ | refine s_isi_int_tuple ?_ | refine s_isi_int_list ?_ | refine s_isi_int_str ?_ | refine s_isi_str_int ?_ | refine s_isi_str_bool ?_ | refine s_isi_str_tuple ?_ | refine s_isi_str_list ?_ | refine s_isi_str_str ?_ | refine s_isi_tup_int ?_ | refine s_isi_tup_bool ?_ | refine s_isi_tup_tuple ?_ | refine s_isi_tup_list ?_ | refine s_isi_tup_str ?_))
local macro_rules | `(tactic| walk_at "az*") => `(tactic| (repeat (walk_at "az")))
local macro_rules | `(tactic| walk_at "cl") => `(tactic| ((repeat refine Exists.intro _ ?_); refine And.intro rfl ?_; (repeat (refine And.intro (by first | assumption | omega | exact lo_rf (by assumption)) ?_))))

/-! ### built moves among things of any kind -/
theorem take_snocB {α : Type} {zs : List α} {i : Nat} {y : α} (h : zs[i]? = some y) : zs.take (i + 1) = zs.take i ++ [y] := by
  rw [List.take_add_one, h]
  rfl
def okA (A : List (Int × Int)) : Prop := (A.Pairwise fun x y => x.1 < y.1) ∧ ∀ y ∈ A, 0 ≤ y.1 ∧ 1 ≤ y.2
def okM (m : Mv) : Prop := (m.1 = 1 ∨ m.1 = -1) ∧ okA m.2
theorem okA_mt {K : PySem.W.Frag} {h N : Nat} {B : Int} {η : Eta} {A : List (Int × Int)} (b : ∀ y ∈ A, -B ≤ y.1 ∧ y.1 ≤ B ∧ -B ≤ y.2 ∧ y.2 ≤ B) (l : A.length ≤ N) (n2 : 2 ≤ N) : MT K h B N η (abV A) := by
  refine .tup (fun x hx => ?_) (by rw [List.length_map]; exact l)
  obtain ⟨y, hy, rfl⟩ := List.mem_map.mp hx
  have := b y hy
  refine .tup (fun z hz => ?_) (by simpa using n2)
  simp only [List.mem_cons, List.not_mem_nil, or_false] at hz
  rcases hz with rfl | rfl
  · exact .int (by omega) (by omega)
  · exact .int (by omega) (by omega)
theorem pV_inj {p q : Int × Int} (h : pV p = pV q) : p = q := by
  obtain ⟨a, b⟩ := p
  obtain ⟨c, d⟩ := q
  simp only [pV, AV.tup.injEq, List.cons.injEq, AV.int.injEq, and_true] at h
  rw [h.1, h.2]
theorem map_pV_inj : ∀ {A C : List (Int × Int)}, A.map pV = C.map pV → A = C
  | [], [], _ => rfl
  | [], _ :: _, h => by cases h
  | _ :: _, [], h => by cases h
  | a :: A, c :: C, h => by
    rw [List.map_cons, List.map_cons] at h
    injection h with h1 h2
    rw [pV_inj h1, map_pV_inj h2]
theorem mV_inj {m n : Mv} (h : mV m = mV n) : m = n := by
  obtain ⟨a, A⟩ := m
  obtain ⟨b, C⟩ := n
  simp only [mV, abV, AV.tup.injEq, List.cons.injEq, AV.int.injEq, and_true] at h
  rw [h.1, map_pV_inj h.2]
theorem asc_zip {A : List (Int × Int)} : ((A.zip (A.drop 1)).all fun p => decide (p.1.1 < p.2.1)) = true ↔ A.Pairwise fun x y => x.1 < y.1 := by
  induction A with
  | nil => simp
  | cons a A ih =>
    cases A with
    | nil => simp
    | cons b A =>
      have e : ((a :: b :: A).zip ((a :: b :: A).drop 1)) = (a, b) :: ((b :: A).zip ((b :: A).drop 1)) := rfl
      rw [e, List.all_cons, Bool.and_eq_true, ih, decide_eq_true_eq]
      constructor
      · rintro ⟨h1, h2⟩
        refine List.pairwise_cons.mpr ⟨fun y hy => ?_, h2⟩
        rcases List.mem_cons.mp hy with rfl | hy
        · exact h1
        · have := (List.pairwise_cons.mp h2).1 y hy
          have h1 : a.1 < b.1 := h1
          omega
      · intro h
        obtain ⟨h1, h2⟩ := List.pairwise_cons.mp h
        exact ⟨h1 b List.mem_cons_self, h2⟩
theorem no_A {xs : List AV} {i : Nat} {y : AV} (hy : xs[i]? = some y) (n : ∀ p, y = pV p → 0 ≤ p.1 → 1 ≤ p.2 → False) : ¬ ∃ A, AV.tup xs = abV A ∧ okA A := by
  rintro ⟨A, e, ok⟩
  have e := AV.tup.inj e
  subst e
  rw [List.getElem?_map] at hy
  obtain ⟨p, hp, rfl⟩ := Option.map_eq_some_iff.mp hy
  obtain ⟨p1, p2⟩ := ok.2 p (List.mem_of_getElem? hp)
  exact n p rfl p1 p2
theorem pick_A : ∀ {xs : List AV}, (∀ y ∈ xs, ∃ p, y = pV p ∧ 0 ≤ p.1 ∧ 1 ≤ p.2) → ∃ A : List (Int × Int), xs = A.map pV ∧ ∀ p ∈ A, 0 ≤ p.1 ∧ 1 ≤ p.2
  | [], _ => ⟨[], rfl, fun p hp => by cases hp⟩
  | x :: xs, h => by
    obtain ⟨p, rfl, hp⟩ := h _ List.mem_cons_self
    obtain ⟨A, rfl, hA⟩ := pick_A (xs := xs) fun y hy => h y (List.mem_cons_of_mem _ hy)
    exact ⟨p :: A, rfl, fun q hq => by
      rcases List.mem_cons.mp hq with rfl | hq
      · exact hp
      · exact hA q hq⟩
section
variable {P : Program} {w : World} {K : PySem.W.Frag} {mg : Str → Option Value} {base : Heap} {CH CS CR C : Addr}
/-- tells whether p -/
abbrev Tells (p : Prop) (Q : AK) (η : Eta) : Prop := ∀ b : Bool, (b = true ↔ p) → Q (.bl b) η
def wayB (x : AV) : Bool := match intOf x with | some n => decide (n = 1 ∨ n = -1) | none => false
def spZWay (K : PySem.W.Frag) : ASp := fun xs η Q => ∃ x, xs = [x] ∧ Thg K η x ∧ Q (.bl (wayB x)) η
theorem Z_is_way (B : Bi mg) {t1 t2 : Tok} (c_UP : mg "UP" = some (.int 1 t1)) (c_DOWN : mg "DOWN" = some (.int (-1) t2)) (R_is_way : Raw K mg "is_way" s_is_way) (D_is_integer : XDef P w K mg base 2 "is_integer" ["thing"] (spXInteger K)) :
    XDef P w K mg base 3 "is_way" ["thing"] (spZWay K) := by
  refine XDef.of R_is_way (N := N_is_way) (ps := ["thing"]) sc_is_way (fun _ _ _ _ _ _ us hl => match us, hl with | [_], _ => rfl) ?_ fun f cdv A outer s H E hr => ⟨_, (xss_one (xs_ret (xe_and (xe_callD rfl D_is_integer (hr.mono (by decide)) rfl (xa_cons (xv 0) xa_nil)) (xe_one (xe_cmpR (xo_inI rfl) (xv 0) (xe_tup (xa_cons (xe_globI rfl c_UP) (xa_cons (xe_globI rfl c_DOWN) xa_nil))) (by rfl)))))), ?_⟩
  · rintro xs η Q ⟨x, rfl, _⟩
    rfl
  rintro xs η Q ⟨x, rfl, th, k⟩
  walk_at "az*"
  refine ⟨x, rfl, th, ?_⟩
  walk_at "az*"
  unfold wayB at k
  cases e : intOf x with
  | none =>
    rewrite [e] at k
    exact iteF (.same k)
  | some n =>
    have ex := intOf_some e
    subst ex
    rewrite [e] at k
    refine iteT ?_
    walk_at "az*"
    refine ⟨n, [1, -1], rfl, .inr rfl, ?_⟩
    have e : (if false = true then !decide (n ∈ ([1, -1] : List Int)) else decide (n ∈ ([1, -1] : List Int))) = decide (n = 1 ∨ n = -1) := by
      rw [if_neg (by decide)]
      exact decide_eq_decide.mpr (by simp)
    rewrite [e]
    exact .same k
def spZAboard (K : PySem.W.Frag) : ASp := fun xs η Q => ∃ (h N : Nat) (Z : Int) (x : AV), xs = [x] ∧ N ≤ 1000000 ∧ MT K h Z N η x ∧ Tells (∃ A, x = abV A ∧ okA A) Q η
theorem Z_is_aboard (B : Bi mg) (R_is_aboard : Raw K mg "is_aboard" s_is_aboard) (D_is_integer : XDef P w K mg base 2 "is_integer" ["thing"] (spXInteger K)) : XDef P w K mg base 3 "is_aboard" ["thing"] (spZAboard K) := by
  refine XDef.of R_is_aboard (N := N_is_aboard) (ps := ["thing"]) sc_is_aboard (fun _ _ _ _ _ _ us hl => match us, hl with | [_], _ => rfl) ?_ fun f cdv A outer s H E hr => ⟨_, (xss_cons (xs_if (xt_not (xt_val (xe_callB (xc_isi rfl) (by rfl) B.isinstance (by decide +kernel) (xa_cons (xv 0) (xa_cons (xe_bltn (n := "tuple") (by rfl) B.tuple (by decide +kernel)) xa_nil)))))
    (xss_one (xs_ret xe_bl))
    xss_nil)
  (xss_cons (xs_for PassesOwn.never rfl (xi_tup rfl (xv 0)) (xg_name (i := 1) sc_is_aboard.nd rfl (Or.inl rfl))
    (xss_cons (xs_if (XW.xt (xw_or (xt_not (xt_val (xe_callB (xc_isi rfl) (by rfl) B.isinstance (by decide +kernel) (xa_cons (xv 1) (xa_cons (xe_bltn (n := "tuple") (by rfl) B.tuple (by decide +kernel)) xa_nil))))) (xw_or (xt_cmpR (xu_ne rfl hr.units) (xe_callB (xc_len rfl) (by rfl) B.len (by decide +kernel) (xa_cons (xv 1) xa_nil)) xe_int (nomark _)) (xw_or (xt_not (xt_val (xe_callD rfl D_is_integer (hr.mono (by decide)) rfl (xa_cons (xe_ix (xu_ix rfl) (xv 1) xe_int (fun _ _ => rfl)) xa_nil)))) (xw_or1 (xt_not (xt_val (xe_callD rfl D_is_integer (hr.mono (by decide)) rfl (xa_cons (xe_ix (xu_ix rfl) (xv 1) xe_int (fun _ _ => rfl)) xa_nil)))))))))
        (xss_one (xs_ret xe_bl))
        xss_nil)
      (xss_one (xs_if (XW.xt (xw_or (xt_cmpR (xu_lt rfl hr.units) (xe_ix (xu_ix rfl) (xv 1) xe_int (fun _ _ => rfl)) xe_int (nomark _)) (xw_or1 (xt_cmpR (xu_lt rfl hr.units) (xe_ix (xu_ix rfl) (xv 1) xe_int (fun _ _ => rfl)) xe_int (nomark _)))))
        (xss_one (xs_ret xe_bl))
        xss_nil))))
  (xss_one (xs_ret (xe_callB (xc_all rfl rfl) (by rfl) B.all (by decide +kernel) (xa_cons (xe_lc (own := [("one", 2), ("other", 3)]) rfl sc_is_aboard.nd (xi_zip rfl (by rfl) B.zip (xa_cons (xv 0) (xa_cons (xe_slice (xu_sl rfl) (xv 0) (xpo_some xe_int) xpo_none) xa_nil))) (blkOk_by (own := [("one", 2), ("other", 3)]) (N := N_is_aboard) (sc := defScope s_is_aboard) (by decide +kernel)) (fun _ _ _ _ _ => (xgc_tup (n := 2) rfl rfl (xgsc_cons (xgc_name (i := 2) sc_is_aboard.nd rfl (Or.inl rfl)) (xgsc_cons (xgc_name (i := 3) sc_is_aboard.nd rfl (Or.inl rfl)) xgsc_nil)))) (fun _ _ _ _ _ => xts_nil) (fun _ _ _ _ _ => (xe_cmpR (xu_lt rfl hr.units) (xe_ix (xu_ix rfl) (xv 2) xe_int (fun _ _ => rfl)) (xe_ix (xu_ix rfl) (xv 3) xe_int (fun _ _ => rfl)) (nomark _)))) xa_nil)))))), ?_⟩
  · rintro xs η Q ⟨h, N, Z, x, rfl, _⟩
    rfl
  rintro xs η Q ⟨h, N, Z, x, rfl, hN, mt, k⟩
  walk_at "az*"
  refine s_isTup mt ?_
  cases it : isTup x with
  | false =>
    walk_at "az*"
    exact .same (k false ⟨fun q => (by cases q), fun ⟨A, e, _⟩ => absurd e (notTup it _)⟩)
  | true =>
    obtain ⟨zs, rfl⟩ := tupOf it
    obtain ⟨mz, lz⟩ := mt.in
    walk_at "az*"
    refine for_map zs id (List.map_id _).symm (fun i ρ' η' => η' = η ∧ (∀ y ∈ zs.take i, ∃ p, y = pV p ∧ 0 ≤ p.1 ∧ 1 ≤ p.2) ∧ ∃ v1 : Option AV, ρ' = [some (.tup zs), v1, none, none]) ⟨rfl, fun y hy => by simp at hy, _, rfl⟩ (fun _ _ _ _ _ => trivial) ?_ ?_
    · rintro i ρ' η' y hy ⟨rfl, al, v1, rfl⟩
      have my := mz y (List.mem_of_getElem? hy)
      have no : (∀ p, y = pV p → 0 ≤ p.1 → 1 ≤ p.2 → False) → Q (.bl false) η' := fun n => k false ⟨fun q => (by cases q), fun q => absurd q (no_A hy n)⟩
      show agName 1 y _ _ _
      walk_at "az*"
      refine s_isTup my ?_
      cases iy : isTup y with
      | false =>
        walk_at "az*"
        exact .same (no fun p e => absurd e (notTup iy _))
      | true =>
        obtain ⟨ys, rfl⟩ := tupOf iy
        walk_at "az*"
        refine ite_ndec (fun l2 => ?_) (fun l2 => ?_)
        rotate_left
        · walk_at "az*"
          refine .same (no fun p e _ _ => l2 ?_)
          have := AV.tup.inj e
          rw [this]
          rfl
        obtain ⟨a, b, rfl⟩ := two_of (show ys.length = 2 by omega)
        obtain ⟨ma, _⟩ := my.in
        have m1 := ma a (by simp)
        have m2 := ma b (by simp)
        walk_at "az*"
        refine ⟨a, rfl, m1.thg, ?_⟩
        cases ia : intOf a with
        | none =>
          walk_at "az*"
          refine iteT ?_
          walk_at "az*"
          refine .same (no fun p e => ?_)
          have := AV.tup.inj e
          injection this with e1 _
          exact absurd e1 (intOf_none ia _)
        | some u =>
          have ea := intOf_some ia
          subst ea
          walk_at "az*"
          refine iteF ?_
          walk_at "az*"
          refine ⟨b, rfl, m2.thg, ?_⟩
          cases ib : intOf b with
          | none =>
            walk_at "az*"
            refine iteT ?_
            walk_at "az*"
            refine .same (no fun p e => ?_)
            have := AV.tup.inj e
            injection this with _ e2
            injection e2 with e2 _
            exact absurd e2 (intOf_none ib _)
          | some v =>
            have eb := intOf_some ib
            subst eb
            walk_at "az*"
            refine iteF ?_
            walk_at "az*"
            have ep : ∀ p, AV.tup [.int u, .int v] = pV p → p = (u, v) := fun p e => (pV_inj (p := (u, v)) e).symm
            refine ite_dec (fun q => ?_) (fun q => ?_)
            · walk_at "az*"
              refine .same (no fun p e h1 _ => ?_)
              rw [ep p e] at h1
              have h1 : 0 ≤ u := h1
              omega
            walk_at "az*"
            refine ite_dec (fun q2 => ?_) (fun q2 => ?_)
            · walk_at "az*"
              refine .same (no fun p e _ h2 => ?_)
              rw [ep p e] at h2
              have h2 : 1 ≤ v := h2
              omega
            walk_at "az*"
            refine ⟨rfl, fun y hy' => ?_, _, rfl⟩
            rw [take_snocB hy] at hy'
            rcases List.mem_append.mp hy' with hy' | hy'
            · exact al y hy'
            · rw [List.mem_singleton] at hy'
              exact ⟨(u, v), hy', by show 0 ≤ u; omega, by show 1 ≤ v; omega⟩
    · rintro ρ' η' ⟨rfl, al, v1, rfl⟩
      rw [List.take_length] at al
      obtain ⟨A, rfl, pos⟩ := pick_A al
      rw [List.length_map] at lz
      have e1 : cutA (A.map pV) (some 1) none = (A.drop 1).map pV := by
        unfold cutA
        rw [HT.sIx_none]
        have := HT.sIx_nat (A.map pV).length 0 1
        rw [show ((1 : Nat) : Int) = 1 from rfl] at this
        rw [this, List.map_drop]
        cases A with
        | nil => rfl
        | cons a A => simp [List.take_of_length_le]
      walk_at "az*"
      rewrite [e1]
      walk_at "az*"
      rewrite [zipA_map]
      have zl : (A.zip (A.drop 1)).length ≤ A.length := by rw [List.length_zip]; omega
      refine lc_map (A.zip (A.drop 1)) (fun p => .tup [pV p.1, pV p.2]) (fun p => .bl (decide (p.1.1 < p.2.1))) rfl (by omega) trivial (fun p hp Add hAdd => ?_) fun n hn => ?_
      · walk_at "az*"
        exact hAdd
      walk_at "az*"
      refine .sub (Kept.put .refl hn) (k _ ?_)
      rw [asc_zip]
      constructor
      · intro q
        exact ⟨A, rfl, q, pos⟩
      · rintro ⟨C, e, ok⟩
        have := map_pV_inj (AV.tup.inj e)
        subst this
        exact ok.1
def spZBuilt (K : PySem.W.Frag) : ASp := fun xs η Q => ∃ (h N : Nat) (Z : Int) (x : AV), xs = [x] ∧ N ≤ 1000000 ∧ MT K h Z N η x ∧ Tells (∃ m, x = mV m ∧ okM m) Q η
theorem not_built {x : AV} (h : isTup x = false) : ¬ ∃ m, x = mV m ∧ okM m := fun ⟨m, e, _⟩ => absurd e (notTup h _)
theorem built_two {a b : AV} : (∃ m, AV.tup [a, b] = mV m ∧ okM m) ↔ (∃ n, a = .int n ∧ (n = 1 ∨ n = -1)) ∧ ∃ A, b = abV A ∧ okA A := by
  constructor
  · rintro ⟨m, e, ok⟩
    have := AV.tup.inj e
    injection this with e1 e2
    injection e2 with e2 _
    exact ⟨⟨_, e1, ok.1⟩, _, e2, ok.2⟩
  · rintro ⟨⟨n, rfl, hn⟩, A, rfl, hA⟩
    exact ⟨(n, A), rfl, hn, hA⟩
theorem Z_is_built_move (B : Bi mg) (R_is_built_move : Raw K mg "is_built_move" s_is_built_move) (D_is_way : XDef P w K mg base 3 "is_way" ["thing"] (spZWay K)) (D_is_aboard : XDef P w K mg base 3 "is_aboard" ["thing"] (spZAboard K)) :
    XDef P w K mg base 4 "is_built_move" ["thing"] (spZBuilt K) := by
  refine XDef.of R_is_built_move (N := N_is_built_move) (ps := ["thing"]) sc_is_built_move (fun _ _ _ _ _ _ us hl => match us, hl with | [_], _ => rfl) ?_ fun f cdv A outer s H E hr => ⟨_, (xss_one (xs_ret (xe_and (xe_callB (xc_isi rfl) (by rfl) B.isinstance (by decide +kernel) (xa_cons (xv 0) (xa_cons (xe_bltn (n := "tuple") (by rfl) B.tuple (by decide +kernel)) xa_nil))) (xe_and (xe_cmpR (xu_eq rfl hr.units) (xe_callB (xc_len rfl) (by rfl) B.len (by decide +kernel) (xa_cons (xv 0) xa_nil)) xe_int (nomark _)) (xe_and (xe_callD rfl D_is_way (hr.mono (by decide)) rfl (xa_cons (xe_ix (xu_ix rfl) (xv 0) xe_int (fun _ _ => rfl)) xa_nil)) (xe_one (xe_callD rfl D_is_aboard (hr.mono (by decide)) rfl (xa_cons (xe_ix (xu_ix rfl) (xv 0) xe_int (fun _ _ => rfl)) xa_nil)))))))), ?_⟩
  · rintro xs η Q ⟨h, N, Z, x, rfl, _⟩
    rfl
  rintro xs η Q ⟨h, N, Z, x, rfl, hN, mt, k⟩
  walk_at "az*"
  refine s_isTup mt ?_
  cases it : isTup x with
  | false =>
    walk_at "az*"
    exact .same (k false ⟨fun q => (by cases q), fun q => absurd q (not_built it)⟩)
  | true =>
    obtain ⟨zs, rfl⟩ := tupOf it
    obtain ⟨mz, lz⟩ := mt.in
    walk_at "az*"
    refine ite_dec (fun l2 => ?_) (fun l2 => ?_)
    rotate_left
    · refine .same (k false ⟨fun q => (by cases q), fun ⟨m, e, _⟩ => absurd ?_ l2⟩)
      rw [AV.tup.inj e]
      rfl
    obtain ⟨a, b, rfl⟩ := two_of (show zs.length = 2 by omega)
    have ma := mz a (by simp)
    have mb := mz b (by simp)
    walk_at "az*"
    refine ⟨a, rfl, ma.thg, ?_⟩
    walk_at "az*"
    cases hw : wayB a with
    | false =>
      walk_at "az*"
      refine .same (k false ⟨fun q => (by cases q), fun q => ?_⟩)
      obtain ⟨⟨n, rfl, hn⟩, _⟩ := built_two.mp q
      have : decide (n = 1 ∨ n = -1) = false := hw
      exact absurd hn (of_decide_eq_false this)
    | true =>
      walk_at "az*"
      refine ⟨h, N, Z, b, rfl, hN, mb, fun c hc => .same (k c ?_)⟩
      rw [hc, built_two]
      constructor
      · intro q
        unfold wayB at hw
        cases ia : intOf a with
        | none => rw [ia] at hw; cases hw
        | some n =>
          rw [ia] at hw
          exact ⟨⟨n, intOf_some ia, of_decide_eq_true hw⟩, q⟩
      · exact fun q => q.2
end
end Law

namespace Law
open PySem L2 MyB MyR MyD MyC Ab
local macro_rules | `(tactic| walk_at "kp") => `(tactic| first | exact Kept.refl | (refine' Kept.put ?kpa ?kpb; (case kpb => (walk_at "nn")); (case kpa => (walk_at "kp"))) | (refine' Kept.back ?kpa ?kpb; (case kpb => assumption); (case kpa => (walk_at "kp"))))
local macro_rules | `(tactic| walk_at "nn") => `(tactic| first | assumption | (refine' Kept.none ?nna ?nnb; (case nnb => assumption); (case nna => (walk_at "kp"))))
local macro_rules | `(tactic| walk_at "en") => `(tactic| first | assumption | exact pt_same | ((repeat rw [pt_ne (by assumption)]); first | assumption | exact pt_same))
local macro_rules | `(tactic| walk_at "lo") => `(tactic| first | assumption | exact lo_rf (by walk_at "en") | exact Or.inr rfl)
local macro_rules | `(tactic| walk_at "nu") => `(tactic| with_unfolding_all (first | assumption | decide | exact ⟨by decide, by decide⟩ | exact .inr ⟨by decide, by decide⟩ | exact ⟨by decide, by decide, by decide⟩ | exact ⟨by omega, by omega⟩ | exact .inl ⟨by omega, by omega⟩ | exact .inr ⟨by omega, by omega⟩))
local macro_rules | `(tactic| walk_at "ad") => `(tactic| with_reducible (first
  | refine s_seq ?_ | refine s_asg ?_ | refine s_op ?_ | refine s_un ?_
  | (refine' s_var ?rdh ?_; (case rdh => (with_unfolding_all rfl)))
  | refine s_c ?_ | refine s_add ?_ | refine s_II ?_ | refine s_IB ?_ | refine s_lt ?_ | refine s_U ?_ | refine s_eqI ?_ | refine s_neI ?_ | refine s_eqB ?_ | refine s_neB ?_ | refine s_eqX ?_ | refine s_neX ?_
  | refine s_isNn ?_ | refine s_isNi ?_ | refine s_isNt ?_ | refine s_isNr ?_ | refine s_isNb ?_ | refine s_ntNn ?_ | refine s_ntNi ?_ | refine s_ntNt ?_ | refine s_ntNr ?_
  | refine s_test ?_ | refine s_not ?_ | refine s_and ?_ | refine s_or ?_ | refine s_yes ?_ | refine s_bl ?_
  | refine s_andV ?_ | refine s_orV ?_ | refine s_notV ?_ | refine s_chain ?_ | refine s_if ?_ | refine s_next ?_ | refine s_brk ?_ | refine s_cnt ?_ | refine s_ifS ?_
  | refine s_ret ?_ | refine s_retN ?_ | refine s_drop ?_ | refine s_name ?_ | refine s_sub ?_ | refine s_gCons ?_ | refine s_gNil ?_
  | refine s_cons ?_ | refine s_nil ?_ | refine s_cb ?_ | refine s_call ?_ | refine s_tup ?_ | refine s_lst ?_
  | refine s_mkT2 ?_ | refine s_mkT3 ?_ | refine s_mkT1 ?_ | refine s_mkT0 ?_ | refine s_mkT4 ?_ | refine s_mkT5 ?_
  | refine s_par ?_ | refine s_par3 ?_ | refine s_par2 ?_ | refine s_par33 ?_ | refine s_iRng1 ?_ | refine s_iRng2 ?_ | refine s_for ?_ | refine s_iList ?_ | refine s_iTup ?_ | refine s_theTup ?_ | refine s_lc ?_ | refine s_bm ?_
  | refine s_sl ?_ | refine s_noPart ?_ | refine s_part ?_ | refine s_abs ?_ | refine s_int ?_ | refine s_intB ?_ | refine s_max ?_ | refine s_min ?_ | refine s_max3 ?_ | refine s_theInt ?_ | refine s_lenT ?_ | refine s_tupT ?_ | refine s_slT3 ?_ | refine s_slT ?_ | refine s_dget ?_ | refine s_dget2 ?_ | refine s_din ?_ | refine s_iZip ?_ | refine s_iEnum ?_ | refine s_iEnumT ?_ | refine s_sortIt ?_ | refine s_zipT ?_ | refine s_sumM ?_ | refine s_anyM ?_ | refine s_allM ?_ | refine s_dc ?_ | refine s_iKeys ?_ | refine s_listT' ?_
  | refine s_sumT ?_
  | (refine' s_gTup ?rdi ?_; (case rdi => (with_unfolding_all rfl)))
  | (refine' s_gLst ?rdh ?rdi ?_; (case rdh => (with_unfolding_all (walk_at "lo"))); (case rdi => (with_unfolding_all rfl)))
  | (refine' s_ixT ?rdi ?_; (case rdi => (with_unfolding_all rfl)))
  | (refine' s_ixL ?rdh ?rdi ?_; (case rdh => (with_unfolding_all (walk_at "lo"))); (case rdi => (with_unfolding_all rfl)))
  | (refine' s_setL ?rdh ?rdi ?_; (case rdh => (with_unfolding_all (walk_at "en"))); (case rdi => (with_unfolding_all rfl)))
  | (refine' s_lenL ?rdh ?_; (case rdh => (with_unfolding_all (walk_at "lo"))))
  | (refine' s_all ?rdh ?_; (case rdh => (with_unfolding_all (walk_at "lo"))))
  | (refine' s_any ?rdh ?_; (case rdh => (with_unfolding_all (walk_at "lo"))))
  | (refine' s_sum ?rdh ?_; (case rdh => (with_unfolding_all (walk_at "lo"))))
  | (refine' s_listL' ?rdh ?_; (case rdh => (with_unfolding_all (walk_at "lo"))))
  | (refine' s_tupL ?rdh ?_; (case rdh => (with_unfolding_all (walk_at "lo"))))
  | (refine' And.intro (s_isL ?rdh) ?_; (case rdh => (with_unfolding_all (walk_at "en"))))
  | (refine' s_IC ?rdh ?_; (case rdh => (walk_at "nu")))
  | (refine' s_mul ?rdh ?_; (case rdh => (walk_at "nu")))
  | (refine' s_div ?rdh ?_; (case rdh => (walk_at "nu")))
  | (refine' s_floors ?rdh ?_; (case rdh => assumption)) | (refine' s_room ?rdh ?_; (case rdh => assumption))
  | (refine' s_house ?rdh ?_; (case rdh => assumption)) | (refine' s_lift ?rdh ?_; (case rdh => assumption)) | (refine' s_grps ?rdh ?_; (case rdh => assumption))
  | refine s_eqG ?_ | refine s_neG ?_ | refine s_eqN ?_ | refine s_neN ?_
  | (refine' s_aug ?rdh ?_; (case rdh => (with_unfolding_all rfl)))))
local macro_rules | `(tactic| walk_at "ad*") => `(tactic| (repeat (walk_at "ad")))

local macro_rules | `(tactic| walk_at "az") => `(tactic| first | walk_at "ad" | with_reducible (first | refine iteF ?_ | refine iteT ?_ | refine ite_nT ?_ | refine ite_nF ?_ | (refine' s_rngJ ?rdh ?_; (case rdh => omega)) | (refine' s_rngJ2 ?rdh ?_; (case rdh => omega)) | refine s_isT ?_ | refine s_notT ?_ | refine s_isF ?_ | refine s_notF ?_ | refine s_isi_non_int ?_ | refine s_isi_non_bool ?_ | refine s_isi_non_tuple ?_ | refine s_isi_non_list ?_ | refine s_isi_non_str ?_ | refine s_isi_bl_int ?_ | refine s_isi_bl_bool ?_ | refine s_isi_bl_tuple ?_ | refine s_isi_bl_list ?_ | refine s_isi_bl_str ?_ | refine s_isi_int_int ?_ | refine s_isi_int_bool ?_ | refine s_isi_int_tuple ?_ | refine s_isi_int_list ?_ | refine s_isi_int_str ?_ | refine s_isi_str_int ?_ | refine s_isi_str_bool ?_ | refine s_isi_str_tuple ?_ | refine s_isi_str_list ?_ | refine s_isi_str_str ?_ | refine s_isi_tup_int ?_ | refine s_isi_tup_bool ?_ | refine s_isi_tup_tuple ?_ | refine s_isi_tup_list ?_ | refine s_isi_tup_str ?_))
local macro_rules | `(tactic| walk_at "az*") => `(tactic| (repeat (walk_at "az")))
local macro_rules | `(tactic| walk_at "cl") => `(tactic| ((repeat refine Exists.intro _ ?_); refine And.intro rfl ?_; (repeat (refine And.intro (by first | assumption | omega | exact lo_rf (by assumption)) ?_))))

section
variable {P : Program} {w : World} {K : PySem.W.Frag} {mg : Str → Option Value} {base : Heap} {CH CS CR C : Addr}
def spLBuilt (K : PySem.W.Frag) : ASp := fun xs η Q => ∃ (h N : Nat) (Z : Int) (x : AV), xs = [x] ∧ N ≤ 1000000 ∧ MT K h Z N η x ∧ Z ≤ 10 ^ 40 ∧ Tells (∃ m, x = mV m ∧ okM m) Q η
theorem no_A2 {zs : List AV} {w : AV} {i : Nat} {y : AV} (hy : zs[i]? = some y) (n : ∀ p, y = pV p → 0 ≤ p.1 → 1 ≤ p.2 → False) : ¬ ∃ m, AV.tup [w, .tup zs] = mV m ∧ okM m := fun q => no_A hy n (built_two.mp q).2
theorem D__law_is_built (B : Bi mg) (R__law_is_built : Raw K mg "_law_is_built" s__law_is_built) (D__law_is_int : XDef P w K mg base 2 "_law_is_int" ["_law_thing", "_law_least", "_law_most"] (spLIsInt K)) :
    XDef P w K mg base 3 "_law_is_built" ["_law_thing"] (spLBuilt K) := by
  refine XDef.of R__law_is_built (N := N__law_is_built) (ps := ["_law_thing"]) sc__law_is_built (fun _ _ _ _ _ _ us hl => match us, hl with | [_], _ => rfl) ?_ fun f cdv A outer s H E hr => ⟨_, (xss_cons (xs_if (XW.xt (xw_or (xt_not (xt_val (xe_callB (xc_isi rfl) (by rfl) B.isinstance (by decide +kernel) (xa_cons (xv 0) (xa_cons (xe_bltn (n := "tuple") (by rfl) B.tuple (by decide +kernel)) xa_nil))))) (xw_or (xt_cmpR (xu_ne rfl hr.units) (xe_callB (xc_len rfl) (by rfl) B.len (by decide +kernel) (xa_cons (xv 0) xa_nil)) xe_int (nomark _)) (xw_or (xt_not (xt_val (xe_callD rfl D__law_is_int (hr.mono (by decide)) rfl (xa_cons (xe_ix (xu_ix rfl) (xv 0) xe_int (fun _ _ => rfl)) (xa_cons (xe_un xu_neg xe_int) (xa_cons xe_int xa_nil)))))) (xw_or1 (xt_cmpR (xu_eq rfl hr.units) (xe_ix (xu_ix rfl) (xv 0) xe_int (fun _ _ => rfl)) xe_int (nomark _)))))))
    (xss_one (xs_ret xe_bl))
    xss_nil)
  (xss_cons (xs_if (xt_not (xt_val (xe_callB (xc_isi rfl) (by rfl) B.isinstance (by decide +kernel) (xa_cons (xe_ix (xu_ix rfl) (xv 0) xe_int (fun _ _ => rfl)) (xa_cons (xe_bltn (n := "tuple") (by rfl) B.tuple (by decide +kernel)) xa_nil)))))
    (xss_one (xs_ret xe_bl))
    xss_nil)
  (xss_cons (xs_for PassesOwn.never rfl (xi_range1 (by rfl) B.range (xa_cons (xe_callB (xc_len rfl) (by rfl) B.len (by decide +kernel) (xa_cons (xe_ix (xu_ix rfl) (xv 0) xe_int (fun _ _ => rfl)) xa_nil)) xa_nil)) (xg_name (i := 1) sc__law_is_built.nd rfl (Or.inl rfl))
    (xss_cons (xs_set (i := 2) sc__law_is_built.nd rfl (Or.inl rfl) (xe_ix (xu_ix rfl) (xe_ix (xu_ix rfl) (xv 0) xe_int (fun _ _ => rfl)) (xv 1) (fun _ _ => rfl)))
      (xss_cons (xs_if (XW.xt (xw_or (xt_not (xt_val (xe_callB (xc_isi rfl) (by rfl) B.isinstance (by decide +kernel) (xa_cons (xv 2) (xa_cons (xe_bltn (n := "tuple") (by rfl) B.tuple (by decide +kernel)) xa_nil))))) (xw_or (xt_cmpR (xu_ne rfl hr.units) (xe_callB (xc_len rfl) (by rfl) B.len (by decide +kernel) (xa_cons (xv 2) xa_nil)) xe_int (nomark _)) (xw_or1 (xt_not (xt_val (xe_callD rfl D__law_is_int (hr.mono (by decide)) rfl (xa_cons (xe_ix (xu_ix rfl) (xv 2) xe_int (fun _ _ => rfl)) (xa_cons xe_int (xa_cons (xe_op xo_pow xe_int xe_int) xa_nil))))))))))
        (xss_one (xs_ret xe_bl))
        xss_nil)
      (xss_one (xs_if (XW.xt (xw_or (xt_not (xt_val (xe_callD rfl D__law_is_int (hr.mono (by decide)) rfl (xa_cons (xe_ix (xu_ix rfl) (xv 2) xe_int (fun _ _ => rfl)) (xa_cons xe_int (xa_cons (xe_op xo_pow xe_int xe_int) xa_nil)))))) (xw_or1 (XW.xt (xw_and (xt_cmpR xo_gt (xv 1) xe_int (nomark _)) (xw_and1 (xt_cmpR xo_ge (xe_ix (xu_ix rfl) (xe_ix (xu_ix rfl) (xe_ix (xu_ix rfl) (xv 0) xe_int (fun _ _ => rfl)) (xe_op xo_sub (xv 1) xe_int) (fun _ _ => rfl)) xe_int (fun _ _ => rfl)) (xe_ix (xu_ix rfl) (xv 2) xe_int (fun _ _ => rfl)) (nomark _))))))))
        (xss_one (xs_ret xe_bl))
        xss_nil)))))
  (xss_one (xs_ret xe_bl))))), ?_⟩
  · rintro xs η Q ⟨h, N, Z, x, rfl, _⟩
    rfl
  rintro xs η Q ⟨h, N, Z, x, rfl, hN, mt, zb, k⟩
  walk_at "az*"
  refine s_isTup mt ?_
  cases it : isTup x with
  | false =>
    walk_at "az*"
    exact .same (k false ⟨fun q => (by cases q), fun q => absurd q (not_built it)⟩)
  | true =>
    obtain ⟨zs, rfl⟩ := tupOf it
    obtain ⟨mz, lz⟩ := mt.in
    walk_at "az*"
    refine ite_ndec (fun l2 => ?_) (fun l2 => ?_)
    rotate_left
    · walk_at "az*"
      refine .same (k false ⟨fun q => (by cases q), fun ⟨m, e, _⟩ => absurd ?_ l2⟩)
      rw [AV.tup.inj e]
      rfl
    obtain ⟨a, b, rfl⟩ := two_of (show zs.length = 2 by omega)
    have ma := mz a (by simp)
    have mb := mz b (by simp)
    walk_at "az*"
    refine ⟨a, -1, 1, rfl, ma.thg, ?_⟩
    have nb : ∀ {p : Prop}, (¬ ∃ n, a = .int n ∧ (n = 1 ∨ n = -1)) → Q (.bl false) η := fun q => k false ⟨fun q => (by cases q), fun z => absurd (built_two.mp z).1 q⟩
    walk_at "az*"
    cases ia : inB (-1) 1 a with
    | false =>
      walk_at "az*"
      refine .same (nb (p := True) fun ⟨n, e, q⟩ => ?_)
      have : inB (-1) 1 a = true := inB_bool.mpr ⟨n, e, by omega, by omega⟩
      rw [ia] at this
      cases this
    | true =>
      obtain ⟨wy, rfl, w1, w2⟩ := inB_int ia
      walk_at "az*"
      refine ite_dec (fun q => ?_) (fun q => ?_)
      · walk_at "az*"
        refine .same (nb (p := True) fun ⟨n, e, q'⟩ => ?_)
        cases e
        omega
      have hw : wy = 1 ∨ wy = -1 := by omega
      walk_at "az*"
      refine s_isTup mb ?_
      cases ib : isTup b with
      | false =>
        walk_at "az*"
        exact .same (k false ⟨fun q => (by cases q), fun z => absurd (built_two.mp z).2 (fun ⟨A, e, _⟩ => absurd e (notTup ib _))⟩)
      | true =>
        obtain ⟨ys, rfl⟩ := tupOf ib
        obtain ⟨my, ly⟩ := mb.in
        walk_at "az*"
        refine for_rng (fun i ρ' η' => η' = η ∧ (∃ A : List (Int × Int), ys.take i = A.map pV ∧ okA A) ∧ ∃ v1 v2 : Option AV, ρ' = [some (.tup [.int wy, .tup ys]), v1, v2]) ⟨rfl, ⟨[], rfl, .nil, fun y hy => by cases hy⟩, _, _, rfl⟩ ?_ ?_
        · rintro i ρ' η' hi ⟨rfl, ⟨A, eA, okA'⟩, v1, v2, rfl⟩
          have hi' : i < ys.length := by omega
          have hy : ys[i]? = some ys[i] := List.getElem?_eq_getElem hi'
          have myi := my _ (List.getElem_mem hi')
          have ei : (0 : Int) + (i : Int) = (i : Int) := by omega
          have tk : ys.take (i + 1) = ys.take i ++ [ys[i]] := take_snocB hy
          have aty : atI ys (i : Int) = some ys[i] := at_nat (by omega) (by rw [show ((i : Int)).toNat = i by omega]; exact hy)
          generalize ys[i] = y at *
          have no : (∀ p, y = pV p → 0 ≤ p.1 → 1 ≤ p.2 → False) → Q (.bl false) η' := fun n => k false ⟨fun q => (by cases q), fun q => absurd q (no_A2 hy n)⟩
          rewrite [ei]
          walk_at "az*"
          refine s_ixT aty ?_
          walk_at "az*"
          refine s_isTup myi ?_
          cases iy : isTup y with
          | false =>
            walk_at "az*"
            exact .same (no fun p e => absurd e (notTup iy _))
          | true =>
            obtain ⟨us, rfl⟩ := tupOf iy
            walk_at "az*"
            refine ite_ndec (fun l2 => ?_) (fun l2 => ?_)
            rotate_left
            · walk_at "az*"
              refine .same (no fun p e _ _ => l2 ?_)
              have := AV.tup.inj e
              rw [this]
              rfl
            obtain ⟨u, v, rfl⟩ := two_of (show us.length = 2 by omega)
            obtain ⟨mu, _⟩ := myi.in
            have m1 := mu u (by simp)
            have m2 := mu v (by simp)
            walk_at "az*"
            refine ⟨u, 0, _, rfl, m1.thg, ?_⟩
            walk_at "az*"
            cases iu : inB 0 (10 ^ 40) u with
            | false =>
              rewrite [show inB 0 (10 ^ Int.toNat 40) u = false from iu]
              walk_at "az*"
              refine .same (no fun p e p0 _ => ?_)
              have := AV.tup.inj e
              injection this with e1 _
              subst e1
              have := m1.bd
              have : inB 0 (10 ^ 40) (.int p.1) = true := inB_bool.mpr ⟨_, rfl, p0, by omega⟩
              rw [iu] at this
              cases this
            | true =>
              rewrite [show inB 0 (10 ^ Int.toNat 40) u = true from iu]
              obtain ⟨un, rfl, u0, u1⟩ := inB_int iu
              walk_at "az*"
              refine ⟨v, 1, _, rfl, m2.thg, ?_⟩
              walk_at "az*"
              cases iv : inB 1 (10 ^ 40) v with
              | false =>
                rewrite [show inB 1 (10 ^ Int.toNat 40) v = false from iv]
                walk_at "az*"
                refine .same (no fun p e _ p1 => ?_)
                have := AV.tup.inj e
                injection this with _ e2
                injection e2 with e2 _
                subst e2
                have := m2.bd
                have : inB 1 (10 ^ 40) (.int p.2) = true := inB_bool.mpr ⟨_, rfl, p1, by omega⟩
                rw [iv] at this
                cases this
              | true =>
                rewrite [show inB 1 (10 ^ Int.toNat 40) v = true from iv]
                obtain ⟨vn, rfl, v0, v1'⟩ := inB_int iv
                have nx : (∀ y ∈ A, y.1 < un) → okA (A ++ [(un, vn)]) := fun hl => ⟨List.pairwise_append.mpr ⟨okA'.1, List.pairwise_singleton _ _, fun y hy z hz => by
                  rw [List.mem_singleton] at hz
                  subst hz
                  exact hl y hy⟩, fun y hy => by
                  rcases List.mem_append.mp hy with hy | hy
                  · exact okA'.2 y hy
                  · rw [List.mem_singleton] at hy
                    subst hy
                    exact ⟨u0, v0⟩⟩
                walk_at "az*"
                refine ite_dec (fun q => ?_) (fun q => ?_)
                · have hl : 0 < A.length := by
                    have := congrArg List.length eA
                    rw [List.length_map, List.length_take] at this
                    omega
                  have li : A.length = i := by
                    have := congrArg List.length eA
                    rw [List.length_map, List.length_take] at this
                    omega
                  have hp : ys[i - 1]? = some (pV A[A.length - 1]) := by
                    have e1 : (ys.take i)[i - 1]? = ys[i - 1]? := List.getElem?_take_of_lt (by omega)
                    rw [← e1, eA, List.getElem?_map, show i - 1 = A.length - 1 by omega, List.getElem?_eq_getElem (by omega)]
                    rfl
                  have atp : atI ys ((i : Int) - 1) = some (pV A[A.length - 1]) := at_nat (by omega) (by rw [show ((i : Int) - 1).toNat = i - 1 by omega]; exact hp)
                  have last : ∀ y ∈ A, y.1 ≤ A[A.length - 1].1 := fun y hy => by
                    obtain ⟨j, hj, rfl⟩ := List.getElem_of_mem hy
                    by_cases z : j = A.length - 1
                    · subst z
                      exact Int.le_refl _
                    · have := List.pairwise_iff_getElem.mp okA'.1 j (A.length - 1) hj (by omega) (by omega)
                      omega
                  generalize hAl : A[A.length - 1] = al at *
                  have alm : al ∈ A := by rw [← hAl]; exact List.getElem_mem _
                  walk_at "az*"
                  refine s_ixT atp ?_
                  walk_at "az*"
                  refine ite_dec (fun q2 => ?_) (fun q2 => ?_)
                  · walk_at "az*"
                    refine .same (k false ⟨fun q => (by cases q), fun z => ?_⟩)
                    obtain ⟨C, e, ok⟩ := (built_two.mp z).2
                    have e := AV.tup.inj e
                    subst e
                    rw [List.getElem?_map] at hp hy
                    obtain ⟨c1, h1, e1⟩ := Option.map_eq_some_iff.mp hp
                    obtain ⟨c2, h2, e2⟩ := Option.map_eq_some_iff.mp hy
                    have := List.pairwise_iff_getElem.mp ok.1 (i - 1) i (List.getElem?_eq_some_iff.mp h1).1 (List.getElem?_eq_some_iff.mp h2).1 (by omega)
                    rw [(List.getElem?_eq_some_iff.mp h1).2, (List.getElem?_eq_some_iff.mp h2).2] at this
                    have e1 := pV_inj e1
                    have e2 := pV_inj (q := (un, vn)) e2
                    subst e1 e2
                    have this : c1.1 < un := this
                    omega
                  · walk_at "az*"
                    exact ⟨rfl, ⟨A ++ [(un, vn)], by rw [tk, eA, List.map_append]; rfl, nx fun y hy => by have := last y hy; omega⟩, _, _, rfl⟩
                · walk_at "az*"
                  have i0 : i = 0 := by omega
                  subst i0
                  have eA0 : A = [] := by
                    rw [List.take_zero] at eA
                    exact (List.map_eq_nil_iff.mp eA.symm)
                  subst eA0
                  exact ⟨rfl, ⟨[(un, vn)], by rw [tk, List.take_zero]; rfl, nx fun y hy => by cases hy⟩, _, _, rfl⟩
        · rintro ρ' η' ⟨rfl, ⟨A, eA, okA'⟩, v1, v2, rfl⟩
          walk_at "az*"
          refine .same (k true ⟨fun _ => built_two.mpr ⟨⟨wy, rfl, hw⟩, A, ?_, okA'⟩, fun _ => rfl⟩)
          have e9 : ((ys.length : Int)).toNat = ys.length := by omega
          rw [show ((ys.length : Int)).toNat = ys.length by omega, List.take_length] at eA
          rw [eA]
end
end Law

namespace Law
open PySem L2 MyB MyR MyD MyC Ab
local macro_rules | `(tactic| walk_at "kp") => `(tactic| first | exact Kept.refl | (refine' Kept.put ?kpa ?kpb; (case kpb => (walk_at "nn")); (case kpa => (walk_at "kp"))) | (refine' Kept.back ?kpa ?kpb; (case kpb => assumption); (case kpa => (walk_at "kp"))))
local macro_rules | `(tactic| walk_at "nn") => `(tactic| first | assumption | (refine' Kept.none ?nna ?nnb; (case nnb => assumption); (case nna => (walk_at "kp"))))
local macro_rules | `(tactic| walk_at "en") => `(tactic| first | assumption | exact pt_same | ((repeat rw [pt_ne (by assumption)]); first | assumption | exact pt_same))
local macro_rules | `(tactic| walk_at "lo") => `(tactic| first | assumption | exact lo_rf (by walk_at "en") | exact Or.inr rfl)
local macro_rules | `(tactic| walk_at "nu") => `(tactic| with_unfolding_all (first | assumption | decide | exact ⟨by decide, by decide⟩ | exact .inr ⟨by decide, by decide⟩ | exact ⟨by decide, by decide, by decide⟩ | exact ⟨by omega, by omega⟩ | exact .inl ⟨by omega, by omega⟩ | exact .inr ⟨by omega, by omega⟩))
local macro_rules | `(tactic| walk_at "ad") => `(tactic| with_reducible (first
  | refine s_seq ?_ | refine s_asg ?_ | refine s_op ?_ | refine s_un ?_
  | (refine' s_var ?rdh ?_; (case rdh => (with_unfolding_all rfl)))
  | refine s_c ?_ | refine s_add ?_ | refine s_II ?_ | refine s_IB ?_ | refine s_lt ?_ | refine s_U ?_ | refine s_eqI ?_ | refine s_neI ?_ | refine s_eqB ?_ | refine s_neB ?_ | refine s_eqX ?_ | refine s_neX ?_
  | refine s_isNn ?_ | refine s_isNi ?_ | refine s_isNt ?_ | refine s_isNr ?_ | refine s_isNb ?_ | refine s_ntNn ?_ | refine s_ntNi ?_ | refine s_ntNt ?_ | refine s_ntNr ?_
  | refine s_test ?_ | refine s_not ?_ | refine s_and ?_ | refine s_or ?_ | refine s_yes ?_ | refine s_bl ?_
  | refine s_andV ?_ | refine s_orV ?_ | refine s_notV ?_ | refine s_chain ?_ | refine s_if ?_ | refine s_next ?_ | refine s_brk ?_ | refine s_cnt ?_ | refine s_ifS ?_
  | refine s_ret ?_ | refine s_retN ?_ | refine s_drop ?_ | refine s_name ?_ | refine s_sub ?_ | refine s_gCons ?_ | refine s_gNil ?_
  | refine s_cons ?_ | refine s_nil ?_ | refine s_cb ?_ | refine s_call ?_ | refine s_tup ?_ | refine s_lst ?_
  | refine s_mkT2 ?_ | refine s_mkT3 ?_ | refine s_mkT1 ?_ | refine s_mkT0 ?_ | refine s_mkT4 ?_ | refine s_mkT5 ?_
  | refine s_par ?_ | refine s_par3 ?_ | refine s_par2 ?_ | refine s_par33 ?_ | refine s_iRng1 ?_ | refine s_iRng2 ?_ | refine s_for ?_ | refine s_iList ?_ | refine s_iTup ?_ | refine s_theTup ?_ | refine s_lc ?_ | refine s_bm ?_
  | refine s_sl ?_ | refine s_noPart ?_ | refine s_part ?_ | refine s_abs ?_ | refine s_int ?_ | refine s_intB ?_ | refine s_max ?_ | refine s_min ?_ | refine s_max3 ?_ | refine s_theInt ?_ | refine s_lenT ?_ | refine s_tupT ?_ | refine s_slT3 ?_ | refine s_slT ?_ | refine s_dget ?_ | refine s_dget2 ?_ | refine s_din ?_ | refine s_iZip ?_ | refine s_iEnum ?_ | refine s_iEnumT ?_ | refine s_sortIt ?_ | refine s_zipT ?_ | refine s_sumM ?_ | refine s_anyM ?_ | refine s_allM ?_ | refine s_dc ?_ | refine s_iKeys ?_ | refine s_listT' ?_
  | refine s_sumT ?_
  | (refine' s_gTup ?rdi ?_; (case rdi => (with_unfolding_all rfl)))
  | (refine' s_gLst ?rdh ?rdi ?_; (case rdh => (with_unfolding_all (walk_at "lo"))); (case rdi => (with_unfolding_all rfl)))
  | (refine' s_ixT ?rdi ?_; (case rdi => (with_unfolding_all rfl)))
  | (refine' s_ixL ?rdh ?rdi ?_; (case rdh => (with_unfolding_all (walk_at "lo"))); (case rdi => (with_unfolding_all rfl)))
  | (refine' s_setL ?rdh ?rdi ?_; (case rdh => (with_unfolding_all (walk_at "en"))); (case rdi => (with_unfolding_all rfl)))
  | (refine' s_lenL ?rdh ?_; (case rdh => (with_unfolding_all (walk_at "lo"))))
  | (refine' s_all ?rdh ?_; (case rdh => (with_unfolding_all (walk_at "lo"))))
  | (refine' s_any ?rdh ?_; (case rdh => (with_unfolding_all (walk_at "lo"))))
  | (refine' s_sum ?rdh ?_; (case rdh => (with_unfolding_all (walk_at "lo"))))
  | (refine' s_listL' ?rdh ?_; (case rdh => (with_unfolding_all (walk_at "lo"))))
  | (refine' s_tupL ?rdh ?_; (case rdh => (with_unfolding_all (walk_at "lo"))))
  | (refine' And.intro (s_isL ?rdh) ?_; (case rdh => (with_unfolding_all (walk_at "en"))))
  | (refine' s_IC ?rdh ?_; (case rdh => (walk_at "nu")))
  | (refine' s_mul ?rdh ?_; (case rdh => (walk_at "nu")))
  | (refine' s_div ?rdh ?_; (case rdh => (walk_at "nu")))
  | (refine' s_floors ?rdh ?_; (case rdh => assumption)) | (refine' s_room ?rdh ?_; (case rdh => assumption))
  | (refine' s_house ?rdh ?_; (case rdh => assumption)) | (refine' s_lift ?rdh ?_; (case rdh => assumption)) | (refine' s_grps ?rdh ?_; (case rdh => assumption))
  | refine s_eqG ?_ | refine s_neG ?_ | refine s_eqN ?_ | refine s_neN ?_
  | (refine' s_aug ?rdh ?_; (case rdh => (with_unfolding_all rfl)))))
local macro_rules | `(tactic| walk_at "ad*") => `(tactic| (repeat (walk_at "ad")))

local macro_rules | `(tactic| walk_at "az") => `(tactic| first | walk_at "ad" | with_reducible (first | refine iteF ?_ | refine iteT ?_ | refine ite_nT ?_ | refine ite_nF ?_ | (refine' s_rngJ ?rdh ?_; (case rdh => omega)) | (refine' s_rngJ2 ?rdh ?_; (case rdh => omega)) | refine s_isT ?_ | refine s_notT ?_ | refine s_isF ?_ | refine s_notF ?_ | refine s_isi_non_int ?_ | refine s_isi_non_bool ?_ | refine s_isi_non_tuple ?_ | refine s_isi_non_list ?_ | refine s_isi_non_str ?_ | refine s_isi_bl_int ?_ | refine s_isi_bl_bool ?_ | refine s_isi_bl_tuple ?_ | refine s_isi_bl_list ?_ | refine s_isi_bl_str ?_ | refine s_isi_int_int ?_ | refine s_isi_int_bool ?_ | refine s_isi_int_tuple ?_ | refine s_isi_int_list ?_ | refine s_isi_int_str ?_ | refine s_isi_str_int ?_ | refine s_isi_str_bool ?_ | refine s_isi_str_tuple ?_ | refine s_isi_str_list ?_ | refine s_isi_str_str ?_ | refine s_isi_tup_int ?_ | refine s_isi_tup_bool ?_ | refine s_isi_tup_tuple ?_ | refine s_isi_tup_list ?_ | refine s_isi_tup_str ?_))
local macro_rules | `(tactic| walk_at "az*") => `(tactic| (repeat (walk_at "az")))
local macro_rules | `(tactic| walk_at "cl") => `(tactic| ((repeat refine Exists.intro _ ?_); refine And.intro rfl ?_; (repeat (refine And.intro (by first | assumption | omega | exact lo_rf (by assumption)) ?_))))

theorem s_eqNil {η : Eta} {Q : AK} {A : List (Int × Int)} (k : Q (.bl (decide (A = []))) η) : uEq (abV A) (.tup []) η Q :=
  s_eqT (n := 4) (m := 1) (.tup (n := 3) (NmD.map fun _ _ => .two (n := 2) .int .int)) (.tup fun x hx => by cases hx) (by
    constructor
    · intro e
      exact List.map_eq_nil_iff.mp (AV.tup.inj e)
    · rintro rfl
      rfl) k
section
variable {P : Program} {w : World} {K : PySem.W.Frag} {mg : Str → Option Value} {base : Heap} {CH CS CR C : Addr}
def spDeepM (K : PySem.W.Frag) : ASp := fun xs η Q => ∃ (i : Int) (h : Nat), xs = [.int i] ∧ 0 ≤ i ∧ i < 3 ∧ (∃ o, η h = some o) ∧ ∀ x η', Kept η η' → MT K h 0 2 η' x → Q x η'
theorem D__law_deep (B : Bi mg) (R__law_deep : Raw K mg "_law_deep" s__law_deep) : XDef P w K mg base 2 "_law_deep" ["_law_kind"] (spDeepM K) := by
  refine XDef.of R__law_deep (N := N__law_deep) (ps := ["_law_kind"]) sc__law_deep (fun _ _ _ _ _ _ us hl => match us, hl with | [_], _ => rfl) ?_ fun f cdv A outer s H E hr => ⟨_, (xss_cons (xs_set (i := 1) sc__law_deep.nd rfl (Or.inl rfl) (xe_tup xa_nil))
  (xss_cons (xs_for PassesOwn.never rfl (xi_range1 (by rfl) B.range (xa_cons xe_int xa_nil)) (xg_name (i := 2) sc__law_deep.nd rfl (Or.inl rfl))
    (xss_one (xs_set (i := 1) sc__law_deep.nd rfl (Or.inl rfl) (xe_ix (xu_ix rfl) (xe_lst (xa_cons (xe_tup (xa_cons (xe_tup (xa_cons xe_int (xa_cons (xv 1) xa_nil))) xa_nil)) (xa_cons (xe_lst (xa_cons (xe_lst (xa_cons (xv 1) xa_nil)) xa_nil)) (xa_cons (xe_tup (xa_cons xe_str (xa_cons (xe_tup (xa_cons (xv 1) xa_nil)) xa_nil))) xa_nil)))) (xv 0) (fun _ _ => rfl)))))
  (xss_one (xs_ret (xv 1))))), ?_⟩
  · rintro xs η Q ⟨i, h, rfl, _⟩
    rfl
  rintro xs η Q ⟨kd, h, rfl, k0, k1, ⟨oh, eh⟩, k⟩
  walk_at "az*"
  refine for_rng (fun i ρ' η' => Kept η η' ∧ ∃ (x : AV) (v : Option AV), MT K h 0 2 η' x ∧ ρ' = [some (.int kd), some x, v]) ⟨.refl, .tup [], _, .tup (fun x hx => by cases hx) (by simp), rfl⟩ ?_ ?_
  · rintro i ρ' η1 hi ⟨kp, x, v, nx, rfl⟩
    walk_at "az*"
    refine s_mkL (by simp) fun a ha => ?_
    walk_at "az*"
    refine s_mkL (by simp) fun b hb => ?_
    walk_at "az*"
    refine s_mkL (by simp) fun c hc => ?_
    have ka := kp.put (o := .lst [x]) (Kept.none kp ha)
    have kb := ka.put (o := .lst [.rf a]) (Kept.none ka hb)
    have kc := kb.put (o := .lst [AV.tup [AV.tup [AV.int 0, x]], AV.rf b, AV.tup [AV.str "times", AV.tup [x]]]) (Kept.none kb hc)
    have bc : b ≠ c := by rintro rfl; rw [pt_same] at hc; cases hc
    have nbh : b ≠ h := by rintro rfl; rw [ka _ _ eh] at hb; cases hb
    have k1a : Kept η1 (pt η1 a (.lst [x])) := Kept.put .refl ha
    have k1b : Kept η1 (pt (pt η1 a (.lst [x])) b (.lst [.rf a])) := k1a.put (k1a.none hb)
    have k1c := k1b.put (o := .lst [AV.tup [AV.tup [AV.int 0, x]], AV.rf b, AV.tup [AV.str "times", AV.tup [x]]]) (k1b.none hc)
    have mx := nx.kept k1c
    rcases (by omega : kd = 0 ∨ kd = 1 ∨ kd = 2) with rfl | rfl | rfl
    · walk_at "az*"
      refine ⟨kc, _, _, .tup (fun y hy => ?_) (by simp), rfl⟩
      rw [List.mem_singleton] at hy
      subst hy
      refine .tup (fun y hy => ?_) (by simp)
      simp only [List.mem_cons, List.not_mem_nil, or_false] at hy
      rcases hy with rfl | rfl
      · exact .int (by omega) (by omega)
      · exact mx
    · walk_at "az*"
      exact ⟨kc, _, _, .lst ((pt_ne bc).trans pt_same) nbh, rfl⟩
    · walk_at "az*"
      refine ⟨kc, _, _, .tup (fun y hy => ?_) (by simp), rfl⟩
      simp only [List.mem_cons, List.not_mem_nil, or_false] at hy
      rcases hy with rfl | rfl
      · exact .str
      · refine .tup (fun y hy => ?_) (by simp)
        rw [List.mem_singleton] at hy
        subst hy
        exact mx
  · rintro ρ' η1 ⟨kp, x, v, nx, rfl⟩
    walk_at "az*"
    exact .same (k x η1 kp nx)
def spBent (K : PySem.W.Frag) (CH : Addr) : ASp := fun xs η Q => ∃ (d c N : Nat) (fl rm Z : Int) (m : Mv), xs = [.rf d, mV m, hV CH fl rm] ∧ Hand η d c ∧ MT K d Z N η (mV m) ∧ 10 ≤ N ∧ N ≤ 100000 ∧ 10 ^ 39 ≤ Z ∧ ∀ x η', MT K d (Z + 1) (N + 1) η' x → Hand η' d c → KB d η η' → Q x η'
theorem D__law_bent_move (iH : C8.InsC K CH) (niH : NoInt K CH) (ntH : NoTup K CH) (B : Bi mg) (R__law_bent_move : Raw K mg "_law_bent_move" s__law_bent_move) (D__law_draw : XDef P w K mg base 2 "_law_draw" ["_law_hand_here", "_law_many"] spDraw) (D__law_deep : XDef P w K mg base 2 "_law_deep" ["_law_kind"] (spDeepM K)) :
    XDef P w K mg base 3 "_law_bent_move" ["_law_hand_here", "_law_move", "_law_house"] (spBent K CH) := by
  refine XDef.of R__law_bent_move (N := N__law_bent_move) (ps := ["_law_hand_here", "_law_move", "_law_house"]) sc__law_bent_move (fun _ _ _ _ _ _ us hl => match us, hl with | [_, _, _], _ => rfl) ?_ fun f cdv A outer s H E hr => ⟨_, (xss_cons (xs_asg (xv 1) (xg_tup (n := 2) rfl rfl (xgs_cons (xg_name (i := 3) sc__law_bent_move.nd rfl (Or.inl rfl)) (xgs_cons (xg_name (i := 4) sc__law_bent_move.nd rfl (Or.inl rfl)) xgs_nil))))
  (xss_cons (xs_set (i := 5) sc__law_bent_move.nd rfl (Or.inl rfl) (xe_lst (xa_cons xe_int (xa_cons xe_int (xa_cons (xe_un xu_neg xe_int) (xa_cons xe_int (xa_cons (xe_un xu_neg xe_int) (xa_cons xe_bl (xa_cons xe_bl (xa_cons xe_non (xa_cons xe_str (xa_cons (xe_tup (xa_cons xe_int xa_nil)) (xa_cons (xe_op xo_pow xe_int xe_int) (xa_cons (xv 2) (xa_cons (xe_callD rfl D__law_deep (hr.mono (by decide)) rfl (xa_cons (xe_callD rfl D__law_draw (hr.mono (by decide)) rfl (xa_cons (xv 0) (xa_cons xe_int xa_nil))) xa_nil)) xa_nil)))))))))))))))
  (xss_cons (xs_set (i := 6) sc__law_bent_move.nd rfl (Or.inl rfl) (xe_ix (xu_ix rfl) (xv 5) (xe_callD rfl D__law_draw (hr.mono (by decide)) rfl (xa_cons (xv 0) (xa_cons (xe_callB (xc_len rfl) (by rfl) B.len (by decide +kernel) (xa_cons (xv 5) xa_nil)) xa_nil))) (fun _ _ => rfl)))
  (xss_cons (xs_set (i := 7) sc__law_bent_move.nd rfl (Or.inl rfl) (xe_callD rfl D__law_draw (hr.mono (by decide)) rfl (xa_cons (xv 0) (xa_cons xe_int xa_nil))))
  (xss_cons (xs_if (xt_cmpR (xu_eq rfl hr.units) (xv 7) xe_int (nomark _))
    (xss_one (xs_ret (xe_tup (xa_cons (xv 6) (xa_cons (xv 4) xa_nil)))))
    xss_nil)
  (xss_cons (xs_if (xt_cmpR (xu_eq rfl hr.units) (xv 7) xe_int (nomark _))
    (xss_one (xs_ret (xe_ix (xu_ix rfl) (xe_lst (xa_cons (xe_lst (xa_cons (xv 3) (xa_cons (xv 4) xa_nil))) (xa_cons (xe_tup (xa_cons (xv 3) xa_nil)) (xa_cons (xe_tup (xa_cons (xv 3) (xa_cons (xv 4) (xa_cons (xe_tup xa_nil) xa_nil)))) (xa_cons xe_non (xa_cons xe_int (xa_cons xe_dct (xa_cons xe_str (xa_cons (xe_tup (xa_cons (xv 4) (xa_cons (xv 3) xa_nil))) xa_nil))))))))) (xe_callD rfl D__law_draw (hr.mono (by decide)) rfl (xa_cons (xv 0) (xa_cons xe_int xa_nil))) (fun _ _ => rfl))))
    xss_nil)
  (xss_cons (xs_if (xt_cmpR (xu_eq rfl hr.units) (xv 7) xe_int (nomark _))
    (xss_one (xs_ret (xe_tup (xa_cons (xv 3) (xa_cons (xe_ix (xu_ix rfl) (xe_lst (xa_cons (xe_callTy (xu_list rfl rfl) (by rfl) B.list (by decide +kernel) (xa_cons (xv 4) xa_nil)) (xa_cons xe_non (xa_cons xe_int (xa_cons xe_dct (xa_cons xe_str (xa_cons (xv 2) xa_nil))))))) (xe_callD rfl D__law_draw (hr.mono (by decide)) rfl (xa_cons (xv 0) (xa_cons xe_int xa_nil))) (fun _ _ => rfl)) xa_nil)))))
    xss_nil)
  (xss_cons (xs_if (xt_cmpR (xu_eq rfl hr.units) (xv 7) xe_int (nomark _))
    (xss_one (xs_ret (xe_tup (xa_cons (xv 3) (xa_cons (xe_revT rfl (xv 4)) xa_nil)))))
    xss_nil)
  (xss_cons (xs_set (i := 8) sc__law_bent_move.nd rfl (Or.inl rfl) (xe_callD rfl D__law_draw (hr.mono (by decide)) rfl (xa_cons (xv 0) (xa_cons (xe_op (xu_add rfl) (xe_callB (xc_len rfl) (by rfl) B.len (by decide +kernel) (xa_cons (xv 4) xa_nil)) xe_int) xa_nil))))
  (xss_cons (xs_if (xt_cmpR (xu_eq rfl hr.units) (xv 7) xe_int (nomark _))
    (xss_one (xs_ret (xe_tup (xa_cons (xv 3) (xa_cons (xe_op (xu_add rfl) (xe_op (xu_add rfl) (xe_slice (xu_sl rfl) (xv 4) xpo_none (xpo_some (xv 8))) (xe_tup (xa_cons (xv 6) xa_nil))) (xe_slice (xu_sl rfl) (xv 4) (xpo_some (xv 8)) xpo_none)) xa_nil)))))
    xss_nil)
  (xss_cons (xs_if (xt_cmpR (xu_eq rfl hr.units) (xv 7) xe_int (nomark _))
    (xss_one (xs_ret (xe_tup (xa_cons (xv 3) (xa_cons (xe_op (xu_add rfl) (xe_op (xu_add rfl) (xe_slice (xu_sl rfl) (xv 4) xpo_none (xpo_some (xv 8))) (xe_tup (xa_cons (xe_tup (xa_cons (xe_callD rfl D__law_draw (hr.mono (by decide)) rfl (xa_cons (xv 0) (xa_cons xe_int xa_nil))) (xa_cons (xe_op (xu_add rfl) xe_int (xe_callD rfl D__law_draw (hr.mono (by decide)) rfl (xa_cons (xv 0) (xa_cons xe_int xa_nil)))) xa_nil))) xa_nil))) (xe_slice (xu_sl rfl) (xv 4) (xpo_some (xv 8)) xpo_none)) xa_nil)))))
    xss_nil)
  (xss_cons (xs_if (xt_cmpR (xu_eq rfl hr.units) (xv 4) (xe_tup xa_nil) (nomark _))
    (xss_one (xs_ret (xe_tup (xa_cons (xe_un xu_neg (xv 3)) (xa_cons (xv 4) xa_nil)))))
    xss_nil)
  (xss_cons (xs_set (i := 8) sc__law_bent_move.nd rfl (Or.inl rfl) (xe_callD rfl D__law_draw (hr.mono (by decide)) rfl (xa_cons (xv 0) (xa_cons (xe_callB (xc_len rfl) (by rfl) B.len (by decide +kernel) (xa_cons (xv 4) xa_nil)) xa_nil))))
  (xss_cons (xs_asg (xe_ix (xu_ix rfl) (xv 4) (xv 8) (fun _ _ => rfl)) (xg_tup (n := 2) rfl rfl (xgs_cons (xg_name (i := 9) sc__law_bent_move.nd rfl (Or.inl rfl)) (xgs_cons (xg_name (i := 10) sc__law_bent_move.nd rfl (Or.inl rfl)) xgs_nil))))
  (xss_cons (xs_set (i := 11) sc__law_bent_move.nd rfl (Or.inl rfl) (xe_lst (xa_cons (xe_tup (xa_cons (xv 6) (xa_cons (xv 10) xa_nil))) (xa_cons (xe_tup (xa_cons (xv 9) (xa_cons (xv 6) xa_nil))) (xa_cons (xe_lst (xa_cons (xv 9) (xa_cons (xv 10) xa_nil))) (xa_cons (xe_tup (xa_cons (xv 9) xa_nil)) (xa_cons (xe_tup (xa_cons (xv 9) (xa_cons (xv 10) (xa_cons xe_int xa_nil)))) (xa_cons (xe_tup (xa_cons (xv 9) (xa_cons (xe_op (xu_add rfl) (xv 10) xe_int) xa_nil))) (xa_cons (xe_tup (xa_cons (xe_op (xu_add rfl) (xv 9) xe_int) (xa_cons (xv 10) xa_nil))) xa_nil)))))))))
  (xss_cons (xs_set (i := 11) sc__law_bent_move.nd rfl (Or.inl rfl) (xe_ix (xu_ix rfl) (xe_op (xu_add rfl) (xv 11) (xe_lst (xa_cons (xe_tup (xa_cons (xv 9) (xa_cons xe_int xa_nil))) (xa_cons (xe_tup (xa_cons (xv 9) (xa_cons (xe_un xu_neg (xv 10)) xa_nil))) (xa_cons (xe_tup (xa_cons (xv 9) (xa_cons (xe_op (xu_add rfl) (xe_op xo_pow xe_int xe_int) xe_int) xa_nil))) xa_nil))))) (xe_callD rfl D__law_draw (hr.mono (by decide)) rfl (xa_cons (xv 0) (xa_cons xe_int xa_nil))) (fun _ _ => rfl)))
  (xss_one (xs_ret (xe_tup (xa_cons (xv 3) (xa_cons (xe_op (xu_add rfl) (xe_op (xu_add rfl) (xe_slice (xu_sl rfl) (xv 4) xpo_none (xpo_some (xv 8))) (xe_tup (xa_cons (xv 11) xa_nil))) (xe_slice (xu_sl rfl) (xv 4) (xpo_some (xe_op (xu_add rfl) (xv 8) xe_int)) xpo_none)) xa_nil))))))))))))))))))))), ?_⟩
  · rintro xs η Q ⟨d, c, N, fl, rm, Z, m, rfl, _⟩
    rfl
  rintro xs η Q ⟨h, c, N, fl, rm, Z, m, rfl, hd, mt, n0, n1, z0, k⟩
  walk_at "az*"
  refine ⟨h, c, _, rfl, hd, by omega, by omega, fun a η1 a0 a1 hd1 b1 => ?_⟩
  have eh : ∃ o, η1 h = some o := by
    obtain ⟨p, q, s, t, cells, e, _⟩ := hd1.ex
    exact ⟨_, e⟩
  walk_at "az*"
  refine ⟨a, h, rfl, a0, a1, eh, fun dp η2 k2 mdp => ?_⟩
  have hd2 := hd1.kept k2
  walk_at "az*"
  refine s_mkL (by simp) fun l hl => ?_
  have lh := (hd2.ne hl).1
  generalize e_η3 : pt η2 l _ = η3; have k3 := newA_kept hl e_η3; have e3 := newA_at e_η3; clear e_η3
  have hd3 := hd2.kept k3
  have kb3 : KB h η η3 := (b1.kb.kept k2).kept k3
  have mtZ : MT K h (Z + 1) (N + 1) η3 (mV m) := (mt.kb kb3).more (by omega) (by omega)
  have mw := mtZ.in.1 (.int m.1) (by simp)
  have ma := mtZ.in.1 (abV m.2) (by simp)
  have lm : m.2.length ≤ N := by
    have := (mt.in.1 (abV m.2) (by simp)).in.2
    rw [List.length_map] at this
    exact this
  have al : ∀ y ∈ [AV.int 0, AV.int 2, AV.int (-2), AV.int 1, AV.int (-1), AV.bl true, AV.bl false, AV.non, AV.str "1", AV.tup [AV.int 1], AV.int (10 ^ Int.toNat 39), hV CH fl rm, dp], MT K h (Z + 1) (N + 1) η3 y := fun y hy => by
    have i : ∀ n : Int, -10 ≤ n → n ≤ 10 → MT K h (Z + 1) (N + 1) η3 (.int n) := fun n h1 h2 => .int (by omega) (by omega)
    simp only [List.mem_cons, List.not_mem_nil, or_false] at hy
    rcases hy with rfl | rfl | rfl | rfl | rfl | rfl | rfl | rfl | rfl | rfl | rfl | rfl | rfl
    · exact i _ (by omega) (by omega)
    · exact i _ (by omega) (by omega)
    · exact i _ (by omega) (by omega)
    · exact i _ (by omega) (by omega)
    · exact i _ (by omega) (by omega)
    · exact .bl
    · exact .bl
    · exact .non
    · exact .str
    · exact mt_one (i _ (by omega) (by omega)) (by omega)
    · exact .int (by show -(Z + 1) ≤ (10 : Int) ^ 39; omega) (by show (10 : Int) ^ 39 ≤ Z + 1; omega)
    · exact .ob iH niH ntH
    · exact (mdp.kept k3).more (by omega) (by omega)
  have ln : ([AV.int 0, AV.int 2, AV.int (-2), AV.int 1, AV.int (-1), AV.bl true, AV.bl false, AV.non, AV.str "1", AV.tup [AV.int 1], AV.int (10 ^ Int.toNat 39), hV CH fl rm, dp] : List AV).length = 13 := rfl
  generalize ([AV.int 0, AV.int 2, AV.int (-2), AV.int 1, AV.int (-1), AV.bl true, AV.bl false, AV.non, AV.str "1", AV.tup [AV.int 1], AV.int (10 ^ Int.toNat 39), hV CH fl rm, dp] : List AV) = things at e3 al ln ⊢
  walk_at "az*"
  refine ⟨h, c, _, rfl, hd3, by omega, by omega, fun j η4 j0 j1 hd4 b4 => ?_⟩
  obtain ⟨th, eth, mth⟩ := mt_at al j0 j1
  walk_at "az*"
  refine s_ixL (lo_rf ((b4 l lh).trans e3)) eth ?_
  walk_at "az*"
  refine ⟨h, c, _, rfl, hd4, by omega, by omega, fun kd η5 k50 k51 hd5 b5 => ?_⟩
  have kb5 : KB h η η5 := (kb3.but b4).but b5
  have k35 : KB h η3 η5 := b4.kb.but b5
  have mth := mth.kb k35
  have mw := mw.kb k35
  have ma := ma.kb k35
  clear al e3
  walk_at "az*"
  refine ite_dec (fun c0 => ?_) (fun c0 => ?_)
  · walk_at "az*"
    exact .same (k _ _ (mt_two mth ma (by omega)) hd5 kb5)
  walk_at "az*"
  refine ite_dec (fun c1 => ?_) (fun c1 => ?_)
  · walk_at "az*"
    refine s_mkL (by simp) fun l1 hl1 => ?_
    have l1h := (hd5.ne hl1).1
    generalize e_η6 : pt η5 l1 _ = η6; have k6 := newA_kept hl1 e_η6; have e6 := newA_at e_η6; clear e_η6
    walk_at "az*"
    intro l2 hl2
    have l2h := ((hd5.kept k6).ne hl2).1
    generalize e_η7 : pt η6 l2 _ = η7; have k7 := newA_kept hl2 e_η7; have e7 := newA_at e_η7; clear e_η7
    walk_at "az*"
    refine s_mkL (by simp) fun l3 hl3 => ?_
    have l3h := (((hd5.kept k6).kept k7).ne hl3).1
    generalize e_η8 : pt η7 l3 _ = η8; have k8 := newA_kept hl3 e_η8; have e8 := newA_at e_η8; clear e_η8
    have k58 : Kept η5 η8 := (k6.trans k7).trans k8
    have al8 : ∀ y ∈ [AV.rf l1, AV.tup [AV.int m.1], AV.tup [AV.int m.1, abV m.2, AV.tup []], AV.non, AV.int 0, AV.rf l2, AV.str "move", AV.tup [abV m.2, AV.int m.1]], MT K h (Z + 1) (N + 1) η8 y := fun y hy => by
      simp only [List.mem_cons, List.not_mem_nil, or_false] at hy
      rcases hy with rfl | rfl | rfl | rfl | rfl | rfl | rfl | rfl
      · exact .lst (k8 _ _ (k7 _ _ e6)) l1h
      · exact mt_one (mw.kept k58) (by omega)
      · exact mt_three (mw.kept k58) (ma.kept k58) (.tup (fun z hz => by cases hz) (by simp)) (by omega)
      · exact .non
      · exact .int (by omega) (by omega)
      · exact .dK (k8 _ _ e7) l2h
      · exact .str
      · exact mt_two (ma.kept k58) (mw.kept k58) (by omega)
    walk_at "az*"
    refine ⟨h, c, _, rfl, hd5.kept k58, by omega, by omega, fun j2 η9 j20 j21 hd9 b9 => ?_⟩
    obtain ⟨y, ey, my⟩ := mt_at al8 j20 (by show j2 < 8; omega)
    walk_at "az*"
    refine s_ixL (lo_rf ((b9 l3 l3h).trans e8)) ey ?_
    exact .same (k _ _ (my.kb b9.kb) hd9 ((kb5.kept k58).but b9))
  walk_at "az*"
  refine ite_dec (fun c2 => ?_) (fun c2 => ?_)
  · walk_at "az*"
    intro l1 hl1
    have l1h := (hd5.ne hl1).1
    generalize e_η6 : pt η5 l1 _ = η6; have k6 := newA_kept hl1 e_η6; have e6 := newA_at e_η6; clear e_η6
    walk_at "az*"
    intro l2 hl2
    have l2h := ((hd5.kept k6).ne hl2).1
    generalize e_η7 : pt η6 l2 _ = η7; have k7 := newA_kept hl2 e_η7; have e7 := newA_at e_η7; clear e_η7
    walk_at "az*"
    refine s_mkL (by simp) fun l3 hl3 => ?_
    have l3h := (((hd5.kept k6).kept k7).ne hl3).1
    generalize e_η8 : pt η7 l3 _ = η8; have k8 := newA_kept hl3 e_η8; have e8 := newA_at e_η8; clear e_η8
    have k58 : Kept η5 η8 := (k6.trans k7).trans k8
    have al8 : ∀ y ∈ [AV.rf l1, AV.non, AV.int 0, AV.rf l2, AV.str "", hV CH fl rm], MT K h (Z + 1) (N + 1) η8 y := fun y hy => by
      simp only [List.mem_cons, List.not_mem_nil, or_false] at hy
      rcases hy with rfl | rfl | rfl | rfl | rfl | rfl
      · exact .lst (k8 _ _ (k7 _ _ e6)) l1h
      · exact .non
      · exact .int (by omega) (by omega)
      · exact .dK (k8 _ _ e7) l2h
      · exact .str
      · exact .ob iH niH ntH
    walk_at "az*"
    refine ⟨h, c, _, rfl, hd5.kept k58, by omega, by omega, fun j2 η9 j20 j21 hd9 b9 => ?_⟩
    obtain ⟨y, ey, my⟩ := mt_at al8 j20 (by show j2 < 6; omega)
    walk_at "az*"
    refine s_ixL (lo_rf ((b9 l3 l3h).trans e8)) ey ?_
    walk_at "az*"
    exact .same (k _ _ (mt_two ((mw.kept k58).kb b9.kb) (my.kb b9.kb) (by omega)) hd9 ((kb5.kept k58).but b9))
  walk_at "az*"
  refine ite_dec (fun c3 => ?_) (fun c3 => ?_)
  · walk_at "az*"
    refine s_revT ?_
    walk_at "az*"
    refine .same (k _ _ (mt_two mw (.tup (fun z hz => ma.in.1 z (List.mem_reverse.mp hz)) (by rw [List.length_reverse, List.length_map]; omega)) (by omega)) hd5 kb5)
  walk_at "az*"
  refine ⟨h, c, _, rfl, hd5, by omega, by rw [List.length_map]; omega, fun at' η6 t0 t1 hd6 b6 => ?_⟩
  have mth := mth.kb b6.kb
  have mw := mw.kb b6.kb
  have ma := ma.kb b6.kb
  have kb6 : KB h η η6 := kb5.but b6
  clear mtZ
  have ml : (m.2.map pV).length ≤ N := by rw [List.length_map]; exact lm
  have t1 : at' ≤ ((m.2.map pV).length : Int) := by omega
  have e1 := cut_to t0 t1
  have e2 := cut_from t0 t1
  have tN : at'.toNat ≤ (m.2.map pV).length := by omega
  walk_at "az*"
  refine ite_dec (fun c4 => ?_) (fun c4 => ?_)
  · walk_at "az*"
    rewrite [e1]
    walk_at "az*"
    refine s_catT (by rw [List.length_take]; simp only [List.length_cons, List.length_nil]; omega) ?_
    walk_at "az*"
    rewrite [e2]
    refine s_catT (by rw [List.length_append, List.length_take, List.length_drop]; simp only [List.length_cons, List.length_nil]; omega) ?_
    walk_at "az*"
    exact .same (k _ _ (mt_two mw (mt_put ma.in.1 mth (by omega) (Nat.le_refl _) tN) (by omega)) hd6 kb6)
  walk_at "az*"
  refine ite_dec (fun c5 => ?_) (fun c5 => ?_)
  · walk_at "az*"
    rewrite [e1]
    walk_at "az*"
    refine ⟨h, c, _, rfl, hd6, by omega, by omega, fun u η7 u0 u1 hd7 b7 => ?_⟩
    walk_at "az*"
    refine ⟨h, c, _, rfl, hd7, by omega, by omega, fun v η8 v0 v1 hd8 b8 => ?_⟩
    have k68 : KB h η6 η8 := b7.kb.but b8
    walk_at "az*"
    refine s_catT (by rw [List.length_take]; simp only [List.length_cons, List.length_nil]; omega) ?_
    walk_at "az*"
    rewrite [e2]
    refine s_catT (by rw [List.length_append, List.length_take, List.length_drop]; simp only [List.length_cons, List.length_nil]; omega) ?_
    walk_at "az*"
    exact .same (k _ _ (mt_two (mw.kb k68) (mt_put (ma.kb k68).in.1 (mt_two (.int (by omega) (by omega)) (.int (by omega) (by omega)) (by omega)) (by omega) (Nat.le_refl _) tN) (by omega)) hd8 (kb6.trans k68))
  walk_at "az*"
  refine s_eqNil ?_
  walk_at "az*"
  refine ite_dec (fun c6 => ?_) (fun c6 => ?_)
  · walk_at "az*"
    have := mw.bd
    exact .same (k _ _ (mt_two (.int (by omega) (by omega)) ma (by omega)) hd6 kb6)
  have lp : 0 < m.2.length := List.length_pos_iff.mpr c6
  walk_at "az*"
  refine ⟨h, c, _, rfl, hd6, by rw [List.length_map]; omega, by rw [List.length_map]; omega, fun i2 η7 i20 i21 hd7 b7 => ?_⟩
  have mth := mth.kb b7.kb
  have mw := mw.kb b7.kb
  have ma := ma.kb b7.kb
  have kb7 : KB h η η7 := kb6.but b7
  have il : i2.toNat < m.2.length := by rw [List.length_map] at i21; omega
  have atP : atI (m.2.map pV) i2 = some (pV m.2[i2.toNat]) := at_nat i20 (by rw [List.getElem?_map, List.getElem?_eq_getElem il]; rfl)
  have mx : MT K h (Z + 1) (N + 1) η7 (pV m.2[i2.toNat]) := ma.in.1 _ (List.mem_map.mpr ⟨_, List.getElem_mem il, rfl⟩)
  have mxZ : MT K h Z N η (pV m.2[i2.toNat]) := (mt.in.1 (abV m.2) (by simp)).in.1 _ (List.mem_map.mpr ⟨_, List.getElem_mem il, rfl⟩)
  have g1' : i2 ≤ ((m.2.map pV).length : Int) := by omega
  have e1 := cut_to i20 g1'
  have e2 := cut_from (xs := m.2.map pV) (i := i2 + 1) (by omega) (by omega)
  generalize m.2[i2.toNat] = p at atP mx mxZ
  have bp := (mxZ.in.1 (.int p.1) (by simp)).bd
  have bq := (mxZ.in.1 (.int p.2) (by simp)).bd
  have mp1 := mx.in.1 (.int p.1) (by simp)
  have mp2 := mx.in.1 (.int p.2) (by simp)
  clear mxZ
  walk_at "az*"
  refine s_ixT atP ?_
  walk_at "az*"
  refine s_mkL (by simp) fun l1 hl1 => ?_
  have l1h := (hd7.ne hl1).1
  generalize e_η8 : pt η7 l1 _ = η8; have k8 := newA_kept hl1 e_η8; have e8 := newA_at e_η8; clear e_η8
  walk_at "az*"
  refine s_mkL (by simp) fun l2 hl2 => ?_
  have l2h := ((hd7.kept k8).ne hl2).1
  generalize e_η9 : pt η8 l2 _ = η9; have k9 := newA_kept hl2 e_η9; have e9 := newA_at e_η9; clear e_η9
  walk_at "az*"
  refine s_mkL (by simp) fun l3 hl3 => ?_
  generalize e_η10 : pt η9 l3 _ = η10; have k10 := newA_kept hl3 e_η10; have e10 := newA_at e_η10; clear e_η10
  have e9' := k10 _ _ e9
  refine s_catL e9' e10 (by simp) fun l4 hl4 => ?_
  have k7a : Kept η7 η10 := (k8.trans k9).trans k10
  have l4h := ((hd7.kept k7a).ne hl4).1
  generalize e_η11 : pt η10 l4 _ = η11; have k11 := newA_kept hl4 e_η11; have e11 := newA_at e_η11; clear e_η11
  have k7b : Kept η7 η11 := k7a.trans k11
  have al11 : ∀ y ∈ [AV.tup [th, AV.int p.2], AV.tup [AV.int p.1, th], AV.rf l1, AV.tup [AV.int p.1], AV.tup [AV.int p.1, AV.int p.2, AV.int 1], AV.tup [AV.int p.1, AV.int (p.2 + 1)], AV.tup [AV.int (p.1 + 1), AV.int p.2]] ++
      [AV.tup [AV.int p.1, AV.int 0], AV.tup [AV.int p.1, AV.int (-p.2)], AV.tup [AV.int p.1, AV.int (10 ^ Int.toNat 12 + 1)]], MT K h (Z + 1) (N + 1) η11 y := fun y hy => by
    have mth := mth.kept k7b
    have mp1 := mp1.kept k7b
    have mp2 := mp2.kept k7b
    simp only [List.cons_append, List.nil_append, List.mem_cons, List.not_mem_nil, or_false] at hy
    rcases hy with rfl | rfl | rfl | rfl | rfl | rfl | rfl | rfl | rfl | rfl
    · exact mt_two mth mp2 (by omega)
    · exact mt_two mp1 mth (by omega)
    · exact .lst (k11 _ _ (k10 _ _ (k9 _ _ e8))) l1h
    · exact mt_one mp1 (by omega)
    · exact mt_three mp1 mp2 (.int (by omega) (by omega)) (by omega)
    · exact mt_two mp1 (.int (by omega) (by omega)) (by omega)
    · exact mt_two (.int (by omega) (by omega)) mp2 (by omega)
    · exact mt_two mp1 (.int (by omega) (by omega)) (by omega)
    · exact mt_two mp1 (.int (by omega) (by omega)) (by omega)
    · exact mt_two mp1 (.int (by show -(Z + 1) ≤ (10 : Int) ^ 12 + 1; omega) (by show (10 : Int) ^ 12 + 1 ≤ Z + 1; omega)) (by omega)
  walk_at "az*"
  refine ⟨h, c, _, rfl, hd7.kept k7b, by omega, by omega, fun j3 η12 j30 j31 hd12 b12 => ?_⟩
  obtain ⟨y, ey, my⟩ := mt_at al11 j30 (by show j3 < 10; omega)
  walk_at "az*"
  refine s_ixL (lo_rf ((b12 l4 l4h).trans e11)) ey ?_
  walk_at "az*"
  rewrite [e1]
  walk_at "az*"
  refine s_catT (by rw [List.length_take]; simp only [List.length_cons, List.length_nil]; omega) ?_
  walk_at "az*"
  rewrite [e2]
  refine s_catT (by rw [List.length_append, List.length_take, List.length_drop]; simp only [List.length_cons, List.length_nil]; omega) ?_
  walk_at "az*"
  have k7c : KB h η7 η12 := (KB.refl.kept k7b).but b12
  exact .same (k _ _ (mt_two (mw.kb k7c) (mt_put (ma.kb k7c).in.1 (my.kb b12.kb) (by omega) (by omega) (by omega)) (by omega)) hd12 (kb7.trans k7c))
end
end Law

namespace Law
open PySem L2 MyB MyR MyD MyC Ab
local macro_rules | `(tactic| walk_at "kp") => `(tactic| first | exact Kept.refl | (refine' Kept.put ?kpa ?kpb; (case kpb => (walk_at "nn")); (case kpa => (walk_at "kp"))) | (refine' Kept.back ?kpa ?kpb; (case kpb => assumption); (case kpa => (walk_at "kp"))))
local macro_rules | `(tactic| walk_at "nn") => `(tactic| first | assumption | (refine' Kept.none ?nna ?nnb; (case nnb => assumption); (case nna => (walk_at "kp"))))
local macro_rules | `(tactic| walk_at "en") => `(tactic| first | assumption | exact pt_same | ((repeat rw [pt_ne (by assumption)]); first | assumption | exact pt_same))
local macro_rules | `(tactic| walk_at "lo") => `(tactic| first | assumption | exact lo_rf (by walk_at "en") | exact Or.inr rfl)
local macro_rules | `(tactic| walk_at "nu") => `(tactic| with_unfolding_all (first | assumption | decide | exact ⟨by decide, by decide⟩ | exact .inr ⟨by decide, by decide⟩ | exact ⟨by decide, by decide, by decide⟩ | exact ⟨by omega, by omega⟩ | exact .inl ⟨by omega, by omega⟩ | exact .inr ⟨by omega, by omega⟩))
local macro_rules | `(tactic| walk_at "ad") => `(tactic| with_reducible (first
  | refine s_seq ?_ | refine s_asg ?_ | refine s_tryAs ?_ | refine s_tryOnly ?_ | refine s_raise ?_ | refine s_raise1 ?_ | refine s_callX ?_ | refine s_xf ?_ | refine s_op ?_ | refine s_un ?_
  | (refine' s_var ?rdh ?_; (case rdh => (with_unfolding_all rfl)))
  | refine s_c ?_ | refine s_add ?_ | refine s_II ?_ | refine s_IB ?_ | refine s_lt ?_ | refine s_U ?_ | refine s_eqI ?_ | refine s_neI ?_ | refine s_eqB ?_ | refine s_neB ?_ | refine s_eqX ?_ | refine s_neX ?_
  | refine s_isNn ?_ | refine s_isNi ?_ | refine s_isNt ?_ | refine s_isNr ?_ | refine s_isNb ?_ | refine s_ntNn ?_ | refine s_ntNi ?_ | refine s_ntNt ?_ | refine s_ntNr ?_
  | refine s_test ?_ | refine s_not ?_ | refine s_and ?_ | refine s_or ?_ | refine s_yes ?_ | refine s_bl ?_
  | refine s_andV ?_ | refine s_orV ?_ | refine s_notV ?_ | refine s_chain ?_ | refine s_if ?_ | refine s_next ?_ | refine s_brk ?_ | refine s_cnt ?_ | refine s_ifS ?_
  | refine s_ret ?_ | refine s_retN ?_ | refine s_drop ?_ | refine s_name ?_ | refine s_sub ?_ | refine s_gCons ?_ | refine s_gNil ?_
  | refine s_cons ?_ | refine s_nil ?_ | refine s_cb ?_ | refine s_call ?_ | refine s_tup ?_ | refine s_lst ?_
  | refine s_mkT2 ?_ | refine s_mkT3 ?_ | refine s_mkT1 ?_ | refine s_mkT0 ?_ | refine s_mkT4 ?_ | refine s_mkT5 ?_
  | refine s_par ?_ | refine s_par3 ?_ | refine s_par2 ?_ | refine s_par33 ?_ | refine s_iRng1 ?_ | refine s_iRng2 ?_ | refine s_for ?_ | refine s_iList ?_ | refine s_iTup ?_ | refine s_theTup ?_ | refine s_lc ?_ | refine s_bm ?_
  | refine s_sl ?_ | refine s_noPart ?_ | refine s_part ?_ | refine s_abs ?_ | refine s_int ?_ | refine s_intB ?_ | refine s_max ?_ | refine s_min ?_ | refine s_max3 ?_ | refine s_theInt ?_ | refine s_lenT ?_ | refine s_tupT ?_ | refine s_slT3 ?_ | refine s_slT ?_ | refine s_dget ?_ | refine s_dget2 ?_ | refine s_din ?_ | refine s_iZip ?_ | refine s_iEnum ?_ | refine s_iEnumT ?_ | refine s_sortIt ?_ | refine s_zipT ?_ | refine s_sumM ?_ | refine s_anyM ?_ | refine s_allM ?_ | refine s_dc ?_ | refine s_iKeys ?_ | refine s_listT' ?_
  | refine s_sumT ?_
  | (refine' s_gTup ?rdi ?_; (case rdi => (with_unfolding_all rfl)))
  | (refine' s_gLst ?rdh ?rdi ?_; (case rdh => (with_unfolding_all (walk_at "lo"))); (case rdi => (with_unfolding_all rfl)))
  | (refine' s_ixT ?rdi ?_; (case rdi => (with_unfolding_all rfl)))
  | (refine' s_ixL ?rdh ?rdi ?_; (case rdh => (with_unfolding_all (walk_at "lo"))); (case rdi => (with_unfolding_all rfl)))
  | (refine' s_setL ?rdh ?rdi ?_; (case rdh => (with_unfolding_all (walk_at "en"))); (case rdi => (with_unfolding_all rfl)))
  | (refine' s_lenL ?rdh ?_; (case rdh => (with_unfolding_all (walk_at "lo"))))
  | (refine' s_all ?rdh ?_; (case rdh => (with_unfolding_all (walk_at "lo"))))
  | (refine' s_any ?rdh ?_; (case rdh => (with_unfolding_all (walk_at "lo"))))
  | (refine' s_sum ?rdh ?_; (case rdh => (with_unfolding_all (walk_at "lo"))))
  | (refine' s_listL' ?rdh ?_; (case rdh => (with_unfolding_all (walk_at "lo"))))
  | (refine' s_tupL ?rdh ?_; (case rdh => (with_unfolding_all (walk_at "lo"))))
  | (refine' And.intro (s_isL ?rdh) ?_; (case rdh => (with_unfolding_all (walk_at "en"))))
  | (refine' s_IC ?rdh ?_; (case rdh => (walk_at "nu")))
  | (refine' s_mul ?rdh ?_; (case rdh => (walk_at "nu")))
  | (refine' s_div ?rdh ?_; (case rdh => (walk_at "nu")))
  | (refine' s_floors ?rdh ?_; (case rdh => assumption)) | (refine' s_room ?rdh ?_; (case rdh => assumption))
  | (refine' s_house ?rdh ?_; (case rdh => assumption)) | (refine' s_lift ?rdh ?_; (case rdh => assumption)) | (refine' s_grps ?rdh ?_; (case rdh => assumption))
  | refine s_eqG ?_ | refine s_neG ?_ | refine s_eqN ?_ | refine s_neN ?_
  | (refine' s_aug ?rdh ?_; (case rdh => (with_unfolding_all rfl)))))
local macro_rules | `(tactic| walk_at "ad*") => `(tactic| (repeat (walk_at "ad")))

local macro_rules | `(tactic| walk_at "az") => `(tactic| first | walk_at "ad" | with_reducible (first | refine iteF ?_ | refine iteT ?_ | refine ite_nT ?_ | refine ite_nF ?_ | (refine' s_rngJ ?rdh ?_; (case rdh => omega)) | (refine' s_rngJ2 ?rdh ?_; (case rdh => omega)) | refine s_isT ?_ | refine s_notT ?_ | refine s_isF ?_ | refine s_notF ?_ | refine s_isi_non_int ?_ | refine s_isi_non_bool ?_ | refine s_isi_non_tuple ?_ | refine s_isi_non_list ?_ | refine s_isi_non_str ?_ | refine s_isi_bl_int ?_ | refine s_isi_bl_bool ?_ | refine s_isi_bl_tuple ?_ | refine s_isi_bl_list ?_ | refine s_isi_bl_str ?_ | refine s_isi_int_int ?_ | refine s_isi_int_bool ?_ | refine s_isi_int_tuple ?_ | refine s_isi_int_list ?_ | refine s_isi_int_str ?_ | refine s_isi_str_int ?_ | refine s_isi_str_bool ?_ | refine s_isi_str_tuple ?_ | refine s_isi_str_list ?_ | refine s_isi_str_str ?_ | refine s_isi_tup_int ?_ | refine s_isi_tup_bool ?_ | refine s_isi_tup_tuple ?_ | refine s_isi_tup_list ?_ | refine s_isi_tup_str ?_))
local macro_rules | `(tactic| walk_at "az*") => `(tactic| (repeat (walk_at "az")))
local macro_rules | `(tactic| walk_at "cl") => `(tactic| ((repeat refine Exists.intro _ ?_); refine And.intro rfl ?_; (repeat (refine And.intro (by first | assumption | omega | exact lo_rf (by assumption)) ?_))))

local macro_rules | `(tactic| walk_at "bz") => `(tactic| first | (with_reducible (refine' s_nameE ?rde ?_; (case rde => ((try simp only [List.set_cons_succ, List.set_cons_zero]); exact rfl)))) | (with_reducible (refine' s_par2E ?rde ?_; (case rde => ((try simp only [List.set_cons_succ, List.set_cons_zero]); exact rfl)))) | walk_at "az")
local macro_rules | `(tactic| walk_at "bz*") => `(tactic| (repeat (walk_at "bz")))

local macro_rules | `(tactic| walk_at "cz") => `(tactic| first | with_reducible (first | refine s_fldS ?_ | refine s_makeN ?_ | refine s_callN ?_ | refine s_stepL ?_ | refine s_revT ?_ | refine s_methN ?_ | refine s_methX ?_ | refine s_bm0 ?_ | refine s_listIt ?_) | walk_at "bz")
local macro_rules | `(tactic| walk_at "cz*") => `(tactic| (repeat (walk_at "cz")))

/-! ### logs: moves, and rounds of them -/
inductive LogI
  | mv (m : Mv)
  | tm (n : Int) (xs : List LogI)
mutual
def itV : LogI → AV
  | .mv m => mV m
  | .tm n xs => .tup [.str "times", .int n, .tup (itVs xs)]
def itVs : List LogI → List AV
  | [] => []
  | x :: xs => itV x :: itVs xs
end
/-- a thing that stands for rounds -/
def isR (x : AV) : Prop := ∃ (n : Int) (xs : List AV), x = .tup [.str "times", .int n, .tup xs] ∧ 1 ≤ n ∧ n ≤ 10 ^ 30 ∧ xs ≠ []
/-- a built move -/
def isB (x : AV) : Prop := ∃ m, x = mV m ∧ okM m
/-- a log, of so many levels at most -/
def gd : Nat → AV → Prop
  | 0, _ => False
  | k + 1, v => ∃ xs, v = .tup xs ∧ ∀ y ∈ xs, isB y ∨ ∃ (n : Int) (zs : List AV), y = .tup [.str "times", .int n, .tup zs] ∧ 1 ≤ n ∧ n ≤ 10 ^ 30 ∧ zs ≠ [] ∧ gd k (.tup zs)
/-- what stands in rounds -/
def inR : AV → Option AV
  | .tup [_, _, z] => some z
  | _ => none
/-- the moves written in it -/
def wr : Nat → AV → Nat
  | 0, _ => 0
  | k + 1, .tup xs => (xs.map fun y => match inR y with | some z => wr k z | none => 1).sum
  | _, _ => 0
section
variable {P : Program} {w : World} {K : PySem.W.Frag} {mg : Str → Option Value} {base : Heap} {CH CS CR C : Addr}
def spZRounds (K : PySem.W.Frag) : ASp := fun xs η Q => ∃ (h N : Nat) (Z : Int) (x : AV), xs = [x] ∧ N ≤ 1000000 ∧ MT K h Z N η x ∧ Tells (isR x) Q η
theorem Z_is_rounds (B : Bi mg) {t1 t2 : Tok} (c_MOST_TIMES : mg "MOST_TIMES" = some (.int (10 ^ 30) t1)) (c_TIMES : mg "TIMES" = some (.str "times" t2)) (R_is_rounds : Raw K mg "is_rounds" s_is_rounds) (D_is_within : XDef P w K mg base 3 "is_within" ["thing", "least", "most"] (spXWithin K)) :
    XDef P w K mg base 4 "is_rounds" ["thing"] (spZRounds K) := by
  refine XDef.of R_is_rounds (N := N_is_rounds) (ps := ["thing"]) sc_is_rounds (fun _ _ _ _ _ _ us hl => match us, hl with | [_], _ => rfl) ?_ fun f cdv A outer s H E hr => ⟨_, (xss_cons (xs_if (XW.xt (xw_or (xt_not (xt_val (xe_callB (xc_isi rfl) (by rfl) B.isinstance (by decide +kernel) (xa_cons (xv 0) (xa_cons (xe_bltn (n := "tuple") (by rfl) B.tuple (by decide +kernel)) xa_nil))))) (xw_or (xt_cmpR (xu_ne rfl hr.units) (xe_callB (xc_len rfl) (by rfl) B.len (by decide +kernel) (xa_cons (xv 0) xa_nil)) xe_int (nomark _)) (xw_or (xt_not (xt_val (xe_callB (xc_isi rfl) (by rfl) B.isinstance (by decide +kernel) (xa_cons (xe_ix (xu_ix rfl) (xv 0) xe_int (fun _ _ => rfl)) (xa_cons (xe_bltn (n := "str") (by rfl) B.str (by decide +kernel)) xa_nil))))) (xw_or1 (xt_cmpR (xu_ne rfl hr.units) (xe_ix (xu_ix rfl) (xv 0) xe_int (fun _ _ => rfl)) (xe_globS rfl c_TIMES) (nomark _)))))))
    (xss_one (xs_ret xe_bl))
    xss_nil)
  (xss_one (xs_ret (xe_and (xe_callD rfl D_is_within (hr.mono (by decide)) rfl (xa_cons (xe_ix (xu_ix rfl) (xv 0) xe_int (fun _ _ => rfl)) (xa_cons xe_int (xa_cons (xe_globI rfl c_MOST_TIMES) xa_nil)))) (xe_and (xe_callB (xc_isi rfl) (by rfl) B.isinstance (by decide +kernel) (xa_cons (xe_ix (xu_ix rfl) (xv 0) xe_int (fun _ _ => rfl)) (xa_cons (xe_bltn (n := "tuple") (by rfl) B.tuple (by decide +kernel)) xa_nil))) (xe_one (xe_cmpR xo_gt (xe_callB (xc_len rfl) (by rfl) B.len (by decide +kernel) (xa_cons (xe_ix (xu_ix rfl) (xv 0) xe_int (fun _ _ => rfl)) xa_nil)) xe_int (nomark _)))))))), ?_⟩
  · rintro xs η Q ⟨h, N, Z, x, rfl, _⟩
    rfl
  rintro xs η Q ⟨h, N, Z, x, rfl, hN, mt, k⟩
  have no : (¬ isR x) → Q (.bl false) η := fun n => k false ⟨fun z => (by cases z), fun z => (n z).elim⟩
  walk_at "cz*"
  refine s_isTup mt ?_
  cases it : isTup x with
  | false =>
    walk_at "cz*"
    exact .same (no fun ⟨n, xs, e, _⟩ => notTup it _ e)
  | true =>
    obtain ⟨zs, rfl⟩ := tupOf it
    obtain ⟨mz, lz⟩ := mt.in
    walk_at "cz*"
    refine ite_ndec (fun l3 => ?_) (fun l3 => ?_)
    rotate_left
    · walk_at "cz*"
      exact .same (no fun ⟨n, xs, e, _⟩ => l3 (by rw [AV.tup.inj e]; rfl))
    obtain ⟨a, b, c, rfl⟩ : ∃ a b c, zs = [a, b, c] := by
      match zs, (show zs.length = 3 by omega) with
      | [a, b, c], _ => exact ⟨a, b, c, rfl⟩
    have ma := mz a (by simp)
    have mb := mz b (by simp)
    have mc := mz c (by simp)
    walk_at "cz*"
    refine s_isStr ma ?_
    cases ia : isS a with
    | false =>
      walk_at "cz*"
      refine .same (no fun ⟨n, xs, e, _⟩ => ?_)
      have e := AV.tup.inj e
      injection e with e1 _
      rw [e1] at ia
      cases ia
    | true =>
      obtain ⟨sv, rfl⟩ := strOf ia
      walk_at "cz*"
      by_cases es : sv = ("times" : Str)
      rotate_left
      · refine ite_yes (by rw [decide_eq_false es]; rfl) ?_
        walk_at "cz*"
        refine .same (no fun ⟨n, xs, e, _⟩ => ?_)
        have e := AV.tup.inj e
        injection e with e1 _
        injection e1 with e1
        exact es e1
      subst es
      refine ite_no (by rw [decide_eq_true rfl]; rfl) ?_
      walk_at "cz*"
      refine ⟨b, 1, 10 ^ 30, rfl, mb.thg, ?_⟩
      cases ib : inB 1 (10 ^ 30) b with
      | false =>
        walk_at "cz*"
        refine .same (no fun ⟨n, xs, e, n1, n2, _⟩ => ?_)
        have e := AV.tup.inj e
        injection e with _ e
        injection e with e1 _
        have := inB_bool.mpr ⟨n, e1, n1, n2⟩
        rw [ib] at this
        cases this
      | true =>
        obtain ⟨n, rfl, n1, n2⟩ := inB_int ib
        walk_at "cz*"
        refine s_isTup mc ?_
        cases ic : isTup c with
        | false =>
          walk_at "cz*"
          refine .same (no fun ⟨n, xs, e, _⟩ => ?_)
          have e := AV.tup.inj e
          injection e with _ e
          injection e with _ e
          injection e with e1 _
          rw [e1] at ic
          cases ic
        | true =>
          obtain ⟨xs, rfl⟩ := tupOf ic
          walk_at "cz*"
          refine .same (k _ ?_)
          rw [decide_eq_true_eq]
          constructor
          · intro q
            exact ⟨n, xs, rfl, n1, n2, fun z => by rw [z] at q; simp at q⟩
          · rintro ⟨n', xs', e, _, _, ne⟩
            have e := AV.tup.inj e
            injection e with _ e
            injection e with _ e
            injection e with e1 _
            have e1 := AV.tup.inj e1
            subst e1
            cases xs with
            | nil => exact (ne rfl).elim
            | cons a xs => simp only [List.length_cons]; omega
end
end Law

namespace Law
open PySem L2 MyB MyR MyD MyC Ab
/-! ### what is written in a log: plain -/
/-- the rounds among things, the moves among them -/
def rnd (xs : List AV) : List AV := xs.filterMap inR
def mvN (xs : List AV) : Nat := (xs.filter fun y => (inR y).isNone).length
theorem mvN_none {y : AV} {xs : List AV} (e : inR y = none) : mvN (y :: xs) = mvN xs + 1 := by
  unfold mvN
  rw [List.filter_cons_of_pos (by rw [e]; rfl), List.length_cons]
theorem mvN_some {y z : AV} {xs : List AV} (e : inR y = some z) : mvN (y :: xs) = mvN xs := by
  unfold mvN
  rw [List.filter_cons_of_neg (by rw [e]; exact fun z => by cases z)]
theorem rnd_none {y : AV} {xs : List AV} (e : inR y = none) : rnd (y :: xs) = rnd xs := List.filterMap_cons_none e
theorem rnd_some {y z : AV} {xs : List AV} (e : inR y = some z) : rnd (y :: xs) = z :: rnd xs := List.filterMap_cons_some e
def okX (y : AV) : Prop := isB y ∨ isR y
theorem isR_in {y : AV} (h : isR y) : ∃ zs, inR y = some (.tup zs) := by
  obtain ⟨n, zs, rfl, _⟩ := h
  exact ⟨zs, rfl⟩
theorem isB_in {y : AV} (h : isB y) : inR y = none := by
  obtain ⟨m, rfl, _⟩ := h
  rfl
theorem isB_notR {y : AV} (h : isB y) : ¬ isR y := fun q => by
  obtain ⟨zs, e⟩ := isR_in q
  rw [isB_in h] at e
  cases e
theorem wr_tup (k : Nat) (xs : List AV) : wr (k + 1) (.tup xs) = mvN xs + ((rnd xs).map (wr k)).sum := by
  show (xs.map fun y => match inR y with | some z => wr k z | none => 1).sum = _
  induction xs with
  | nil => rfl
  | cons y xs ih =>
    rw [List.map_cons, List.sum_cons, ih]
    cases e : inR y with
    | none =>
      rw [mvN_none e, rnd_none e]
      show 1 + _ = _
      omega
    | some z =>
      rw [mvN_some e, rnd_some e, List.map_cons, List.sum_cons]
      show wr k z + _ = _
      omega
theorem gd_tup {k : Nat} {xs : List AV} : gd (k + 1) (.tup xs) ↔ (∀ y ∈ xs, okX y) ∧ ∀ z ∈ rnd xs, gd k z := by
  constructor
  · rintro ⟨ys, e, al⟩
    have e := AV.tup.inj e
    subst e
    refine ⟨fun y hy => ?_, fun z hz => ?_⟩
    · rcases al y hy with b | ⟨n, zs, e, n1, n2, ne, _⟩
      · exact .inl b
      · exact .inr ⟨n, zs, e, n1, n2, ne⟩
    · obtain ⟨y, hy, e⟩ := List.mem_filterMap.mp hz
      rcases al y hy with b | ⟨n, zs, rfl, n1, n2, ne, g⟩
      · rw [isB_in b] at e
        cases e
      · cases e
        exact g
  · rintro ⟨al, gl⟩
    refine ⟨xs, rfl, fun y hy => ?_⟩
    rcases al y hy with b | ⟨n, zs, rfl, n1, n2, ne⟩
    · exact .inl b
    · exact .inr ⟨n, zs, rfl, n1, n2, ne, gl _ (List.mem_filterMap.mpr ⟨_, hy, rfl⟩)⟩
/-- what waits weighs -/
def wt : Nat → AV → Nat
  | k + 1, .tup xs => 1 + ((xs.filterMap inR).map (wt k)).sum
  | _, _ => 1
theorem wt_tup (k : Nat) (xs : List AV) : wt (k + 1) (.tup xs) = 1 + ((rnd xs).map (wt k)).sum := rfl
theorem wr_pos {k : Nat} {v : AV} (h : gd k v) (ne : v ≠ .tup []) : 0 < wr k v := by
  induction k generalizing v with
  | zero => exact h.elim
  | succ k ih =>
    obtain ⟨xs, rfl, al⟩ := h
    cases xs with
    | nil => exact (ne rfl).elim
    | cons y xs =>
      rw [wr_tup]
      rcases al y List.mem_cons_self with b | ⟨n, zs, rfl, _, _, nz, g⟩
      · rw [mvN_none (isB_in b)]
        omega
      · have := ih g (by intro z; exact nz (AV.tup.inj z))
        rw [rnd_some (z := .tup zs) rfl, List.map_cons, List.sum_cons]
        omega
/-! ### what waits -/
def sWr (W : List (AV × Nat)) : Nat := (W.map fun p => wr (4 - p.2) p.1).sum
def sWt (W : List (AV × Nat)) : Nat := (W.map fun p => wt (4 - p.2) p.1).sum
def LInv (x : AV) (W : List (AV × Nat)) (F : Nat) : Prop := (gd 4 x ↔ ∀ p ∈ W, gd (4 - p.2) p.1) ∧ (gd 4 x → wr 4 x = F + sWr W)
theorem sWr_app (A C : List (AV × Nat)) : sWr (A ++ C) = sWr A + sWr C := by
  unfold sWr
  rw [List.map_append, List.sum_append]
theorem sWt_app (A C : List (AV × Nat)) : sWt (A ++ C) = sWt A + sWt C := by
  unfold sWt
  rw [List.map_append, List.sum_append]
theorem LInv.start (x : AV) : LInv x [(x, 0)] 0 := by
  refine ⟨?_, fun _ => ?_⟩
  · constructor
    · intro g p hp
      rw [List.mem_singleton.mp hp]
      exact g
    · intro h
      exact h _ (List.mem_singleton.mpr rfl)
  · show wr 4 x = 0 + (wr 4 x + 0)
    omega
theorem LInv.bad {x v : AV} {W0 : List (AV × Nat)} {d F : Nat} (h : LInv x (W0 ++ [(v, d)]) F) (n : ¬ gd (4 - d) v) : ¬ gd 4 x := fun g => n (h.1.mp g (v, d) (by simp))
theorem sWr_rnd (k d : Nat) (e : 4 - d = k) (zs : List AV) : sWr (zs.map fun z => (z, d)) = (zs.map (wr k)).sum := by
  unfold sWr
  rw [List.map_map]
  subst e
  rfl
theorem sWt_rnd (k d : Nat) (e : 4 - d = k) (zs : List AV) : sWt (zs.map fun z => (z, d)) = (zs.map (wt k)).sum := by
  unfold sWt
  rw [List.map_map]
  subst e
  rfl
theorem LInv.step {x : AV} {xs : List AV} {W0 : List (AV × Nat)} {d F : Nat} (h : LInv x (W0 ++ [(.tup xs, d)]) F) (hd : d ≤ 3) (ok : ∀ y ∈ xs, okX y) :
    LInv x (W0 ++ (rnd xs).map fun z => (z, d + 1)) (F + mvN xs) ∧ sWt (W0 ++ (rnd xs).map fun z => (z, d + 1)) < sWt (W0 ++ [(.tup xs, d)]) := by
  obtain ⟨k, ek⟩ : ∃ k, 4 - d = k + 1 := ⟨3 - d, by omega⟩
  have e2 : 4 - (d + 1) = k := by omega
  refine ⟨⟨?_, fun g => ?_⟩, ?_⟩
  · rw [h.1]
    constructor
    · intro al p hp
      rcases List.mem_append.mp hp with hp | hp
      · exact al p (List.mem_append_left _ hp)
      · obtain ⟨z, hz, rfl⟩ := List.mem_map.mp hp
        have g := al (.tup xs, d) (by simp)
        rw [ek] at g
        show gd (4 - (d + 1)) z
        rw [e2]
        exact (gd_tup.mp g).2 z hz
    · intro al p hp
      rcases List.mem_append.mp hp with hp | hp
      · exact al p (List.mem_append_left _ hp)
      · rw [List.mem_singleton.mp hp]
        show gd (4 - d) (.tup xs)
        rw [ek]
        refine gd_tup.mpr ⟨ok, fun z hz => ?_⟩
        have := al (z, d + 1) (List.mem_append_right _ (List.mem_map.mpr ⟨z, hz, rfl⟩))
        rw [← e2]
        exact this
  · have := h.2 g
    rw [this, sWr_app, sWr_app, sWr_rnd k (d + 1) e2]
    have e3 : sWr [(.tup xs, d)] = wr (k + 1) (.tup xs) := by
      show wr (4 - d) (.tup xs) + 0 = _
      rw [ek]
      rfl
    rw [e3, wr_tup]
    omega
  · rw [sWt_app, sWt_app, sWt_rnd k (d + 1) e2]
    have e3 : sWt [(.tup xs, d)] = wt (k + 1) (.tup xs) := by
      show wt (4 - d) (.tup xs) + 0 = _
      rw [ek]
      rfl
    rw [e3, wt_tup]
    omega
theorem sWr_pos {W : List (AV × Nat)} (g : ∀ p ∈ W, gd (4 - p.2) p.1) (ne : ∀ p ∈ W, p.1 ≠ .tup []) : W.length ≤ sWr W := by
  induction W with
  | nil => exact Nat.le_refl _
  | cons p W ih =>
    have i := ih (fun q hq => g q (List.mem_cons_of_mem _ hq)) fun q hq => ne q (List.mem_cons_of_mem _ hq)
    have := wr_pos (g p List.mem_cons_self) (ne p List.mem_cons_self)
    show W.length + 1 ≤ wr (4 - p.2) p.1 + sWr W
    omega
theorem LInv.long {x : AV} {W : List (AV × Nat)} {F : Nat} (h : LInv x W F) (ne : ∀ p ∈ W, p.1 ≠ .tup []) (g : gd 4 x) : F + W.length ≤ wr 4 x := by
  have := sWr_pos (h.1.mp g) ne
  have := h.2 g
  omega
theorem mvN_le (xs : List AV) : mvN xs ≤ xs.length := by
  unfold mvN
  exact List.length_filter_le _ _
theorem rnd_le (xs : List AV) : (rnd xs).length ≤ xs.length := List.length_filterMap_le _ _
theorem mvN_app (A C : List AV) : mvN (A ++ C) = mvN A + mvN C := by
  unfold mvN
  rw [List.filter_append, List.length_append]
theorem rnd_app (A C : List AV) : rnd (A ++ C) = rnd A ++ rnd C := List.filterMap_append
end Law

/-! xs.pop(), the last item; list(d.items()) of a dict of ints by ints. -/
namespace MyI
open PySem PySem.Spec PyProof.Rows L2 Srt SrtO MyS
section
variable {X : Cx}
def rListII : List V → Hp → VK → Prop := fun vs H Q => ∃ (p a : Addr) (ks : List (Int × Int)), vs = [.ref p] ∧ H p = some (DX.itemsO p a) ∧ H a = some (.dK (ks.map entI)) ∧
  ∀ (H' : Hp) (l : Addr) (as : List Addr), (∀ b o, H b = some o → H' b = some o) → as.length = ks.length → H l = none → H' l = some (.lst (as.map V.ref)) →
    (∀ z ∈ as.zip ks, H z.1 = none ∧ H' z.1 = some (.tup [.int z.2.1, .int z.2.2])) → Q (.ref l) H'
theorem cr_listII (hc : X.calm = true) : CallR X (.type "list") rListII := by
  intro pins s σ H xs us Q I r h
  obtain ⟨p, a, ks, rfl, hp, ha, q⟩ := h
  obtain rfl := Vals.ref1 r
  have view : s.heap.IsItemsView p a := (show ObjOk X.prog X.w H s.heap p (DX.itemsO p a) from I.hok p _ hp).1
  obtain ⟨z, hd, vs', rel, o, es, ep, ho, hx, hdat, _, hes, hn⟩ := dk_of I.hok ha
  have l1 : (ks.map entI).length = vs'.length := Paired.length rel
  have l2 : es.toList.length = vs'.length := hes.length
  rw [List.length_map] at l1
  rw [Array.length_toList] at l2
  rw [List.length_map] at z
  have hh : X.A.handled = none := I.ok.hd hc
  refine PySem.W.dil_call (es := es) (ep := ep) hh view ⟨o, ho, hx, hdat⟩ (by omega) fun h' tk acc c as hk hS hl hG hacc => ?_
  have lak : as.length = ks.length := by omega
  have nd : as.Nodup := List.Pairwise.imp (fun h => Nat.ne_of_lt h) hG.rise
  have pr : ∀ (j : Nat) (b : Addr), as[j]? = some b → ∃ (e : Int × Int) (t1 t2 : Tok), ks[j]? = some e ∧ h'.get? b = some { cls := .type "tuple", data := .seq #[Value.int e.1 t1, Value.int e.2 t2] } := by
    intro j b hj
    obtain ⟨hjl, hg⟩ := hG.pairs j b hj
    have he' : es.toList[j]? = some es[j] := by simp
    have hvj : vs'[j]? = some (vs'[j].1, vs'[j].2) := List.getElem?_eq_getElem (by omega)
    obtain ⟨k1, k2⟩ := hes.get? he' hvj
    obtain ⟨e0, he0, r1, r2⟩ := DX.pget rel (List.getElem?_eq_getElem (show j < vs'.length by omega))
    rw [List.getElem?_map] at he0
    obtain ⟨e, hkj, rfl⟩ := Option.map_eq_some_iff.mp he0
    rw [← r1] at k1
    have k1 : keyIs (Sum.inl e.1) es[j].key = true := k1
    obtain ⟨i, t1, hi, hk1⟩ | ⟨x, t, hi, _⟩ := keyIs_shape k1
    · cases hi
      have r2 : RelV (V.int e.2) vs'[j].2 := r2
      obtain ⟨t2, hv2⟩ := r2
      refine ⟨e, t1, t2, hkj, ?_⟩
      rw [hg, hk1, k2, hv2]
    · cases hi
  have hf : H s.heap.objs.size = none := I.hok.fresh (Nat.le_refl _)
  have hlen : (as.map V.ref).length ≤ sizeLine := by rw [List.length_map]; omega
  have rv : Vals (as.map V.ref) acc.toList := by
    rw [hacc]
    exact vals_maps (fun z : Addr => V.ref z) (fun z => Value.ref z) as fun _ _ => rfl
  have I2 : Inv X pins σ (upd H s.heap.objs.size (.lst (as.map V.ref))) { s with heap := h', toks := tk } :=
    I.take (h' := h') (t' := tk) (fun b ob _ e => hk b ob e) (I.fpOk (Nat.le_refl _) hf) ⟨hlen, acc.toList, c, rv, hS⟩
  obtain ⟨H2, I3, g, qt⟩ := DX.takeT (P := fun b vs => ∃ (j : Nat) (e : Int × Int), as[j]? = some b ∧ ks[j]? = some e ∧ vs = [.int e.1, .int e.2]) I as _ I2 nd fun b hb => by
    obtain ⟨j, hj⟩ := List.mem_iff_getElem?.mp hb
    obtain ⟨e, t1, t2, he, hg⟩ := pr j b hj
    have hbl : s.heap.objs.size ≤ b := Nat.le_of_lt (hG.above b hb)
    refine ⟨hbl, ?_, [.int e.1, .int e.2], ⟨j, e, hj, he, rfl⟩, fun H3 => ⟨(by rw [sizeLine_eq]; show 2 ≤ 16777216; omega), [Value.int e.1 t1, Value.int e.2 t2], .cons ⟨t1, rfl⟩ (.cons ⟨t2, rfl⟩ .nil), ⟨_, hg, rfl, 0, rfl⟩⟩⟩
    rw [upd_ne (Nat.ne_of_gt (hG.above b hb))]
    exact I.hok.fresh hbl
  have gr : ∀ b o, H b = some o → H2 b = some o := fun b o e => g b o (by rw [upd_ne (ne_of_none e hf)]; exact e)
  refine ⟨.ref s.heap.objs.size, H2, I3, rfl, q H2 s.heap.objs.size as gr lak hf (g _ _ upd_same) fun z' hz' => ?_⟩
  obtain ⟨i, hi⟩ := List.mem_iff_getElem?.mp hz'
  obtain ⟨i1, i2⟩ := List.getElem?_zip_eq_some.mp hi
  obtain ⟨vs, ⟨j, e, j1, j2, ev⟩, hH⟩ := qt z'.1 (List.mem_of_getElem? i1)
  have eij : i = j := (List.getElem?_inj (List.getElem?_eq_some_iff.mp i1).1 nd).mp (i1.trans j1.symm)
  subst eij
  have ee : e = z'.2 := Option.some.inj (j2.symm.trans i2)
  rw [ev, ee] at hH
  exact ⟨I.hok.fresh (Nat.le_of_lt (hG.above _ (List.mem_of_getElem? i1))), hH⟩
end
end MyI
namespace Ab
open PySem PySem.Spec PyProof.Rows L2 MyB MyR MyD
def aListIt (te : AE) : AE := fun ρ η Q => te ρ η fun x η1 => ∃ (n : Nat) (ks : List (Int × Int)), x = .rf n ∧ η1 n = some (.dK (ks.map entA)) ∧ ∀ m, η1 m = none → Q (.rf m) (pt η1 m (.lst (ks.map pvA)))
section
variable {K : KG} {X : Cx}
theorem xe_listIt {o : Expr} {te : AE} {p : Pos} {apos cpos pos : Pos} (hc : X.calm = true) (hg : Gl X "list") (hm : X.mg "list" = none) (ho : XE K X o te)
    (hbase : attributeBase o "items" X.env (eval o X.env) = eval o X.env := by rfl) (hline : (apos.endLine == cpos.line) = true := by rfl)
    (hs : starEach [Expr.Call (.Attribute o "items" apos) [] [] cpos] X.env = (false, eval (Expr.Call (.Attribute o "items" apos) [] [] cpos) X.env) :: starEach [] X.env := by rfl) :
    XE K X (.Call (.Name "list" p) [.Call (.Attribute o "items" apos) [] [] cpos] [] pos) (aListIt te) := by
  obtain ⟨t, p1, q1⟩ := ho
  have pit := pe_bm0 (cpos := cpos) (apos := apos) PySem.F.plainAttrs_dict PySem.F.slot_dict_items PySem.F.type_dict_items MyI.mt_itemsK p1 hbase hline
  have pal : PA X [Expr.Call (.Attribute o "items" apos) [] [] cpos] _ := pa_cons pit pa_nil
  refine ⟨_, pe_callTy (MyI.cr_listII hc) hg hm (by rfl) pal (by decide) (by decide) hs (by rfl), ?_⟩
  intro θ ρ η σ H AQ Q R S h C
  refine q1 θ ρ η σ H _ _ R S h ?_
  rintro θ1 η1 H1 x v e1 R1 r1 ⟨n, ks, rfl, hn, h1⟩
  cases r1 with
  | rf hth =>
    obtain ⟨a, e', vs, hu, ru⟩ := R1.at n _ hn
    rw [hth] at e'
    cases e'
    have ev := repK_ints ru
    subst ev
    refine ⟨?_, _, _, rfl, rfl, hu, fun p hp => ?_⟩
    · exact .inr (.inr (.inl ⟨rfl, .inl ⟨_, hu⟩⟩))
    refine ⟨p, _, ks, rfl, upd_same, (upd_ne (by rintro rfl; rw [hu] at hp; cases hp)).trans hu, fun H' l as keep lk hl0 hl1 hz => ?_⟩
    have s : Same H1 H' := fun b u e => keep b u (by rw [upd_ne (by rintro rfl; rw [e] at hp; cases hp)]; exact e)
    have none1 : ∀ (u : HO) (b : Addr), upd H1 p u b = none → H1 b = none := fun u b e => by
      by_cases c : b = p
      · subst c
        exact hp
      · rw [upd_ne c] at e
        exact e
    have hl' := none1 _ l hl0
    obtain ⟨m, hm', he⟩ := R1.pick
    have m1 : (as.zip ks).map (·.2) = ks := List.map_snd_zip (by omega)
    have m2 : (as.zip ks).map (fun z => V.ref z.1) = as.map V.ref := by
      have : (as.zip ks).map (·.1) = as := List.map_fst_zip (by omega)
      conv => rhs; rw [← this]
      rw [List.map_map]
      rfl
    have rp : Reps K.k θ1 H' (ks.map pvA) (as.map V.ref) := by
      have := reps_pairs (K := K.k) (θ := θ1) (H := H') (ps := as.zip ks) fun z hz' => ⟨R1.untr (none1 _ _ (hz z hz').1), (hz z hz').2⟩
      rwa [m1, m2] at this
    have R2 := (R1.same s).track (n := m) (p := l) (o := .lst (ks.map pvA)) hm' (R1.untr hl') hl1 (.inl ⟨_, rfl⟩) ⟨_, hl1, rp⟩ (K.mono _ _ _ _ (ext_track (.same s) hm' hl') R1.gh)
    exact C (pt θ1 m l) _ _ _ _ (e1.trans (ext_track (.same s) hm' hl')) R2 (.rf pt_same) (h1 m he)
theorem s_listIt {te : AE} {ρ : Sta} {η : Eta} {Q : AK} (k : te ρ η fun x η1 => ∃ (n : Nat) (ks : List (Int × Int)), x = .rf n ∧ η1 n = some (.dK (ks.map entA)) ∧ ∀ m, η1 m = none → Q (.rf m) (pt η1 m (.lst (ks.map pvA)))) : aListIt te ρ η Q := k
end
/-! ### the last item taken off -/
def aBM0 (r : ARm) (to : AE) : AE := fun ρ η Q => to ρ η fun x η1 => IsL x η1 ∧ r x [] η1 Q
theorem Reps.dropLast {K : PySem.W.Frag} {θ : Th} {H : Hp} {xs : List AV} {vs : List V} (h : Reps K θ H xs vs) : Reps K θ H xs.dropLast vs.dropLast := by
  rw [List.dropLast_eq_take, List.dropLast_eq_take, h.len]
  exact h.take _
def kPop0 : ARm := fun x ys η Q => ys = [] ∧ kPop x η Q
section
variable {K : KG} {X : Cx}
theorem xmt_pop : XMt K X "list.pop" kPop0 := by
  refine ⟨_, mt_pop, ?_⟩
  rintro θ η H x v zs vs AQ Q R r rs ⟨rfl, n, xs, y, rfl, hn, hy, q⟩ C
  cases rs
  cases r with
  | rf h =>
    obtain ⟨a, e, us, hu, ru⟩ := R.at n _ hn
    rw [h] at e; cases e
    obtain ⟨u, hu2, ru2⟩ := ru.at hy
    have e1 : Ext θ H θ _ := ext_at (o := .lst us.dropLast) R h hu
    have R2 := R.put (o := .lst xs.dropLast) (v := .lst us.dropLast) h hu ⟨_, upd_same, (ru.dropLast).ext e1⟩
    exact ⟨_, us, u, rfl, rfl, hu, by rw [← ru.len]; exact hu2, C θ _ _ _ _ e1 R2 (ru2.ext e1) q⟩
theorem xe_bm0 {o : Expr} {to : AE} {name : Str} {apos cpos : Pos} {id : String} {r : ARm} (hK : X.K = K) (pa : PlainAttrs "list") (slot : Slot "list" name id) (hty : typeOf (.builtin id) = pure (.type "method_descriptor")) (hm : XMt K X id r) (ho : XE K X o to)
    (hbase : attributeBase o name X.env (eval o X.env) = eval o X.env := by rfl) (hline : (apos.endLine == cpos.line) = true := by rfl) :
    XE K X (.Call (.Attribute o name apos) [] [] cpos) (aBM0 r to) := by
  obtain ⟨t, s1, s2⟩ := hm
  obtain ⟨t1, p1, q1⟩ := ho
  obtain ⟨K, Gg, mn⟩ := K; have hK : X.K = K := hK; subst hK
  refine ⟨_, pe_bm0 pa slot hty s1 p1 hbase hline, ?_⟩
  intro θ ρ η σ H AQ Q R S h C
  refine q1 θ ρ η σ H _ _ R S h ?_
  rintro θ1 η1 H1 x v e1 R1 r1 ⟨hl, h1⟩
  exact ⟨isL_ty hl R1 r1, s2 θ1 η1 H1 x v [] [] AQ Q R1 r1 .nil h1 (C.ext e1)⟩
theorem s_bm0 {r : ARm} {to : AE} {ρ : Sta} {η : Eta} {Q : AK} (k : to ρ η fun x η1 => IsL x η1 ∧ r x [] η1 Q) : aBM0 r to ρ η Q := k
theorem s_pop0 {η : Eta} {Q : AK} {n : Nat} {xs : List AV} {y : AV} (h : η n = some (.lst (xs ++ [y]))) (q : Q y (pt η n (.lst xs))) : kPop0 (.rf n) [] η Q := by
  refine ⟨rfl, n, xs ++ [y], y, rfl, h, by simp, ?_⟩
  rw [List.dropLast_concat]
  exact q
end
end Ab
namespace Ab
open PySem PySem.Spec PyProof.Rows L2 MyB MyR MyD
theorem s_eqNil2 {η : Eta} {Q : AK} {n m : Nat} {xs : List AV} {ne : Bool} (h1 : η n = some (.lst xs)) (h2 : η m = some (.lst [])) (k : Q (.bl (ne != xs.isEmpty)) η) : kEqNil ne (.rf n) (.rf m) η Q := ⟨n, m, xs, rfl, rfl, h1, h2, k⟩
end Ab

/-! a tuple so many times: from once on, of any length. -/
namespace MyI
open PySem PySem.Spec PyProof.Rows L2
theorem tuple_mul_one (l : Addr) (items : Array Value) (n : Nat) (u : Tok) (dd : Option Addr) (sl : Array (Option Value)) :
    Meets (Builtin.«tuple.__mul__» ⟨[.ref l, .int 1 u], []⟩) (fun _ R s => s.heap.get? l = some { cls := .type "tuple", dict := dd, data := .seq items n, slots := sl } ∧ R (.ok (.ret (Value.ref l))) s) :=
  .of_wp fun prog w A R s h => by
    obtain ⟨hp, g, d, tk, os⟩ := s
    obtain ⟨hl, h⟩ := h
    have f1 := AutoSeq1.idx_int
    wp_walk using wpAny_loadPart' hl
    exact ⟨_, rfl, h⟩
def rRepU (K : PySem.W.Frag) : R2 := fun x y H Q => ∃ l k xs, x = .ref l ∧ y = .int k ∧ SqT K H l xs ∧ xs ≠ [] ∧ 1 ≤ k ∧ xs.length * k.toNat ≤ 1000000 ∧ (k = 1 → Q (.ref l) H) ∧ ∀ p, H p = none → Q (.ref p) (upd H p (.tup (List.replicate k.toNat xs).flatten))
section
variable {X : Cx}
theorem op_repU : OpR X (binaryOp .Mult) (rRepU X.K) := by
  intro pins s σ H x y v u Q I rx ry h
  obtain ⟨l, k, xs, rfl, rfl, hT, hne, h1, hz, q1, q⟩ := h
  cases rx
  obtain ⟨t, rfl⟩ := ry
  obtain ⟨its, r, hex, hs⟩ := I.tuple hT
  obtain ⟨⟨cls, dd, data, sl⟩, ho, hc, n, hd⟩ := hex
  simp only at hc hd
  subst hc hd
  have hl : its.length = xs.length := r.length.symm
  cases its with
  | nil =>
    refine absurd ?_ hne
    cases xs with
    | nil => rfl
    | cons a xs => cases hl
  | cons i0 its =>
  have big : (i0 :: its).toArray.size = xs.length := by rw [List.size_toArray, hl]
  have prod : k.toNat * (i0 :: its).length ≤ 1000000 := by rw [hl, Nat.mul_comm]; exact hz
  have prodI : (((i0 :: its).toArray.size : Nat) : Int) * k ≤ 1000000 := by
    rw [big]
    have : ((xs.length * k.toNat : Nat) : Int) ≤ 1000000 := by omega
    rw [Int.natCast_mul, Int.toNat_of_nonneg (by omega)] at this
    exact this
  have one : k ≤ 1000000 := by
    have a1 : 1 * k.toNat ≤ xs.length * k.toNat := Nat.mul_le_mul_right _ (by rw [← hl]; exact Nat.succ_pos _)
    omega
  have road := wpAny_binaryOp_repeat_ref (M := model X.prog X.w) (A := X.A) (E := X.xe) (Q := EP X pins σ Q) (s := s) (a := .ref l) (n := .int k t) (T := "tuple") (U := "int") (by decide) ⟨_, ho, rfl⟩ (fun s' => typeIs_int s' k t) noFill_tuple_mul F.fills_int_mul F.slot_int_rmul repeat_tuple F.slot_int_index.lookup
  refine road (call_meets F.slot_int_rmul (typeIs_int s k t) F.entry_int_rmul (F.args_int_rmul_2 _ _) (int_rmul_tuple k t l (i0 :: its).toArray n dd sl) ⟨ho, rfl, ⟨_, ho, rfl⟩, ?_⟩)
  by_cases c : k = 1
  · subst c
    refine call_meets F.slot_tuple_mul ⟨_, ho, rfl⟩ F.entry_tuple_mul (F.args_tuple_mul_2 _ _) (tuple_mul_one l _ n t dd sl) ⟨ho, ?_⟩
    exact ⟨.ref l, _, I, rfl, q1 rfl⟩
  have flat : (List.replicate k.toNat (i0 :: its)).flatten.length ≤ sizeLine := by
    rw [PyProof.Rows.lm_len_rep_flat, sizeLine_eq]
    omega
  refine call_meets F.slot_tuple_mul ⟨_, ho, rfl⟩ F.entry_tuple_mul (F.args_tuple_mul_2 _ _) (tuple_mulW l (i0 :: its).toArray n dd sl k t ?_ ?_ ?_ ?_ ?_ ?_) ⟨ho, ?_⟩
  · rw [decide_eq_false (show ¬ k < -(2 ^ 63) by omega), decide_eq_false (show ¬ k ≥ 2 ^ 63 by omega)]
    rfl
  · rw [beq_eq_false_iff_ne.mpr c]
    rfl
  · rw [decide_eq_false (show ¬ k ≤ 0 by omega)]
    rfl
  · omega
  · unfold Builtin.Tuple.tupleTooMany
    rw [sizeLine_eq]
    exact decide_eq_false (by omega)
  · rw [size_rep, List.size_toArray]
    exact flat
  · rw [size_rep]
    refine ⟨.ref s.heap.objs.size, _, I.laid (t' := s.toks) (o := .tup (List.replicate k.toNat xs).flatten) (fun b ob q => Heap.get?_push_of_some _ q) (Nat.le_refl _) ?_, rfl, q _ (I.hok.fresh (Nat.le_refl _))⟩
    refine ⟨?_, _, r.rep k.toNat, IsTup.new _ _⟩
    rw [PyProof.Rows.lm_len_rep_flat, sizeLine_eq, Nat.mul_comm]
    omega
end
end MyI
namespace Ab
open PySem PySem.Spec PyProof.Rows L2 MyB MyR MyD
def kRepU : AR2 := fun x y η Q => ∃ xs k, x = .tup xs ∧ y = .int k ∧ xs ≠ [] ∧ 1 ≤ k ∧ xs.length * k.toNat ≤ 1000000 ∧ Q (.tup (List.replicate k.toNat xs).flatten) η
section
variable {K : KG} {X : Cx}
theorem xo_repU (hK : X.K = K) : XO K X (binaryOp .Mult) kRepU := by
  refine ⟨MyI.rRepU K, by obtain ⟨K, Gg, mn⟩ := K; have hK : X.K = K := hK; subst hK; exact MyI.op_repU, ?_⟩
  rintro θ η H x y v u AQ Q R r1 r2 ⟨xs, k, rfl, rfl, nx, k1, hl, q⟩ C
  cases r2
  cases r1 with
  | tup u1 h1 r1 =>
    refine ⟨_, k, _, rfl, rfl, sqT h1, fun z => nx ?_, k1, by rw [← r1.len]; exact hl, fun e => ?_, fun p hp => ?_⟩
    · cases r1 with
      | nil => rfl
      | cons a b => cases z
    · subst e
      refine C θ η H _ _ .refl R (.tup u1 h1 ?_) q
      simpa using r1
    · exact C θ η _ _ _ (ext_new hp) (R.new0 hp) (.tup (R.untr hp) upd_same (reps_flat (r1.ext (ext_new hp)) _)) q
end
theorem s_repU {η : Eta} {Q : AK} {xs : List AV} {k : Int} (nx : xs ≠ []) (k1 : 1 ≤ k) (hl : xs.length * k.toNat ≤ 1000000) (q : Q (.tup (List.replicate k.toNat xs).flatten) η) : kRepU (.tup xs) (.int k) η Q := ⟨xs, k, rfl, rfl, nx, k1, hl, q⟩
end Ab
/-! powers of great numbers -/
namespace MyI
open PySem PySem.Spec PyProof.Rows L2
def CPowW (i j : Int) : Prop := 0 ≤ j ∧ j ≤ 1000 ∧ i.natAbs.log2 < 10000
theorem op_powW {X : Cx} : OpR X (binaryOp .Pow) (rI CPowW fun i j => .int (i ^ j.toNat)) := opI fun i j _ _ _ _ _ hc q => pow_int hc.1 (by
  obtain ⟨h0, h1, h2⟩ := hc
  have b : Builtin.Int.intBits i ≤ i.natAbs.log2 + 1 := by
    unfold Builtin.Int.intBits
    split <;> omega
  have h3 : (Builtin.Int.intBits i : Int) * j ≤ 10001 * 1000 := Int.mul_le_mul (by omega) h1 h0 (by decide)
  omega) q
end MyI
namespace Ab
open PySem PySem.Spec PyProof.Rows L2 MyB MyR MyD
theorem xo_powW {K : KG} {X : Cx} : XO K X (binaryOp .Pow) (kIC MyI.CPowW fun i j => i ^ j.toNat) := ⟨_, MyI.op_powW, ab_IC⟩
end Ab

namespace Law
open PySem L2 MyB MyR MyD MyC Ab
/-! ### how many moves a log makes, and which: plain -/
def tms : AV → Int
  | .tup [_, .int n, _] => n
  | _ => 0
def cnt : Nat → AV → Int
  | k + 1, .tup xs => (xs.map fun y => match inR y with | some z => tms y * cnt k z | none => 1).sum
  | _, _ => 0
def cntI (k : Nat) (y : AV) : Int := match inR y with | some z => tms y * cnt k z | none => 1
def outL : Nat → AV → List AV
  | k + 1, .tup xs => (xs.map fun y => match inR y with | some z => (List.replicate (tms y).toNat (outL k z)).flatten | none => [y]).flatten
  | _, _ => []
def outI (k : Nat) (y : AV) : List AV := match inR y with | some z => (List.replicate (tms y).toNat (outL k z)).flatten | none => [y]
theorem cnt_tup (k : Nat) (xs : List AV) : cnt (k + 1) (.tup xs) = (xs.map (cntI k)).sum := rfl
theorem outL_tup (k : Nat) (xs : List AV) : outL (k + 1) (.tup xs) = (xs.map (outI k)).flatten := rfl
/-- an item of a log that may have k levels -/
def gdI (k : Nat) (y : AV) : Prop := isB y ∨ ∃ (n : Int) (zs : List AV), y = .tup [.str "times", .int n, .tup zs] ∧ 1 ≤ n ∧ n ≤ 10 ^ 30 ∧ zs ≠ [] ∧ gd k (.tup zs)
theorem gd_items {k : Nat} {xs : List AV} : gd (k + 1) (.tup xs) ↔ ∀ y ∈ xs, gdI k y := by
  constructor
  · rintro ⟨ys, e, al⟩
    have e := AV.tup.inj e
    subst e
    exact al
  · exact fun al => ⟨xs, rfl, al⟩
def wrI (k : Nat) (y : AV) : Nat := match inR y with | some z => wr k z | none => 1
theorem wr_sum (k : Nat) (xs : List AV) : wr (k + 1) (.tup xs) = (xs.map (wrI k)).sum := rfl
theorem cnt_both {k : Nat} {v : AV} (g : gd k v) : (0 ≤ cnt k v ∧ cnt k v ≤ wr k v * 10 ^ (30 * k)) ∧ (v ≠ .tup [] → 1 ≤ cnt k v) ∧ ((outL k v).length : Int) = cnt k v := by
  induction k generalizing v with
  | zero => exact g.elim
  | succ k ih =>
    obtain ⟨xs, rfl, al⟩ := g
    have al : ∀ y ∈ xs, gdI k y := al
    have P1 : (10 : Int) ^ (30 * (k + 1)) = 10 ^ 30 * 10 ^ (30 * k) := by rw [Nat.mul_succ, Nat.add_comm, Int.pow_add]
    have P0 : (0 : Int) < 10 ^ (30 * k) := Int.pow_pos (by decide)
    have one : ∀ y ∈ xs, 1 ≤ cntI k y ∧ cntI k y ≤ wrI k y * 10 ^ (30 * (k + 1)) ∧ ((outI k y).length : Int) = cntI k y := by
      intro y hy
      rcases al y hy with ⟨m, rfl, om⟩ | ⟨n, zs, rfl, n1, n2, ne, g⟩
      · refine ⟨by show (1 : Int) ≤ 1; omega, ?_, rfl⟩
        show (1 : Int) ≤ (1 : Nat) * 10 ^ (30 * (k + 1))
        have : (0 : Int) < 10 ^ (30 * (k + 1)) := Int.pow_pos (by decide)
        omega
      · obtain ⟨⟨c0, c1⟩, c2, c3⟩ := ih g
        have c2 := c2 fun z => ne (AV.tup.inj z)
        refine ⟨?_, ?_, ?_⟩
        · show 1 ≤ n * cnt k (.tup zs)
          have : 1 * 1 ≤ n * cnt k (.tup zs) := Int.mul_le_mul n1 c2 (by decide) (by omega)
          omega
        · show n * cnt k (.tup zs) ≤ (wr k (.tup zs) : Int) * 10 ^ (30 * (k + 1))
          have a1 : n * cnt k (.tup zs) ≤ 10 ^ 30 * (wr k (.tup zs) * 10 ^ (30 * k)) := Int.mul_le_mul n2 c1 c0 (by decide)
          rw [P1]
          rw [show (wr k (.tup zs) : Int) * (10 ^ 30 * 10 ^ (30 * k)) = 10 ^ 30 * (wr k (.tup zs) * 10 ^ (30 * k)) by rw [Int.mul_left_comm]]
          exact a1
        · show (((List.replicate n.toNat (outL k (.tup zs))).flatten.length : Nat) : Int) = n * cnt k (.tup zs)
          rw [List.length_flatten, List.map_replicate, List.sum_replicate_nat, Int.natCast_mul, c3, Int.toNat_of_nonneg (by omega)]
    have all : ∀ ys : List AV, (∀ y ∈ ys, y ∈ xs) → (ys.length : Int) ≤ (ys.map (cntI k)).sum ∧ (ys.map (cntI k)).sum ≤ (((ys.map (wrI k)).sum : Nat) : Int) * 10 ^ (30 * (k + 1)) ∧ (((ys.map (outI k)).flatten.length : Nat) : Int) = (ys.map (cntI k)).sum := by
      intro ys
      induction ys with
      | nil => intro _; exact ⟨by simp, by simp, rfl⟩
      | cons y ys ih2 =>
        intro h
        obtain ⟨i1, i2, i3⟩ := ih2 fun z hz => h z (List.mem_cons_of_mem _ hz)
        obtain ⟨o1, o2, o3⟩ := one y (h y List.mem_cons_self)
        rw [List.map_cons, List.sum_cons, List.map_cons, List.sum_cons, List.map_cons, List.flatten_cons, List.length_append, List.length_cons]
        refine ⟨by omega, ?_, by omega⟩
        rw [Int.natCast_add, Int.add_mul]
        omega
    obtain ⟨a1, a2, a3⟩ := all xs fun _ h => h
    rw [cnt_tup, outL_tup, wr_sum]
    refine ⟨⟨by omega, a2⟩, fun ne => ?_, a3⟩
    have : 0 < xs.length := by
      cases xs with
      | nil => exact (ne rfl).elim
      | cons a b => exact Nat.succ_pos _
    omega
theorem cntI_pos {k : Nat} {y : AV} (g : gdI k y) : 1 ≤ cntI k y := by
  rcases g with ⟨m, rfl, om⟩ | ⟨n, zs, rfl, n1, n2, ne, g⟩
  · show (1 : Int) ≤ 1
    omega
  · have c2 := (cnt_both g).2.1 fun z => ne (AV.tup.inj z)
    show 1 ≤ n * cnt k (.tup zs)
    have : 1 * 1 ≤ n * cnt k (.tup zs) := Int.mul_le_mul n1 c2 (by decide) (by omega)
    omega
theorem sum_snoc {f : AV → Int} {zs : List AV} {i : Nat} {y : AV} (h : zs[i]? = some y) : ((zs.take (i + 1)).map f).sum = ((zs.take i).map f).sum + f y := by
  rw [take_snocB h, List.map_append, List.sum_append]
  simp
theorem flat_snoc {f : AV → List AV} {zs : List AV} {i : Nat} {y : AV} (h : zs[i]? = some y) : ((zs.take (i + 1)).map f).flatten = ((zs.take i).map f).flatten ++ f y := by
  rw [take_snocB h, List.map_append, List.flatten_append]
  simp
theorem sum_nn {f : AV → Int} : ∀ {zs : List AV}, (∀ y ∈ zs, 1 ≤ f y) → (zs.length : Int) ≤ (zs.map f).sum
  | [], _ => by simp
  | z :: zs, h => by
    have := sum_nn (f := f) (zs := zs) fun y hy => h y (List.mem_cons_of_mem _ hy)
    have := h z List.mem_cons_self
    rw [List.map_cons, List.sum_cons, List.length_cons]
    omega
theorem sum_part {f : AV → Int} {zs : List AV} (h : ∀ y ∈ zs, 1 ≤ f y) (i : Nat) : ((zs.take i).map f).sum ≤ (zs.map f).sum := by
  have e : zs.map f = (zs.take i).map f ++ (zs.drop i).map f := by rw [← List.map_append, List.take_append_drop]
  rw [e, List.sum_append]
  have := sum_nn (f := f) (zs := zs.drop i) fun y hy => h y (List.mem_of_mem_drop hy)
  omega
theorem sum_one {f : AV → Int} {zs : List AV} (h : ∀ y ∈ zs, 1 ≤ f y) {i : Nat} {y : AV} (hy : zs[i]? = some y) : ((zs.take i).map f).sum + f y ≤ (zs.map f).sum := by
  rw [← sum_snoc hy]
  exact sum_part h _
theorem gd_len {k : Nat} {xs : List AV} (g : gd (k + 1) (.tup xs)) : xs.length ≤ wr (k + 1) (.tup xs) := by
  have al := gd_items.mp g
  clear g
  rw [wr_sum]
  induction xs with
  | nil => exact Nat.le_refl _
  | cons y ys ih =>
    have i := ih fun z hz => al z (List.mem_cons_of_mem _ hz)
    rw [List.map_cons, List.sum_cons, List.length_cons]
    have : 1 ≤ wrI k y := by
      rcases al y List.mem_cons_self with ⟨m, rfl, om⟩ | ⟨n, zs, rfl, n1, n2, ne, g⟩
      · exact Nat.le_refl 1
      · exact wr_pos g fun z => ne (AV.tup.inj z)
    omega
theorem wrI_le {k : Nat} {xs : List AV} {y : AV} (h : y ∈ xs) : wrI k y ≤ wr (k + 1) (.tup xs) := by
  rw [wr_sum]
  induction xs with
  | nil => cases h
  | cons a ys ih =>
    rw [List.map_cons, List.sum_cons]
    rcases List.mem_cons.mp h with rfl | h
    · omega
    · have := ih h
      omega
theorem cnt_log {k : Nat} {v : AV} (hk : k ≤ 4) (g : gd k v) (hw : wr k v ≤ 200) {n : Int} (n1 : 1 ≤ n) (n2 : n ≤ 10 ^ 30) : CMulW n (cnt k v) := by
  obtain ⟨⟨c0, c1⟩, _, _⟩ := cnt_both g
  have c2 : cnt k v ≤ 200 * 10 ^ 120 := by
    have p : (10 : Int) ^ (30 * k) ≤ 10 ^ 120 := by
      have : (10 : Nat) ^ (30 * k) ≤ 10 ^ 120 := Nat.pow_le_pow_right (by decide) (by omega)
      exact_mod_cast this
    have p0 : (0 : Int) ≤ 10 ^ (30 * k) := Int.le_of_lt (Int.pow_pos (by decide))
    have : (wr k v : Int) * 10 ^ (30 * k) ≤ 200 * 10 ^ 120 := Int.mul_le_mul (by omega) p p0 (by decide)
    omega
  unfold CMulW
  have a1 : n.natAbs.log2 < 200 := by
    rw [Nat.log2_lt (by omega)]
    have : n.natAbs ≤ 10 ^ 30 := by omega
    exact Nat.lt_of_le_of_lt this (by decide)
  have a2 : (cnt k v).natAbs.log2 < 500 := by
    by_cases z : cnt k v = 0
    · rw [z]; decide
    · rw [Nat.log2_lt (by omega)]
      have : (cnt k v).natAbs ≤ 200 * 10 ^ 120 := by omega
      exact Nat.lt_of_le_of_lt this (by decide)
  omega
end Law

namespace Law
open PySem L2 MyB MyR MyD MyC Ab
local macro_rules | `(tactic| walk_at "kp") => `(tactic| first | exact Kept.refl | (refine' Kept.put ?kpa ?kpb; (case kpb => (walk_at "nn")); (case kpa => (walk_at "kp"))) | (refine' Kept.back ?kpa ?kpb; (case kpb => assumption); (case kpa => (walk_at "kp"))))
local macro_rules | `(tactic| walk_at "nn") => `(tactic| first | assumption | (refine' Kept.none ?nna ?nnb; (case nnb => assumption); (case nna => (walk_at "kp"))))
local macro_rules | `(tactic| walk_at "en") => `(tactic| first | assumption | exact pt_same | ((repeat rw [pt_ne (by assumption)]); first | assumption | exact pt_same))
local macro_rules | `(tactic| walk_at "lo") => `(tactic| first | assumption | exact lo_rf (by walk_at "en") | exact Or.inr rfl)
local macro_rules | `(tactic| walk_at "nu") => `(tactic| with_unfolding_all (first | assumption | decide | exact ⟨by decide, by decide⟩ | exact .inr ⟨by decide, by decide⟩ | exact ⟨by decide, by decide, by decide⟩ | exact ⟨by omega, by omega⟩ | exact .inl ⟨by omega, by omega⟩ | exact .inr ⟨by omega, by omega⟩))
local macro_rules | `(tactic| walk_at "ad") => `(tactic| with_reducible (first
  | refine s_seq ?_ | refine s_asg ?_ | refine s_tryAs ?_ | refine s_tryOnly ?_ | refine s_raise ?_ | refine s_raise1 ?_ | refine s_callX ?_ | refine s_xf ?_ | refine s_op ?_ | refine s_un ?_
  | (refine' s_var ?rdh ?_; (case rdh => (with_unfolding_all rfl)))
  | refine s_c ?_ | refine s_add ?_ | refine s_II ?_ | refine s_IB ?_ | refine s_lt ?_ | refine s_U ?_ | refine s_eqI ?_ | refine s_neI ?_ | refine s_eqB ?_ | refine s_neB ?_ | refine s_eqX ?_ | refine s_neX ?_
  | refine s_isNn ?_ | refine s_isNi ?_ | refine s_isNt ?_ | refine s_isNr ?_ | refine s_isNb ?_ | refine s_ntNn ?_ | refine s_ntNi ?_ | refine s_ntNt ?_ | refine s_ntNr ?_
  | refine s_test ?_ | refine s_not ?_ | refine s_and ?_ | refine s_or ?_ | refine s_yes ?_ | refine s_bl ?_
  | refine s_andV ?_ | refine s_orV ?_ | refine s_notV ?_ | refine s_chain ?_ | refine s_if ?_ | refine s_next ?_ | refine s_brk ?_ | refine s_cnt ?_ | refine s_ifS ?_
  | refine s_ret ?_ | refine s_retN ?_ | refine s_drop ?_ | refine s_name ?_ | refine s_sub ?_ | refine s_gCons ?_ | refine s_gNil ?_
  | refine s_cons ?_ | refine s_nil ?_ | refine s_cb ?_ | refine s_call ?_ | refine s_tup ?_ | refine s_lst ?_
  | refine s_mkT2 ?_ | refine s_mkT3 ?_ | refine s_mkT1 ?_ | refine s_mkT0 ?_ | refine s_mkT4 ?_ | refine s_mkT5 ?_
  | refine s_par ?_ | refine s_par3 ?_ | refine s_par2 ?_ | refine s_par33 ?_ | refine s_iRng1 ?_ | refine s_iRng2 ?_ | refine s_for ?_ | refine s_iList ?_ | refine s_iTup ?_ | refine s_theTup ?_ | refine s_lc ?_ | refine s_bm ?_
  | refine s_sl ?_ | refine s_noPart ?_ | refine s_part ?_ | refine s_abs ?_ | refine s_int ?_ | refine s_intB ?_ | refine s_max ?_ | refine s_min ?_ | refine s_max3 ?_ | refine s_theInt ?_ | refine s_lenT ?_ | refine s_tupT ?_ | refine s_slT3 ?_ | refine s_slT ?_ | refine s_dget ?_ | refine s_dget2 ?_ | refine s_din ?_ | refine s_iZip ?_ | refine s_iEnum ?_ | refine s_iEnumT ?_ | refine s_sortIt ?_ | refine s_zipT ?_ | refine s_sumM ?_ | refine s_anyM ?_ | refine s_allM ?_ | refine s_dc ?_ | refine s_iKeys ?_ | refine s_listT' ?_
  | refine s_sumT ?_
  | (refine' s_gTup ?rdi ?_; (case rdi => (with_unfolding_all rfl)))
  | (refine' s_gLst ?rdh ?rdi ?_; (case rdh => (with_unfolding_all (walk_at "lo"))); (case rdi => (with_unfolding_all rfl)))
  | (refine' s_ixT ?rdi ?_; (case rdi => (with_unfolding_all rfl)))
  | (refine' s_ixL ?rdh ?rdi ?_; (case rdh => (with_unfolding_all (walk_at "lo"))); (case rdi => (with_unfolding_all rfl)))
  | (refine' s_setL ?rdh ?rdi ?_; (case rdh => (with_unfolding_all (walk_at "en"))); (case rdi => (with_unfolding_all rfl)))
  | (refine' s_lenL ?rdh ?_; (case rdh => (with_unfolding_all (walk_at "lo"))))
  | (refine' s_all ?rdh ?_; (case rdh => (with_unfolding_all (walk_at "lo"))))
  | (refine' s_any ?rdh ?_; (case rdh => (with_unfolding_all (walk_at "lo"))))
  | (refine' s_sum ?rdh ?_; (case rdh => (with_unfolding_all (walk_at "lo"))))
  | (refine' s_listL' ?rdh ?_; (case rdh => (with_unfolding_all (walk_at "lo"))))
  | (refine' s_tupL ?rdh ?_; (case rdh => (with_unfolding_all (walk_at "lo"))))
  | (refine' And.intro (s_isL ?rdh) ?_; (case rdh => (with_unfolding_all (walk_at "en"))))
  | (refine' s_IC ?rdh ?_; (case rdh => (walk_at "nu")))
  | (refine' s_mul ?rdh ?_; (case rdh => (walk_at "nu")))
  | (refine' s_div ?rdh ?_; (case rdh => (walk_at "nu")))
  | (refine' s_floors ?rdh ?_; (case rdh => assumption)) | (refine' s_room ?rdh ?_; (case rdh => assumption))
  | (refine' s_house ?rdh ?_; (case rdh => assumption)) | (refine' s_lift ?rdh ?_; (case rdh => assumption)) | (refine' s_grps ?rdh ?_; (case rdh => assumption))
  | refine s_eqG ?_ | refine s_neG ?_ | refine s_eqN ?_ | refine s_neN ?_
  | (refine' s_aug ?rdh ?_; (case rdh => (with_unfolding_all rfl)))))
local macro_rules | `(tactic| walk_at "ad*") => `(tactic| (repeat (walk_at "ad")))

local macro_rules | `(tactic| walk_at "az") => `(tactic| first | walk_at "ad" | with_reducible (first | refine iteF ?_ | refine iteT ?_ | refine ite_nT ?_ | refine ite_nF ?_ | (refine' s_rngJ ?rdh ?_; (case rdh => omega)) | (refine' s_rngJ2 ?rdh ?_; (case rdh => omega)) | refine s_isT ?_ | refine s_notT ?_ | refine s_isF ?_ | refine s_notF ?_ | refine s_isi_non_int ?_ | refine s_isi_non_bool ?_ | refine s_isi_non_tuple ?_ | refine s_isi_non_list ?_ | refine s_isi_non_str ?_ | refine s_isi_bl_int ?_ | refine s_isi_bl_bool ?_ | refine s_isi_bl_tuple ?_ | refine s_isi_bl_list ?_ | refine s_isi_bl_str ?_ | refine s_isi_int_int ?_ | refine s_isi_int_bool ?_ | refine s_isi_int_tuple ?_ | refine s_isi_int_list ?_ | refine s_isi_int_str ?_ | refine s_isi_str_int ?_ | refine s_isi_str_bool ?_ | refine s_isi_str_tuple ?_ | refine s_isi_str_list ?_ | refine s_isi_str_str ?_ | refine s_isi_tup_int ?_ | refine s_isi_tup_bool ?_ | refine s_isi_tup_tuple ?_ | refine s_isi_tup_list ?_ | refine s_isi_tup_str ?_))
local macro_rules | `(tactic| walk_at "az*") => `(tactic| (repeat (walk_at "az")))
local macro_rules | `(tactic| walk_at "cl") => `(tactic| ((repeat refine Exists.intro _ ?_); refine And.intro rfl ?_; (repeat (refine And.intro (by first | assumption | omega | exact lo_rf (by assumption)) ?_))))

local macro_rules | `(tactic| walk_at "bz") => `(tactic| first | (with_reducible (refine' s_nameE ?rde ?_; (case rde => ((try simp only [List.set_cons_succ, List.set_cons_zero]); exact rfl)))) | (with_reducible (refine' s_par2E ?rde ?_; (case rde => ((try simp only [List.set_cons_succ, List.set_cons_zero]); exact rfl)))) | walk_at "az")
local macro_rules | `(tactic| walk_at "bz*") => `(tactic| (repeat (walk_at "bz")))

local macro_rules | `(tactic| walk_at "cz") => `(tactic| first | with_reducible (first | refine s_fldS ?_ | refine s_makeN ?_ | refine s_callN ?_ | refine s_stepL ?_ | refine s_revT ?_ | refine s_methN ?_ | refine s_methX ?_ | refine s_bm0 ?_ | refine s_listIt ?_) | walk_at "bz")
local macro_rules | `(tactic| walk_at "cz*") => `(tactic| (repeat (walk_at "cz")))

/-! ### how many moves are written in a thing -/
def wV (p : AV × Nat) : AV := .tup [p.1, .int p.2]
section
variable {P : Program} {w : World} {K : PySem.W.Frag} {mg : Str → Option Value} {base : Heap} {CH CS CR C : Addr}
def spZWritten (K : PySem.W.Frag) : ASp := fun xs η Q => ∃ (h N : Nat) (Z : Int) (x : AV), xs = [x] ∧ N ≤ 1000000 ∧ MT K h Z N η x ∧ (gd 4 x → wr 4 x ≤ 200 → Q (.int (wr 4 x)) η) ∧ (¬ (gd 4 x ∧ wr 4 x ≤ 200) → Q .non η)
theorem Z_written_in (B : Bi mg) {t1 t2 : Tok} (c_MOST_DEPTH : mg "MOST_DEPTH" = some (.int 3 t1)) (c_MOST_WRITTEN : mg "MOST_WRITTEN" = some (.int 200 t2)) (R_written_in : Raw K mg "written_in" s_written_in) (D_is_rounds : XDef P w K mg base 4 "is_rounds" ["thing"] (spZRounds K)) (D_is_built_move : XDef P w K mg base 4 "is_built_move" ["thing"] (spZBuilt K)) :
    XDef P w K mg base 5 "written_in" ["thing"] (spZWritten K) := by
  refine XDef.of R_written_in (N := N_written_in) (ps := ["thing"]) sc_written_in (fun _ _ _ _ _ _ us hl => match us, hl with | [_], _ => rfl) ?_ fun f cdv A outer s H E hr => ?_
  · rintro xs η Q ⟨h, N, Z, x, rfl, _⟩
    rfl
  have hu := hu_of hr
  refine ⟨_, (xss_cons (xs_set (i := 1) sc_written_in.nd rfl (Or.inl rfl) (xe_lst (xa_cons (xe_tup (xa_cons (xv 0) (xa_cons xe_int xa_nil))) xa_nil)))
  (xss_cons (xs_set (i := 2) sc_written_in.nd rfl (Or.inl rfl) xe_int)
  (xss_cons (xs_while PassesOwn.never (xt_cmpR (xo_neNil rfl hr.units) (xv 1) (xe_lst xa_nil) (nomark _))
    (xss_cons (xs_asg (xe_bm0 rfl PySem.F.plainAttrs_list PySem.F.slot_list_pop PySem.F.type_list_pop xmt_pop (xv 1)) (xg_tup (n := 2) rfl rfl (xgs_cons (xg_name (i := 3) sc_written_in.nd rfl (Or.inl rfl)) (xgs_cons (xg_name (i := 4) sc_written_in.nd rfl (Or.inl rfl)) xgs_nil))))
      (xss_cons (xs_if (XW.xt (xw_or (xt_not (xt_val (xe_callB (xc_isi rfl) (by rfl) B.isinstance (by decide +kernel) (xa_cons (xv 3) (xa_cons (xe_bltn (n := "tuple") (by rfl) B.tuple (by decide +kernel)) xa_nil))))) (xw_or1 (xt_cmpR xo_gt (xv 4) (xe_globI rfl c_MOST_DEPTH) (nomark _)))))
        (xss_one (xs_ret xe_non))
        xss_nil)
      (xss_cons (xs_for PassesOwn.never rfl (xi_tup rfl (xv 3)) (xg_name (i := 5) sc_written_in.nd rfl (Or.inl rfl))
        (xss_one (xs_if (xt_val (xe_callD rfl D_is_rounds (hr.mono (by decide)) rfl (xa_cons (xv 5) xa_nil)))
            (xss_one (xs_expr (xe_bm rfl PySem.F.plainAttrs_list PySem.F.slot_list_append PySem.F.type_list_append xmt_append (xv 1) (xa_cons (xe_tup (xa_cons (xe_ix (xu_ix rfl) (xv 5) xe_int (fun _ _ => rfl)) (xa_cons (xe_op (xu_add rfl) (xv 4) xe_int) xa_nil))) xa_nil))))
            (xss_one (xs_if (xt_val (xe_callD rfl D_is_built_move (hr.mono (by decide)) rfl (xa_cons (xv 5) xa_nil)))
                (xss_one (xs_aug (i := 2) sc_written_in.nd rfl (Or.inl rfl) xe_int ip_add))
                (xss_one (xs_ret xe_non)))))))
      (xss_one (xs_if (XW.xt (xw_or (xt_cmpR xo_gt (xv 2) (xe_globI rfl c_MOST_WRITTEN) (nomark _)) (xw_or1 (xt_cmpR xo_gt (xe_callB (xc_len rfl) (by rfl) B.len (by decide +kernel) (xa_cons (xv 1) xa_nil)) (xe_globI rfl c_MOST_WRITTEN) (nomark _)))))
        (xss_one (xs_ret xe_non))
        xss_nil))))))
  (xss_one (xs_ret (xv 2)))))), ?_⟩
  rintro xs η Q ⟨h, N, Z, x, rfl, hN, mt, kY, kN⟩
  walk_at "cz*"
  refine s_mkL (by simp) fun n hn => ?_
  walk_at "cz*"
  refine s_while ⟨fun kk ρ' η' => ∃ (W : List (AV × Nat)) (F : Nat) (v3 v4 v5 : Option AV), Kept η η' ∧ η' n = some (.lst (W.map wV)) ∧ (∀ p ∈ W, MT K h Z N η p.1) ∧ LInv x W F ∧ (∀ p ∈ W.dropLast, p.1 ≠ .tup []) ∧ F ≤ 200 ∧ W.length ≤ 200 ∧ sWt W = kk ∧ (∀ p ∈ W, p.2 ≤ 4) ∧
    ρ' = [some x, some (.rf n), some (.int F), v3, v4, v5], ⟨_, [(x, 0)], 0, none, none, none, Kept.put .refl hn, pt_same, fun p hp => by rw [List.mem_singleton.mp hp]; exact mt, .start x, fun p hp => by simp at hp, by omega, by simp, rfl, fun p hp => by rw [List.mem_singleton.mp hp]; omega, rfl⟩, ?_⟩
  rintro kk ρ' η' ⟨W, F, v3, v4, v5, kp, hW, mW, inv, nW, hF, lW, ekk, dW, rfl⟩
  walk_at "cz*"
  refine s_mkL (by simp) fun m hm => ?_
  have kp1 : Kept η (pt η' m (.lst [])) := kp.put (kp.none hm)
  have hW1 : (pt η' m (.lst [])) n = some (.lst (W.map wV)) := by rw [pt_ne (by rintro rfl; rw [hW] at hm; cases hm)]; exact hW
  refine s_eqNil2 hW1 pt_same ?_
  generalize pt η' m (.lst []) = η1 at kp1 hW1
  rcases List.eq_nil_or_concat W with rfl | ⟨W0, ⟨v, d⟩, rfl⟩
  · refine ⟨false, rfl, ?_⟩
    walk_at "cz*"
    have g := inv.1.mpr fun p hp => by cases hp
    have e := inv.2 g
    have e : wr 4 x = F := e
    refine .sub kp1 ?_
    rw [← e]
    exact kY g (by omega)
  rw [List.concat_eq_append] at *
  refine ⟨true, by simp, ?_⟩
  rw [if_pos rfl]
  refine ⟨_, fun ρ1 η1 h => h, ?_⟩
  walk_at "cz*"
  rw [List.map_append] at hW1
  refine s_pop0 (y := wV (v, d)) hW1 ?_
  have mv : MT K h Z N η v := mW (v, d) (by simp)
  have hd4 : d ≤ 4 := dW (v, d) (by simp)
  have kp2 : Kept η (pt η1 n (.lst (W0.map wV))) := kp1.put hn
  have hW2 : (pt η1 n (.lst (W0.map wV))) n = some (.lst (W0.map wV)) := pt_same
  generalize pt η1 n (.lst (W0.map wV)) = η2 at kp2 hW2
  have nW0 : ∀ p ∈ W0, p.1 ≠ .tup [] := fun p hp => nW p (by rw [List.dropLast_concat]; exact hp)
  rw [List.length_append] at lW
  unfold wV
  walk_at "cz*"
  refine s_isTup (mv.kept kp2) ?_
  cases it : isTup v with
  | false =>
    walk_at "cz*"
    refine .sub kp2 (kN fun q => inv.bad (fun g => ?_) q.1)
    cases e : 4 - d with
    | zero => rw [e] at g; exact g
    | succ k =>
      rw [e] at g
      obtain ⟨xs, e, _⟩ := g
      exact notTup it _ e
  | true =>
  obtain ⟨zs, rfl⟩ := tupOf it
  obtain ⟨mz, lz⟩ := mv.in
  walk_at "cz*"
  refine ite_dec (fun d4 => ?_) (fun d4 => ?_)
  · walk_at "cz*"
    refine .sub kp2 (kN fun q => inv.bad (fun g => ?_) q.1)
    have : 4 - d = 0 := by omega
    rw [this] at g
    exact g
  have d3 : d ≤ 3 := by omega
  walk_at "cz*"
  refine for_map zs id (List.map_id _).symm (fun i ρ' η' => ∃ (v5 : Option AV), Kept η η' ∧ η' n = some (.lst ((W0 ++ (rnd (zs.take i)).map fun z => (z, d + 1)).map wV)) ∧ (∀ y ∈ zs.take i, okX y) ∧ ρ' = [some x, some (.rf n), some (.int (F + mvN (zs.take i) : Nat)), some (.tup zs), some (.int d), v5]) ⟨_, kp2, by simpa [rnd] using hW2, fun y hy => by simp at hy, rfl⟩ (fun _ _ _ _ _ => trivial) ?_ ?_
  · rintro i ρ' η' y hy ⟨v5, kp, hW, al, rfl⟩
    have my := mz y (List.mem_of_getElem? hy)
    have lt := (List.getElem?_eq_some_iff.mp hy).1
    have no : ¬ okX y → ¬ (gd 4 x ∧ wr 4 x ≤ 200) := fun n q => inv.bad (fun g => by
      obtain ⟨k, ek⟩ : ∃ k, 4 - d = k + 1 := ⟨3 - d, by omega⟩
      rw [ek] at g
      exact n ((gd_tup.mp g).1 y (List.mem_of_getElem? hy))) q.1
    show agName 5 y _ _ _
    walk_at "cz*"
    refine ⟨h, N, Z, y, rfl, hN, my.kept kp, fun b hb => ?_⟩
    cases b with
    | true =>
      obtain ⟨t, us, rfl, n1, n2, ne⟩ := hb.mp rfl
      walk_at "cz*"
      refine s_append hW ?_ ?_
      · have := rnd_le (zs.take i)
        rw [List.length_map, List.length_append, List.length_map]
        have := List.length_take_le i zs
        omega
      walk_at "cz*"
      have e1 : rnd (zs.take (i + 1)) = rnd (zs.take i) ++ [.tup us] := by
        rw [take_snocB hy, rnd_app]
        rfl
      have e2 : mvN (zs.take (i + 1)) = mvN (zs.take i) := by
        rw [take_snocB hy, mvN_app]
        rfl
      refine ⟨some (.tup [.str "times", .int t, .tup us]), kp.put hn, ?_, ?_, ?_⟩
      · rw [pt_same, e1]
        simp [wV, List.map_append]
      · intro y' hy'
        rw [take_snocB hy] at hy'
        rcases List.mem_append.mp hy' with hy' | hy'
        · exact al y' hy'
        · rw [List.mem_singleton.mp hy']
          exact .inr ⟨t, us, rfl, n1, n2, ne⟩
      · rw [e2]
    | false =>
      walk_at "cz*"
      refine ⟨h, N, Z, y, rfl, hN, my.kept kp, fun b hb' => ?_⟩
      cases b with
      | true =>
        obtain ⟨m, rfl, om⟩ := hb'.mp rfl
        walk_at "cz*"
        have e1 : rnd (zs.take (i + 1)) = rnd (zs.take i) := by
          rw [take_snocB hy, rnd_app]
          exact List.append_nil _
        have e2 : mvN (zs.take (i + 1)) = mvN (zs.take i) + 1 := by
          rw [take_snocB hy, mvN_app]
          rfl
        refine ⟨some (mV m), kp, by rw [e1]; exact hW, ?_, ?_⟩
        · intro y' hy'
          rw [take_snocB hy] at hy'
          rcases List.mem_append.mp hy' with hy' | hy'
          · exact al y' hy'
          · rw [List.mem_singleton.mp hy']
            exact .inl ⟨m, rfl, om⟩
        · rw [e2]
          rfl
      | false =>
        walk_at "cz*"
        refine .sub kp (kN (no fun q => ?_))
        rcases q with q | q
        · exact absurd (hb'.mpr q) (by decide)
        · exact absurd (hb.mpr q) (by decide)
  · rintro ρ' η' ⟨v5, kp, hW, al, rfl⟩
    rw [List.take_length] at *
    obtain ⟨inv2, less⟩ := inv.step d3 al
    have ne2 : ∀ p ∈ W0 ++ (rnd zs).map fun z => (z, d + 1), p.1 ≠ .tup [] := by
      intro p hp
      rcases List.mem_append.mp hp with hp | hp
      · exact nW0 p hp
      · obtain ⟨z, hz, rfl⟩ := List.mem_map.mp hp
        obtain ⟨y, hy, e⟩ := List.mem_filterMap.mp hz
        rcases al y hy with b | ⟨t, us, rfl, _, _, ne⟩
        · rw [isB_in b] at e; cases e
        · cases e
          exact fun q => ne (AV.tup.inj q)
    have mW2 : ∀ p ∈ W0 ++ (rnd zs).map fun z => (z, d + 1), MT K h Z N η p.1 := by
      intro p hp
      rcases List.mem_append.mp hp with hp | hp
      · exact mW p (List.mem_append_left _ hp)
      · obtain ⟨z, hz, rfl⟩ := List.mem_map.mp hp
        obtain ⟨y, hy, e⟩ := List.mem_filterMap.mp hz
        have my := mz y hy
        rcases al y hy with b | ⟨t, us, rfl, _, _, ne⟩
        · rw [isB_in b] at e; cases e
        · cases e
          exact my.in.1 _ (by simp)
    have long := inv2.long ne2
    rw [ekk] at less
    generalize hgW : W0 ++ (rnd zs).map (fun z => (z, d + 1)) = W at *
    walk_at "cz*"
    refine ite_dec (fun f2 => ?_) (fun f2 => ?_)
    · walk_at "cz*"
      refine .sub kp (kN fun q => ?_)
      have := long q.1
      omega
    walk_at "cz*"
    refine ite_dec (fun f3 => ?_) (fun f3 => ?_)
    · walk_at "cz*"
      refine .sub kp (kN fun q => ?_)
      have := long q.1
      rw [List.length_map] at f3
      omega
    walk_at "cz*"
    rw [List.length_map] at f3
    refine ⟨_, less, W, _, _, _, _, kp, hW, mW2, inv2, fun p hp => ne2 p (List.dropLast_subset _ hp), by omega, by omega, rfl, ?_, rfl⟩
    intro p hp
    rw [← hgW] at hp
    rcases List.mem_append.mp hp with hp | hp
    · exact dW p (List.mem_append_left _ hp)
    · obtain ⟨z, hz, rfl⟩ := List.mem_map.mp hp
      show d + 1 ≤ 4
      omega
end
end Law

namespace Law
open PySem L2 MyB MyR MyD MyC Ab
local macro_rules | `(tactic| walk_at "kp") => `(tactic| first | exact Kept.refl | (refine' Kept.put ?kpa ?kpb; (case kpb => (walk_at "nn")); (case kpa => (walk_at "kp"))) | (refine' Kept.back ?kpa ?kpb; (case kpb => assumption); (case kpa => (walk_at "kp"))))
local macro_rules | `(tactic| walk_at "nn") => `(tactic| first | assumption | (refine' Kept.none ?nna ?nnb; (case nnb => assumption); (case nna => (walk_at "kp"))))
local macro_rules | `(tactic| walk_at "en") => `(tactic| first | assumption | exact pt_same | ((repeat rw [pt_ne (by assumption)]); first | assumption | exact pt_same))
local macro_rules | `(tactic| walk_at "lo") => `(tactic| first | assumption | exact lo_rf (by walk_at "en") | exact Or.inr rfl)
local macro_rules | `(tactic| walk_at "nu") => `(tactic| with_unfolding_all (first | assumption | decide | exact ⟨by decide, by decide⟩ | exact .inr ⟨by decide, by decide⟩ | exact ⟨by decide, by decide, by decide⟩ | exact ⟨by omega, by omega⟩ | exact .inl ⟨by omega, by omega⟩ | exact .inr ⟨by omega, by omega⟩))
local macro_rules | `(tactic| walk_at "ad") => `(tactic| with_reducible (first
  | refine s_seq ?_ | refine s_asg ?_ | refine s_tryAs ?_ | refine s_tryOnly ?_ | refine s_raise ?_ | refine s_raise1 ?_ | refine s_callX ?_ | refine s_xf ?_ | refine s_op ?_ | refine s_un ?_
  | (refine' s_var ?rdh ?_; (case rdh => (with_unfolding_all rfl)))
  | refine s_c ?_ | refine s_add ?_ | refine s_II ?_ | refine s_IB ?_ | refine s_lt ?_ | refine s_U ?_ | refine s_eqI ?_ | refine s_neI ?_ | refine s_eqB ?_ | refine s_neB ?_ | refine s_eqX ?_ | refine s_neX ?_
  | refine s_isNn ?_ | refine s_isNi ?_ | refine s_isNt ?_ | refine s_isNr ?_ | refine s_isNb ?_ | refine s_ntNn ?_ | refine s_ntNi ?_ | refine s_ntNt ?_ | refine s_ntNr ?_
  | refine s_test ?_ | refine s_not ?_ | refine s_and ?_ | refine s_or ?_ | refine s_yes ?_ | refine s_bl ?_
  | refine s_andV ?_ | refine s_orV ?_ | refine s_notV ?_ | refine s_chain ?_ | refine s_if ?_ | refine s_next ?_ | refine s_brk ?_ | refine s_cnt ?_ | refine s_ifS ?_
  | refine s_ret ?_ | refine s_retN ?_ | refine s_drop ?_ | refine s_name ?_ | refine s_sub ?_ | refine s_gCons ?_ | refine s_gNil ?_
  | refine s_cons ?_ | refine s_nil ?_ | refine s_cb ?_ | refine s_call ?_ | refine s_tup ?_ | refine s_lst ?_
  | refine s_mkT2 ?_ | refine s_mkT3 ?_ | refine s_mkT1 ?_ | refine s_mkT0 ?_ | refine s_mkT4 ?_ | refine s_mkT5 ?_
  | refine s_par ?_ | refine s_par3 ?_ | refine s_par2 ?_ | refine s_par33 ?_ | refine s_iRng1 ?_ | refine s_iRng2 ?_ | refine s_for ?_ | refine s_iList ?_ | refine s_iTup ?_ | refine s_theTup ?_ | refine s_lc ?_ | refine s_bm ?_
  | refine s_sl ?_ | refine s_noPart ?_ | refine s_part ?_ | refine s_abs ?_ | refine s_int ?_ | refine s_intB ?_ | refine s_max ?_ | refine s_min ?_ | refine s_max3 ?_ | refine s_theInt ?_ | refine s_lenT ?_ | refine s_tupT ?_ | refine s_slT3 ?_ | refine s_slT ?_ | refine s_dget ?_ | refine s_dget2 ?_ | refine s_din ?_ | refine s_iZip ?_ | refine s_iEnum ?_ | refine s_iEnumT ?_ | refine s_sortIt ?_ | refine s_zipT ?_ | refine s_sumM ?_ | refine s_anyM ?_ | refine s_allM ?_ | refine s_dc ?_ | refine s_iKeys ?_ | refine s_listT' ?_
  | refine s_sumT ?_
  | (refine' s_gTup ?rdi ?_; (case rdi => (with_unfolding_all rfl)))
  | (refine' s_gLst ?rdh ?rdi ?_; (case rdh => (with_unfolding_all (walk_at "lo"))); (case rdi => (with_unfolding_all rfl)))
  | (refine' s_ixT ?rdi ?_; (case rdi => (with_unfolding_all rfl)))
  | (refine' s_ixL ?rdh ?rdi ?_; (case rdh => (with_unfolding_all (walk_at "lo"))); (case rdi => (with_unfolding_all rfl)))
  | (refine' s_setL ?rdh ?rdi ?_; (case rdh => (with_unfolding_all (walk_at "en"))); (case rdi => (with_unfolding_all rfl)))
  | (refine' s_lenL ?rdh ?_; (case rdh => (with_unfolding_all (walk_at "lo"))))
  | (refine' s_all ?rdh ?_; (case rdh => (with_unfolding_all (walk_at "lo"))))
  | (refine' s_any ?rdh ?_; (case rdh => (with_unfolding_all (walk_at "lo"))))
  | (refine' s_sum ?rdh ?_; (case rdh => (with_unfolding_all (walk_at "lo"))))
  | (refine' s_listL' ?rdh ?_; (case rdh => (with_unfolding_all (walk_at "lo"))))
  | (refine' s_tupL ?rdh ?_; (case rdh => (with_unfolding_all (walk_at "lo"))))
  | (refine' And.intro (s_isL ?rdh) ?_; (case rdh => (with_unfolding_all (walk_at "en"))))
  | (refine' s_IC ?rdh ?_; (case rdh => (walk_at "nu")))
  | (refine' s_mul ?rdh ?_; (case rdh => (walk_at "nu")))
  | (refine' s_div ?rdh ?_; (case rdh => (walk_at "nu")))
  | (refine' s_floors ?rdh ?_; (case rdh => assumption)) | (refine' s_room ?rdh ?_; (case rdh => assumption))
  | (refine' s_house ?rdh ?_; (case rdh => assumption)) | (refine' s_lift ?rdh ?_; (case rdh => assumption)) | (refine' s_grps ?rdh ?_; (case rdh => assumption))
  | refine s_eqG ?_ | refine s_neG ?_ | refine s_eqN ?_ | refine s_neN ?_
  | (refine' s_aug ?rdh ?_; (case rdh => (with_unfolding_all rfl)))))
local macro_rules | `(tactic| walk_at "ad*") => `(tactic| (repeat (walk_at "ad")))

local macro_rules | `(tactic| walk_at "az") => `(tactic| first | walk_at "ad" | with_reducible (first | refine iteF ?_ | refine iteT ?_ | refine ite_nT ?_ | refine ite_nF ?_ | (refine' s_rngJ ?rdh ?_; (case rdh => omega)) | (refine' s_rngJ2 ?rdh ?_; (case rdh => omega)) | refine s_isT ?_ | refine s_notT ?_ | refine s_isF ?_ | refine s_notF ?_ | refine s_isi_non_int ?_ | refine s_isi_non_bool ?_ | refine s_isi_non_tuple ?_ | refine s_isi_non_list ?_ | refine s_isi_non_str ?_ | refine s_isi_bl_int ?_ | refine s_isi_bl_bool ?_ | refine s_isi_bl_tuple ?_ | refine s_isi_bl_list ?_ | refine s_isi_bl_str ?_ | refine s_isi_int_int ?_ | refine s_isi_int_bool ?_ | refine s_isi_int_tuple ?_ | refine s_isi_int_list ?_ | refine s_isi_int_str ?_ | refine s_isi_str_int ?_ | refine s_isi_str_bool ?_ | refine s_isi_str_tuple ?_ | refine s_isi_str_list ?_ | refine s_isi_str_str ?_ | refine s_isi_tup_int ?_ | refine s_isi_tup_bool ?_ | refine s_isi_tup_tuple ?_ | refine s_isi_tup_list ?_ | refine s_isi_tup_str ?_))
local macro_rules | `(tactic| walk_at "az*") => `(tactic| (repeat (walk_at "az")))
local macro_rules | `(tactic| walk_at "cl") => `(tactic| ((repeat refine Exists.intro _ ?_); refine And.intro rfl ?_; (repeat (refine And.intro (by first | assumption | omega | exact lo_rf (by assumption)) ?_))))

local macro_rules | `(tactic| walk_at "bz") => `(tactic| first | (with_reducible (refine' s_nameE ?rde ?_; (case rde => ((try simp only [List.set_cons_succ, List.set_cons_zero]); exact rfl)))) | (with_reducible (refine' s_par2E ?rde ?_; (case rde => ((try simp only [List.set_cons_succ, List.set_cons_zero]); exact rfl)))) | walk_at "az")
local macro_rules | `(tactic| walk_at "bz*") => `(tactic| (repeat (walk_at "bz")))

local macro_rules | `(tactic| walk_at "cz") => `(tactic| first | with_reducible (first | refine s_fldS ?_ | refine s_makeN ?_ | refine s_callN ?_ | refine s_stepL ?_ | refine s_revT ?_ | refine s_methN ?_ | refine s_methX ?_ | refine s_bm0 ?_ | refine s_listIt ?_) | walk_at "bz")
local macro_rules | `(tactic| walk_at "cz*") => `(tactic| (repeat (walk_at "cz")))

/-! ### a log's length, its moves written out -/
theorem gdI_tup {k : Nat} {y : AV} (g : gdI k y) : ∃ xs, y = .tup xs ∧ (xs.length = 3 ↔ inR y ≠ none) := by
  rcases g with ⟨m, rfl, om⟩ | ⟨n, zs, rfl, n1, n2, ne, g⟩
  · exact ⟨_, rfl, by simp [inR, mV]⟩
  · exact ⟨_, rfl, by simp [inR]⟩
section
variable {P : Program} {w : World} {K : PySem.W.Frag} {mg : Str → Option Value} {base : Heap} {CH CS CR C : Addr}
def spYBuilt (K : PySem.W.Frag) (EL : Addr) : ASpX := fun zs η Q AE => ∃ (h N : Nat) (Z : Int) (x : AV), zs = [x] ∧ N ≤ 1000000 ∧ MT K h Z N η x ∧ (gd 4 x ∧ wr 4 x ≤ 200 → Q x η) ∧ (¬ (gd 4 x ∧ wr 4 x ≤ 200) → AE (EL, []) η)
theorem Y_check_built (B : Bi mg) {E_BadLog : Addr} (T_BadLog : ErrC K E_BadLog) (g_BadLog : mg "BadLog" = some (.ref E_BadLog)) (R_check_built : Raw K mg "check_built" s_check_built) (D_written_in : XDef P w K mg base 5 "written_in" ["thing"] (spZWritten K)) :
    XDefX P w K mg base 6 "check_built" ["log"] (spYBuilt K E_BadLog) := by
  refine XDefX.of R_check_built (N := N_check_built) (ps := ["log"]) sc_check_built (fun _ _ _ _ _ _ us hl => match us, hl with | [_], _ => rfl) ?_ fun f cdv A outer s H E hr tk po => ⟨_, fun AW => (xss_cons (xs_if (xt_cmpR xo_isN (xe_callD rfl D_written_in (hr.mono (by decide)) rfl (xa_cons (xv 0) xa_nil)) xe_non (nomark _))
    (xss_one (xs_raise0 rfl rfl tk T_BadLog g_BadLog rfl))
    xss_nil)
  (xss_one (xs_ret (xv 0)))), ?_⟩
  · rintro zs η Q AE ⟨h, N, Z, x, rfl, _⟩
    rfl
  rintro zs η Q AE ⟨h, N, Z, x, rfl, hN, mt, kY, kN⟩
  walk_at "cz*"
  refine ⟨h, N, Z, x, rfl, hN, mt, fun g w => ?_, fun n => ?_⟩
  · walk_at "cz*"
    exact .same (kY ⟨g, w⟩)
  · walk_at "cz*"
    exact .same (kN n)
def spZCnt (k : Nat) : ASp := fun xs η Q => ∃ x, xs = [x] ∧ gd k x ∧ wr k x ≤ 200 ∧ Q (.int (cnt k x)) η
theorem D_count_of0 (R_count_of : Raw K mg "count_of" s_count_of) : XDef P w K mg base 1 "count_of" ["log"] (spZCnt 0) := by
  obtain ⟨f, fd, F, m⟩ := R_count_of
  exact ⟨f, fd, ⟨fun vs H Q E h => by obtain ⟨_, _, _, _, _, _, ⟨_, _, z, _⟩, _⟩ := h; exact z.elim, fun A outer s H args us vs Q E hr he hb hv h => by obtain ⟨_, _, _, _, _, _, ⟨_, _, z, _⟩, _⟩ := h; exact z.elim⟩, m, F.kp, F.binds fun _ _ _ _ _ _ us hl => match us, hl with | [_], _ => rfl⟩
theorem D_count_of1 (B : Bi mg) (R_count_of : Raw K mg "count_of" s_count_of) (D_count_of : XDef P w K mg base 1 "count_of" ["log"] (spZCnt 0)) : XDef P w K mg base 2 "count_of" ["log"] (spZCnt 1) := by
  refine XDef.of R_count_of (N := N_count_of) (ps := ["log"]) sc_count_of (fun _ _ _ _ _ _ us hl => match us, hl with | [_], _ => rfl) ?_ fun f cdv A outer s H E hr => ⟨_, (xss_cons (xs_set (i := 1) sc_count_of.nd rfl (Or.inl rfl) xe_int)
  (xss_cons (xs_for PassesOwn.never rfl (xi_tup rfl (xv 0)) (xg_name (i := 2) sc_count_of.nd rfl (Or.inl rfl))
    (xss_one (xs_aug (i := 1) sc_count_of.nd rfl (Or.inl rfl) (xe_ifExp (xt_cmpR (xu_eq rfl hr.units) (xe_callB (xc_len rfl) (by rfl) B.len (by decide +kernel) (xa_cons (xv 2) xa_nil)) xe_int (nomark _)) (xe_op (xu_mul rfl) (xe_ix (xu_ix rfl) (xv 2) xe_int (fun _ _ => rfl)) (xe_callD rfl D_count_of (hr.mono (by decide)) rfl (xa_cons (xe_ix (xu_ix rfl) (xv 2) xe_int (fun _ _ => rfl)) xa_nil))) xe_int) ip_add)))
  (xss_one (xs_ret (xv 1))))), ?_⟩
  · rintro xs η Q ⟨x, rfl, _⟩
    rfl
  rintro xs η Q ⟨x, rfl, g, hw, k⟩
  obtain ⟨xs, rfl, al⟩ := id g
  have al : ∀ y ∈ xs, gdI 0 y := al
  walk_at "cz*"
  refine for_map xs id (List.map_id _).symm (fun i ρ' η' => η' = η ∧ ∃ v : Option AV, ρ' = [some (.tup xs), some (.int ((xs.take i).map (cntI 0)).sum), v]) ⟨rfl, none, by simp; rfl⟩ (fun _ _ _ _ _ => trivial) ?_ ?_
  · rintro i ρ' η' y hy ⟨rfl, v, rfl⟩
    have my := List.mem_of_getElem? hy
    show agName 2 y _ _ _
    walk_at "cz*"
    rw [sum_snoc hy]
    rcases al y my with ⟨m, rfl, om⟩ | ⟨n, zs, rfl, n1, n2, ne, g⟩
    · walk_at "cz*"
      refine ite_no rfl ?_
      walk_at "cz*"
      exact ⟨rfl, _, rfl⟩
    · have hwz : wr 0 (.tup zs) ≤ 200 := Nat.le_trans (wrI_le (k := 0) my) hw
      walk_at "cz*"
      refine ite_yes rfl ?_
      walk_at "cz*"
      refine ⟨_, rfl, g, hwz, ?_⟩
      walk_at "cz*"
      refine s_mulW (cnt_log (by decide) g hwz n1 n2) ?_
      walk_at "cz*"
      exact ⟨rfl, _, rfl⟩
  · rintro ρ' η' ⟨rfl, v, rfl⟩
    rw [List.take_length] at *
    walk_at "cz*"
    exact .same k
theorem D_count_of2 (B : Bi mg) (R_count_of : Raw K mg "count_of" s_count_of) (D_count_of : XDef P w K mg base 2 "count_of" ["log"] (spZCnt 1)) : XDef P w K mg base 3 "count_of" ["log"] (spZCnt 2) := by
  refine XDef.of R_count_of (N := N_count_of) (ps := ["log"]) sc_count_of (fun _ _ _ _ _ _ us hl => match us, hl with | [_], _ => rfl) ?_ fun f cdv A outer s H E hr => ⟨_, (xss_cons (xs_set (i := 1) sc_count_of.nd rfl (Or.inl rfl) xe_int)
  (xss_cons (xs_for PassesOwn.never rfl (xi_tup rfl (xv 0)) (xg_name (i := 2) sc_count_of.nd rfl (Or.inl rfl))
    (xss_one (xs_aug (i := 1) sc_count_of.nd rfl (Or.inl rfl) (xe_ifExp (xt_cmpR (xu_eq rfl hr.units) (xe_callB (xc_len rfl) (by rfl) B.len (by decide +kernel) (xa_cons (xv 2) xa_nil)) xe_int (nomark _)) (xe_op (xu_mul rfl) (xe_ix (xu_ix rfl) (xv 2) xe_int (fun _ _ => rfl)) (xe_callD rfl D_count_of (hr.mono (by decide)) rfl (xa_cons (xe_ix (xu_ix rfl) (xv 2) xe_int (fun _ _ => rfl)) xa_nil))) xe_int) ip_add)))
  (xss_one (xs_ret (xv 1))))), ?_⟩
  · rintro xs η Q ⟨x, rfl, _⟩
    rfl
  rintro xs η Q ⟨x, rfl, g, hw, k⟩
  obtain ⟨xs, rfl, al⟩ := id g
  have al : ∀ y ∈ xs, gdI 1 y := al
  walk_at "cz*"
  refine for_map xs id (List.map_id _).symm (fun i ρ' η' => η' = η ∧ ∃ v : Option AV, ρ' = [some (.tup xs), some (.int ((xs.take i).map (cntI 1)).sum), v]) ⟨rfl, none, by simp; rfl⟩ (fun _ _ _ _ _ => trivial) ?_ ?_
  · rintro i ρ' η' y hy ⟨rfl, v, rfl⟩
    have my := List.mem_of_getElem? hy
    show agName 2 y _ _ _
    walk_at "cz*"
    rw [sum_snoc hy]
    rcases al y my with ⟨m, rfl, om⟩ | ⟨n, zs, rfl, n1, n2, ne, g⟩
    · walk_at "cz*"
      refine ite_no rfl ?_
      walk_at "cz*"
      exact ⟨rfl, _, rfl⟩
    · have hwz : wr 1 (.tup zs) ≤ 200 := Nat.le_trans (wrI_le (k := 1) my) hw
      walk_at "cz*"
      refine ite_yes rfl ?_
      walk_at "cz*"
      refine ⟨_, rfl, g, hwz, ?_⟩
      walk_at "cz*"
      refine s_mulW (cnt_log (by decide) g hwz n1 n2) ?_
      walk_at "cz*"
      exact ⟨rfl, _, rfl⟩
  · rintro ρ' η' ⟨rfl, v, rfl⟩
    rw [List.take_length] at *
    walk_at "cz*"
    exact .same k
theorem D_count_of3 (B : Bi mg) (R_count_of : Raw K mg "count_of" s_count_of) (D_count_of : XDef P w K mg base 3 "count_of" ["log"] (spZCnt 2)) : XDef P w K mg base 4 "count_of" ["log"] (spZCnt 3) := by
  refine XDef.of R_count_of (N := N_count_of) (ps := ["log"]) sc_count_of (fun _ _ _ _ _ _ us hl => match us, hl with | [_], _ => rfl) ?_ fun f cdv A outer s H E hr => ⟨_, (xss_cons (xs_set (i := 1) sc_count_of.nd rfl (Or.inl rfl) xe_int)
  (xss_cons (xs_for PassesOwn.never rfl (xi_tup rfl (xv 0)) (xg_name (i := 2) sc_count_of.nd rfl (Or.inl rfl))
    (xss_one (xs_aug (i := 1) sc_count_of.nd rfl (Or.inl rfl) (xe_ifExp (xt_cmpR (xu_eq rfl hr.units) (xe_callB (xc_len rfl) (by rfl) B.len (by decide +kernel) (xa_cons (xv 2) xa_nil)) xe_int (nomark _)) (xe_op (xu_mul rfl) (xe_ix (xu_ix rfl) (xv 2) xe_int (fun _ _ => rfl)) (xe_callD rfl D_count_of (hr.mono (by decide)) rfl (xa_cons (xe_ix (xu_ix rfl) (xv 2) xe_int (fun _ _ => rfl)) xa_nil))) xe_int) ip_add)))
  (xss_one (xs_ret (xv 1))))), ?_⟩
  · rintro xs η Q ⟨x, rfl, _⟩
    rfl
  rintro xs η Q ⟨x, rfl, g, hw, k⟩
  obtain ⟨xs, rfl, al⟩ := id g
  have al : ∀ y ∈ xs, gdI 2 y := al
  walk_at "cz*"
  refine for_map xs id (List.map_id _).symm (fun i ρ' η' => η' = η ∧ ∃ v : Option AV, ρ' = [some (.tup xs), some (.int ((xs.take i).map (cntI 2)).sum), v]) ⟨rfl, none, by simp; rfl⟩ (fun _ _ _ _ _ => trivial) ?_ ?_
  · rintro i ρ' η' y hy ⟨rfl, v, rfl⟩
    have my := List.mem_of_getElem? hy
    show agName 2 y _ _ _
    walk_at "cz*"
    rw [sum_snoc hy]
    rcases al y my with ⟨m, rfl, om⟩ | ⟨n, zs, rfl, n1, n2, ne, g⟩
    · walk_at "cz*"
      refine ite_no rfl ?_
      walk_at "cz*"
      exact ⟨rfl, _, rfl⟩
    · have hwz : wr 2 (.tup zs) ≤ 200 := Nat.le_trans (wrI_le (k := 2) my) hw
      walk_at "cz*"
      refine ite_yes rfl ?_
      walk_at "cz*"
      refine ⟨_, rfl, g, hwz, ?_⟩
      walk_at "cz*"
      refine s_mulW (cnt_log (by decide) g hwz n1 n2) ?_
      walk_at "cz*"
      exact ⟨rfl, _, rfl⟩
  · rintro ρ' η' ⟨rfl, v, rfl⟩
    rw [List.take_length] at *
    walk_at "cz*"
    exact .same k
theorem D_count_of4 (B : Bi mg) (R_count_of : Raw K mg "count_of" s_count_of) (D_count_of : XDef P w K mg base 4 "count_of" ["log"] (spZCnt 3)) : XDef P w K mg base 5 "count_of" ["log"] (spZCnt 4) := by
  refine XDef.of R_count_of (N := N_count_of) (ps := ["log"]) sc_count_of (fun _ _ _ _ _ _ us hl => match us, hl with | [_], _ => rfl) ?_ fun f cdv A outer s H E hr => ⟨_, (xss_cons (xs_set (i := 1) sc_count_of.nd rfl (Or.inl rfl) xe_int)
  (xss_cons (xs_for PassesOwn.never rfl (xi_tup rfl (xv 0)) (xg_name (i := 2) sc_count_of.nd rfl (Or.inl rfl))
    (xss_one (xs_aug (i := 1) sc_count_of.nd rfl (Or.inl rfl) (xe_ifExp (xt_cmpR (xu_eq rfl hr.units) (xe_callB (xc_len rfl) (by rfl) B.len (by decide +kernel) (xa_cons (xv 2) xa_nil)) xe_int (nomark _)) (xe_op (xu_mul rfl) (xe_ix (xu_ix rfl) (xv 2) xe_int (fun _ _ => rfl)) (xe_callD rfl D_count_of (hr.mono (by decide)) rfl (xa_cons (xe_ix (xu_ix rfl) (xv 2) xe_int (fun _ _ => rfl)) xa_nil))) xe_int) ip_add)))
  (xss_one (xs_ret (xv 1))))), ?_⟩
  · rintro xs η Q ⟨x, rfl, _⟩
    rfl
  rintro xs η Q ⟨x, rfl, g, hw, k⟩
  obtain ⟨xs, rfl, al⟩ := id g
  have al : ∀ y ∈ xs, gdI 3 y := al
  walk_at "cz*"
  refine for_map xs id (List.map_id _).symm (fun i ρ' η' => η' = η ∧ ∃ v : Option AV, ρ' = [some (.tup xs), some (.int ((xs.take i).map (cntI 3)).sum), v]) ⟨rfl, none, by simp; rfl⟩ (fun _ _ _ _ _ => trivial) ?_ ?_
  · rintro i ρ' η' y hy ⟨rfl, v, rfl⟩
    have my := List.mem_of_getElem? hy
    show agName 2 y _ _ _
    walk_at "cz*"
    rw [sum_snoc hy]
    rcases al y my with ⟨m, rfl, om⟩ | ⟨n, zs, rfl, n1, n2, ne, g⟩
    · walk_at "cz*"
      refine ite_no rfl ?_
      walk_at "cz*"
      exact ⟨rfl, _, rfl⟩
    · have hwz : wr 3 (.tup zs) ≤ 200 := Nat.le_trans (wrI_le (k := 3) my) hw
      walk_at "cz*"
      refine ite_yes rfl ?_
      walk_at "cz*"
      refine ⟨_, rfl, g, hwz, ?_⟩
      walk_at "cz*"
      refine s_mulW (cnt_log (by decide) g hwz n1 n2) ?_
      walk_at "cz*"
      exact ⟨rfl, _, rfl⟩
  · rintro ρ' η' ⟨rfl, v, rfl⟩
    rw [List.take_length] at *
    walk_at "cz*"
    exact .same k
def spYLen (K : PySem.W.Frag) (EL : Addr) : ASpX := fun zs η Q AE => ∃ (h N : Nat) (Z : Int) (x : AV), zs = [x] ∧ N ≤ 1000000 ∧ MT K h Z N η x ∧ (gd 4 x ∧ wr 4 x ≤ 200 → Q (.int (cnt 4 x)) η) ∧ (¬ (gd 4 x ∧ wr 4 x ≤ 200) → AE (EL, []) η)
theorem Y_length_of (B : Bi mg) {E_BadLog : Addr} (R_length_of : Raw K mg "length_of" s_length_of) (D_check_built : XDefX P w K mg base 6 "check_built" ["log"] (spYBuilt K E_BadLog)) (D_count_of : XDef P w K mg base 5 "count_of" ["log"] (spZCnt 4)) :
    XDefX P w K mg base 7 "length_of" ["log"] (spYLen K E_BadLog) := by
  refine XDefX.of R_length_of (N := N_length_of) (ps := ["log"]) sc_length_of (fun _ _ _ _ _ _ us hl => match us, hl with | [_], _ => rfl) ?_ fun f cdv A outer s H E hr tk po => ⟨_, fun AW => (xss_one (xs_ret (xe_callD rfl D_count_of (hr.mono (by decide)) rfl (xa_cons (xe_callX rfl tk D_check_built (hr.mono (by decide)) rfl (xa_cons (xv 0) xa_nil)) xa_nil)))), ?_⟩
  · rintro zs η Q AE ⟨h, N, Z, x, rfl, _⟩
    rfl
  rintro zs η Q AE ⟨h, N, Z, x, rfl, hN, mt, kY, kN⟩
  walk_at "cz*"
  refine ⟨h, N, Z, x, rfl, hN, mt, fun g => ?_, fun n => ?_⟩
  · refine ⟨x, rfl, g.1, g.2, ?_⟩
    exact .same (kY g)
  · exact .same (kN n)
def spZOut (k : Nat) : ASp := fun xs η Q => ∃ x, xs = [x] ∧ gd k x ∧ cnt k x ≤ 5000 ∧ Q (.tup (outL k x)) η
theorem D_out_of0 (R_out_of : Raw K mg "out_of" s_out_of) : XDef P w K mg base 1 "out_of" ["log"] (spZOut 0) := by
  obtain ⟨f, fd, F, m⟩ := R_out_of
  exact ⟨f, fd, ⟨fun vs H Q E h => by obtain ⟨_, _, _, _, _, _, ⟨_, _, z, _⟩, _⟩ := h; exact z.elim, fun A outer s H args us vs Q E hr he hb hv h => by obtain ⟨_, _, _, _, _, _, ⟨_, _, z, _⟩, _⟩ := h; exact z.elim⟩, m, F.kp, F.binds fun _ _ _ _ _ _ us hl => match us, hl with | [_], _ => rfl⟩
theorem D_out_of1 (B : Bi mg) (R_out_of : Raw K mg "out_of" s_out_of) (D_out_of : XDef P w K mg base 1 "out_of" ["log"] (spZOut 0)) : XDef P w K mg base 2 "out_of" ["log"] (spZOut 1) := by
  refine XDef.of R_out_of (N := N_out_of) (ps := ["log"]) sc_out_of (fun _ _ _ _ _ _ us hl => match us, hl with | [_], _ => rfl) ?_ fun f cdv A outer s H E hr => ⟨_, (xss_cons (xs_set (i := 1) sc_out_of.nd rfl (Or.inl rfl) (xe_tup xa_nil))
  (xss_cons (xs_for PassesOwn.never rfl (xi_tup rfl (xv 0)) (xg_name (i := 2) sc_out_of.nd rfl (Or.inl rfl))
    (xss_one (xs_set (i := 1) sc_out_of.nd rfl (Or.inl rfl) (xe_op (xu_add rfl) (xv 1) (xe_ifExp (xt_cmpR (xu_eq rfl hr.units) (xe_callB (xc_len rfl) (by rfl) B.len (by decide +kernel) (xa_cons (xv 2) xa_nil)) xe_int (nomark _)) (xe_op (xo_repU rfl) (xe_callD rfl D_out_of (hr.mono (by decide)) rfl (xa_cons (xe_ix (xu_ix rfl) (xv 2) xe_int (fun _ _ => rfl)) xa_nil)) (xe_ix (xu_ix rfl) (xv 2) xe_int (fun _ _ => rfl))) (xe_tup (xa_cons (xv 2) xa_nil)))))))
  (xss_one (xs_ret (xv 1))))), ?_⟩
  · rintro xs η Q ⟨x, rfl, _⟩
    rfl
  rintro xs η Q ⟨x, rfl, g, hw, k⟩
  obtain ⟨xs, rfl, al⟩ := id g
  have al : ∀ y ∈ xs, gdI 0 y := al
  have hw : (xs.map (cntI 0)).sum ≤ 5000 := hw
  have pos : ∀ y ∈ xs, 1 ≤ cntI 0 y := fun y hy => cntI_pos (al y hy)
  walk_at "cz*"
  refine for_map xs id (List.map_id _).symm (fun i ρ' η' => η' = η ∧ ((((xs.take i).map (outI 0)).flatten.length : Nat) : Int) = ((xs.take i).map (cntI 0)).sum ∧ ∃ v : Option AV, ρ' = [some (.tup xs), some (.tup ((xs.take i).map (outI 0)).flatten), v]) ⟨rfl, by simp, none, by simp; rfl⟩ (fun _ _ _ _ _ => trivial) ?_ ?_
  · rintro i ρ' η' y hy ⟨rfl, el, v, rfl⟩
    have my := List.mem_of_getElem? hy
    have le := sum_one pos hy
    have nn := sum_nn (f := cntI 0) (zs := xs.take i) fun z hz => pos z (List.mem_of_mem_take hz)
    show agName 2 y _ _ _
    walk_at "cz*"
    rw [flat_snoc hy, sum_snoc hy]
    rcases al y my with ⟨m, rfl, om⟩ | ⟨n, zs, rfl, n1, n2, ne, g⟩
    · walk_at "cz*"
      refine ite_no rfl ?_
      walk_at "cz*"
      have e1 : cntI 0 (mV m) = 1 := rfl
      refine s_catT (by rw [e1] at le; simp only [List.length_cons, List.length_nil]; omega) ?_
      walk_at "cz*"
      exact ⟨rfl, by rw [List.length_append, e1]; have e2 : (outI 0 (mV m)).length = 1 := rfl; omega, _, rfl⟩
    · obtain ⟨⟨c0, c1⟩, c2, c3⟩ := cnt_both g
      have c2 := c2 fun z => ne (AV.tup.inj z)
      have e1 : cntI 0 (.tup [.str "times", .int n, .tup zs]) = n * cnt 0 (.tup zs) := rfl
      rw [e1] at le
      have lz : cnt 0 (.tup zs) ≤ 5000 := by
        have : 1 * cnt 0 (.tup zs) ≤ n * cnt 0 (.tup zs) := Int.mul_le_mul_of_nonneg_right n1 c0
        omega
      have prod : (outL 0 (.tup zs)).length * n.toNat ≤ 5000 := by
        have : (((outL 0 (.tup zs)).length * n.toNat : Nat) : Int) ≤ 5000 := by
          rw [Int.natCast_mul, c3, Int.toNat_of_nonneg (by omega), Int.mul_comm]
          omega
        omega
      have fl : (((List.replicate n.toNat (outL 0 (.tup zs))).flatten.length : Nat) : Int) = n * cnt 0 (.tup zs) := by
        rw [List.length_flatten, List.map_replicate, List.sum_replicate_nat, Int.natCast_mul, c3, Int.toNat_of_nonneg (by omega)]
      walk_at "cz*"
      refine ite_yes rfl ?_
      walk_at "cz*"
      refine ⟨_, rfl, g, lz, ?_⟩
      walk_at "cz*"
      refine s_repU (fun z => by rw [z] at c3; simp at c3; omega) n1 (by omega) ?_
      walk_at "cz*"
      refine s_catT (by omega) ?_
      walk_at "cz*"
      exact ⟨rfl, by rw [List.length_append, e1]; have e2 : (outI 0 (.tup [.str "times", .int n, .tup zs])).length = (List.replicate n.toNat (outL 0 (.tup zs))).flatten.length := rfl; omega, _, rfl⟩
  · rintro ρ' η' ⟨rfl, el, v, rfl⟩
    rw [List.take_length] at *
    walk_at "cz*"
    exact .same k
theorem D_out_of2 (B : Bi mg) (R_out_of : Raw K mg "out_of" s_out_of) (D_out_of : XDef P w K mg base 2 "out_of" ["log"] (spZOut 1)) : XDef P w K mg base 3 "out_of" ["log"] (spZOut 2) := by
  refine XDef.of R_out_of (N := N_out_of) (ps := ["log"]) sc_out_of (fun _ _ _ _ _ _ us hl => match us, hl with | [_], _ => rfl) ?_ fun f cdv A outer s H E hr => ⟨_, (xss_cons (xs_set (i := 1) sc_out_of.nd rfl (Or.inl rfl) (xe_tup xa_nil))
  (xss_cons (xs_for PassesOwn.never rfl (xi_tup rfl (xv 0)) (xg_name (i := 2) sc_out_of.nd rfl (Or.inl rfl))
    (xss_one (xs_set (i := 1) sc_out_of.nd rfl (Or.inl rfl) (xe_op (xu_add rfl) (xv 1) (xe_ifExp (xt_cmpR (xu_eq rfl hr.units) (xe_callB (xc_len rfl) (by rfl) B.len (by decide +kernel) (xa_cons (xv 2) xa_nil)) xe_int (nomark _)) (xe_op (xo_repU rfl) (xe_callD rfl D_out_of (hr.mono (by decide)) rfl (xa_cons (xe_ix (xu_ix rfl) (xv 2) xe_int (fun _ _ => rfl)) xa_nil)) (xe_ix (xu_ix rfl) (xv 2) xe_int (fun _ _ => rfl))) (xe_tup (xa_cons (xv 2) xa_nil)))))))
  (xss_one (xs_ret (xv 1))))), ?_⟩
  · rintro xs η Q ⟨x, rfl, _⟩
    rfl
  rintro xs η Q ⟨x, rfl, g, hw, k⟩
  obtain ⟨xs, rfl, al⟩ := id g
  have al : ∀ y ∈ xs, gdI 1 y := al
  have hw : (xs.map (cntI 1)).sum ≤ 5000 := hw
  have pos : ∀ y ∈ xs, 1 ≤ cntI 1 y := fun y hy => cntI_pos (al y hy)
  walk_at "cz*"
  refine for_map xs id (List.map_id _).symm (fun i ρ' η' => η' = η ∧ ((((xs.take i).map (outI 1)).flatten.length : Nat) : Int) = ((xs.take i).map (cntI 1)).sum ∧ ∃ v : Option AV, ρ' = [some (.tup xs), some (.tup ((xs.take i).map (outI 1)).flatten), v]) ⟨rfl, by simp, none, by simp; rfl⟩ (fun _ _ _ _ _ => trivial) ?_ ?_
  · rintro i ρ' η' y hy ⟨rfl, el, v, rfl⟩
    have my := List.mem_of_getElem? hy
    have le := sum_one pos hy
    have nn := sum_nn (f := cntI 1) (zs := xs.take i) fun z hz => pos z (List.mem_of_mem_take hz)
    show agName 2 y _ _ _
    walk_at "cz*"
    rw [flat_snoc hy, sum_snoc hy]
    rcases al y my with ⟨m, rfl, om⟩ | ⟨n, zs, rfl, n1, n2, ne, g⟩
    · walk_at "cz*"
      refine ite_no rfl ?_
      walk_at "cz*"
      have e1 : cntI 1 (mV m) = 1 := rfl
      refine s_catT (by rw [e1] at le; simp only [List.length_cons, List.length_nil]; omega) ?_
      walk_at "cz*"
      exact ⟨rfl, by rw [List.length_append, e1]; have e2 : (outI 1 (mV m)).length = 1 := rfl; omega, _, rfl⟩
    · obtain ⟨⟨c0, c1⟩, c2, c3⟩ := cnt_both g
      have c2 := c2 fun z => ne (AV.tup.inj z)
      have e1 : cntI 1 (.tup [.str "times", .int n, .tup zs]) = n * cnt 1 (.tup zs) := rfl
      rw [e1] at le
      have lz : cnt 1 (.tup zs) ≤ 5000 := by
        have : 1 * cnt 1 (.tup zs) ≤ n * cnt 1 (.tup zs) := Int.mul_le_mul_of_nonneg_right n1 c0
        omega
      have prod : (outL 1 (.tup zs)).length * n.toNat ≤ 5000 := by
        have : (((outL 1 (.tup zs)).length * n.toNat : Nat) : Int) ≤ 5000 := by
          rw [Int.natCast_mul, c3, Int.toNat_of_nonneg (by omega), Int.mul_comm]
          omega
        omega
      have fl : (((List.replicate n.toNat (outL 1 (.tup zs))).flatten.length : Nat) : Int) = n * cnt 1 (.tup zs) := by
        rw [List.length_flatten, List.map_replicate, List.sum_replicate_nat, Int.natCast_mul, c3, Int.toNat_of_nonneg (by omega)]
      walk_at "cz*"
      refine ite_yes rfl ?_
      walk_at "cz*"
      refine ⟨_, rfl, g, lz, ?_⟩
      walk_at "cz*"
      refine s_repU (fun z => by rw [z] at c3; simp at c3; omega) n1 (by omega) ?_
      walk_at "cz*"
      refine s_catT (by omega) ?_
      walk_at "cz*"
      exact ⟨rfl, by rw [List.length_append, e1]; have e2 : (outI 1 (.tup [.str "times", .int n, .tup zs])).length = (List.replicate n.toNat (outL 1 (.tup zs))).flatten.length := rfl; omega, _, rfl⟩
  · rintro ρ' η' ⟨rfl, el, v, rfl⟩
    rw [List.take_length] at *
    walk_at "cz*"
    exact .same k
theorem D_out_of3 (B : Bi mg) (R_out_of : Raw K mg "out_of" s_out_of) (D_out_of : XDef P w K mg base 3 "out_of" ["log"] (spZOut 2)) : XDef P w K mg base 4 "out_of" ["log"] (spZOut 3) := by
  refine XDef.of R_out_of (N := N_out_of) (ps := ["log"]) sc_out_of (fun _ _ _ _ _ _ us hl => match us, hl with | [_], _ => rfl) ?_ fun f cdv A outer s H E hr => ⟨_, (xss_cons (xs_set (i := 1) sc_out_of.nd rfl (Or.inl rfl) (xe_tup xa_nil))
  (xss_cons (xs_for PassesOwn.never rfl (xi_tup rfl (xv 0)) (xg_name (i := 2) sc_out_of.nd rfl (Or.inl rfl))
    (xss_one (xs_set (i := 1) sc_out_of.nd rfl (Or.inl rfl) (xe_op (xu_add rfl) (xv 1) (xe_ifExp (xt_cmpR (xu_eq rfl hr.units) (xe_callB (xc_len rfl) (by rfl) B.len (by decide +kernel) (xa_cons (xv 2) xa_nil)) xe_int (nomark _)) (xe_op (xo_repU rfl) (xe_callD rfl D_out_of (hr.mono (by decide)) rfl (xa_cons (xe_ix (xu_ix rfl) (xv 2) xe_int (fun _ _ => rfl)) xa_nil)) (xe_ix (xu_ix rfl) (xv 2) xe_int (fun _ _ => rfl))) (xe_tup (xa_cons (xv 2) xa_nil)))))))
  (xss_one (xs_ret (xv 1))))), ?_⟩
  · rintro xs η Q ⟨x, rfl, _⟩
    rfl
  rintro xs η Q ⟨x, rfl, g, hw, k⟩
  obtain ⟨xs, rfl, al⟩ := id g
  have al : ∀ y ∈ xs, gdI 2 y := al
  have hw : (xs.map (cntI 2)).sum ≤ 5000 := hw
  have pos : ∀ y ∈ xs, 1 ≤ cntI 2 y := fun y hy => cntI_pos (al y hy)
  walk_at "cz*"
  refine for_map xs id (List.map_id _).symm (fun i ρ' η' => η' = η ∧ ((((xs.take i).map (outI 2)).flatten.length : Nat) : Int) = ((xs.take i).map (cntI 2)).sum ∧ ∃ v : Option AV, ρ' = [some (.tup xs), some (.tup ((xs.take i).map (outI 2)).flatten), v]) ⟨rfl, by simp, none, by simp; rfl⟩ (fun _ _ _ _ _ => trivial) ?_ ?_
  · rintro i ρ' η' y hy ⟨rfl, el, v, rfl⟩
    have my := List.mem_of_getElem? hy
    have le := sum_one pos hy
    have nn := sum_nn (f := cntI 2) (zs := xs.take i) fun z hz => pos z (List.mem_of_mem_take hz)
    show agName 2 y _ _ _
    walk_at "cz*"
    rw [flat_snoc hy, sum_snoc hy]
    rcases al y my with ⟨m, rfl, om⟩ | ⟨n, zs, rfl, n1, n2, ne, g⟩
    · walk_at "cz*"
      refine ite_no rfl ?_
      walk_at "cz*"
      have e1 : cntI 2 (mV m) = 1 := rfl
      refine s_catT (by rw [e1] at le; simp only [List.length_cons, List.length_nil]; omega) ?_
      walk_at "cz*"
      exact ⟨rfl, by rw [List.length_append, e1]; have e2 : (outI 2 (mV m)).length = 1 := rfl; omega, _, rfl⟩
    · obtain ⟨⟨c0, c1⟩, c2, c3⟩ := cnt_both g
      have c2 := c2 fun z => ne (AV.tup.inj z)
      have e1 : cntI 2 (.tup [.str "times", .int n, .tup zs]) = n * cnt 2 (.tup zs) := rfl
      rw [e1] at le
      have lz : cnt 2 (.tup zs) ≤ 5000 := by
        have : 1 * cnt 2 (.tup zs) ≤ n * cnt 2 (.tup zs) := Int.mul_le_mul_of_nonneg_right n1 c0
        omega
      have prod : (outL 2 (.tup zs)).length * n.toNat ≤ 5000 := by
        have : (((outL 2 (.tup zs)).length * n.toNat : Nat) : Int) ≤ 5000 := by
          rw [Int.natCast_mul, c3, Int.toNat_of_nonneg (by omega), Int.mul_comm]
          omega
        omega
      have fl : (((List.replicate n.toNat (outL 2 (.tup zs))).flatten.length : Nat) : Int) = n * cnt 2 (.tup zs) := by
        rw [List.length_flatten, List.map_replicate, List.sum_replicate_nat, Int.natCast_mul, c3, Int.toNat_of_nonneg (by omega)]
      walk_at "cz*"
      refine ite_yes rfl ?_
      walk_at "cz*"
      refine ⟨_, rfl, g, lz, ?_⟩
      walk_at "cz*"
      refine s_repU (fun z => by rw [z] at c3; simp at c3; omega) n1 (by omega) ?_
      walk_at "cz*"
      refine s_catT (by omega) ?_
      walk_at "cz*"
      exact ⟨rfl, by rw [List.length_append, e1]; have e2 : (outI 2 (.tup [.str "times", .int n, .tup zs])).length = (List.replicate n.toNat (outL 2 (.tup zs))).flatten.length := rfl; omega, _, rfl⟩
  · rintro ρ' η' ⟨rfl, el, v, rfl⟩
    rw [List.take_length] at *
    walk_at "cz*"
    exact .same k
theorem D_out_of4 (B : Bi mg) (R_out_of : Raw K mg "out_of" s_out_of) (D_out_of : XDef P w K mg base 4 "out_of" ["log"] (spZOut 3)) : XDef P w K mg base 5 "out_of" ["log"] (spZOut 4) := by
  refine XDef.of R_out_of (N := N_out_of) (ps := ["log"]) sc_out_of (fun _ _ _ _ _ _ us hl => match us, hl with | [_], _ => rfl) ?_ fun f cdv A outer s H E hr => ⟨_, (xss_cons (xs_set (i := 1) sc_out_of.nd rfl (Or.inl rfl) (xe_tup xa_nil))
  (xss_cons (xs_for PassesOwn.never rfl (xi_tup rfl (xv 0)) (xg_name (i := 2) sc_out_of.nd rfl (Or.inl rfl))
    (xss_one (xs_set (i := 1) sc_out_of.nd rfl (Or.inl rfl) (xe_op (xu_add rfl) (xv 1) (xe_ifExp (xt_cmpR (xu_eq rfl hr.units) (xe_callB (xc_len rfl) (by rfl) B.len (by decide +kernel) (xa_cons (xv 2) xa_nil)) xe_int (nomark _)) (xe_op (xo_repU rfl) (xe_callD rfl D_out_of (hr.mono (by decide)) rfl (xa_cons (xe_ix (xu_ix rfl) (xv 2) xe_int (fun _ _ => rfl)) xa_nil)) (xe_ix (xu_ix rfl) (xv 2) xe_int (fun _ _ => rfl))) (xe_tup (xa_cons (xv 2) xa_nil)))))))
  (xss_one (xs_ret (xv 1))))), ?_⟩
  · rintro xs η Q ⟨x, rfl, _⟩
    rfl
  rintro xs η Q ⟨x, rfl, g, hw, k⟩
  obtain ⟨xs, rfl, al⟩ := id g
  have al : ∀ y ∈ xs, gdI 3 y := al
  have hw : (xs.map (cntI 3)).sum ≤ 5000 := hw
  have pos : ∀ y ∈ xs, 1 ≤ cntI 3 y := fun y hy => cntI_pos (al y hy)
  walk_at "cz*"
  refine for_map xs id (List.map_id _).symm (fun i ρ' η' => η' = η ∧ ((((xs.take i).map (outI 3)).flatten.length : Nat) : Int) = ((xs.take i).map (cntI 3)).sum ∧ ∃ v : Option AV, ρ' = [some (.tup xs), some (.tup ((xs.take i).map (outI 3)).flatten), v]) ⟨rfl, by simp, none, by simp; rfl⟩ (fun _ _ _ _ _ => trivial) ?_ ?_
  · rintro i ρ' η' y hy ⟨rfl, el, v, rfl⟩
    have my := List.mem_of_getElem? hy
    have le := sum_one pos hy
    have nn := sum_nn (f := cntI 3) (zs := xs.take i) fun z hz => pos z (List.mem_of_mem_take hz)
    show agName 2 y _ _ _
    walk_at "cz*"
    rw [flat_snoc hy, sum_snoc hy]
    rcases al y my with ⟨m, rfl, om⟩ | ⟨n, zs, rfl, n1, n2, ne, g⟩
    · walk_at "cz*"
      refine ite_no rfl ?_
      walk_at "cz*"
      have e1 : cntI 3 (mV m) = 1 := rfl
      refine s_catT (by rw [e1] at le; simp only [List.length_cons, List.length_nil]; omega) ?_
      walk_at "cz*"
      exact ⟨rfl, by rw [List.length_append, e1]; have e2 : (outI 3 (mV m)).length = 1 := rfl; omega, _, rfl⟩
    · obtain ⟨⟨c0, c1⟩, c2, c3⟩ := cnt_both g
      have c2 := c2 fun z => ne (AV.tup.inj z)
      have e1 : cntI 3 (.tup [.str "times", .int n, .tup zs]) = n * cnt 3 (.tup zs) := rfl
      rw [e1] at le
      have lz : cnt 3 (.tup zs) ≤ 5000 := by
        have : 1 * cnt 3 (.tup zs) ≤ n * cnt 3 (.tup zs) := Int.mul_le_mul_of_nonneg_right n1 c0
        omega
      have prod : (outL 3 (.tup zs)).length * n.toNat ≤ 5000 := by
        have : (((outL 3 (.tup zs)).length * n.toNat : Nat) : Int) ≤ 5000 := by
          rw [Int.natCast_mul, c3, Int.toNat_of_nonneg (by omega), Int.mul_comm]
          omega
        omega
      have fl : (((List.replicate n.toNat (outL 3 (.tup zs))).flatten.length : Nat) : Int) = n * cnt 3 (.tup zs) := by
        rw [List.length_flatten, List.map_replicate, List.sum_replicate_nat, Int.natCast_mul, c3, Int.toNat_of_nonneg (by omega)]
      walk_at "cz*"
      refine ite_yes rfl ?_
      walk_at "cz*"
      refine ⟨_, rfl, g, lz, ?_⟩
      walk_at "cz*"
      refine s_repU (fun z => by rw [z] at c3; simp at c3; omega) n1 (by omega) ?_
      walk_at "cz*"
      refine s_catT (by omega) ?_
      walk_at "cz*"
      exact ⟨rfl, by rw [List.length_append, e1]; have e2 : (outI 3 (.tup [.str "times", .int n, .tup zs])).length = (List.replicate n.toNat (outL 3 (.tup zs))).flatten.length := rfl; omega, _, rfl⟩
  · rintro ρ' η' ⟨rfl, el, v, rfl⟩
    rw [List.take_length] at *
    walk_at "cz*"
    exact .same k
def spYOut (K : PySem.W.Frag) (EL EM : Addr) : ASpX := fun zs η Q AE => ∃ (h N : Nat) (Z : Int) (x : AV), zs = [x] ∧ N ≤ 1000000 ∧ MT K h Z N η x ∧ (gd 4 x ∧ wr 4 x ≤ 200 → cnt 4 x ≤ 5000 → Q (.tup (outL 4 x)) η) ∧ (gd 4 x ∧ wr 4 x ≤ 200 → 5000 < cnt 4 x → AE (EM, [("limit", .int 5000)]) η) ∧ (¬ (gd 4 x ∧ wr 4 x ≤ 200) → AE (EL, []) η)
theorem Y_written_out (B : Bi mg) {E_BadLog E_TooMany : Addr} {t1 : Tok} (c_MOST_OUT : mg "MOST_OUT" = some (.int 5000 t1)) (T_TooMany : ErrF P w K mg base "TooMany" E_TooMany "limit") (R_written_out : Raw K mg "written_out" s_written_out) (D_check_built : XDefX P w K mg base 6 "check_built" ["log"] (spYBuilt K E_BadLog)) (D_count_of : XDef P w K mg base 5 "count_of" ["log"] (spZCnt 4)) (D_out_of : XDef P w K mg base 5 "out_of" ["log"] (spZOut 4)) :
    XDefX P w K mg base 7 "written_out" ["log"] (spYOut K E_BadLog E_TooMany) := by
  refine XDefX.of R_written_out (N := N_written_out) (ps := ["log"]) sc_written_out (fun _ _ _ _ _ _ us hl => match us, hl with | [_], _ => rfl) ?_ fun f cdv A outer s H E hr tk po => ⟨_, fun AW => (xss_cons (xs_if (xt_cmpR xo_gt (xe_callD rfl D_count_of (hr.mono (by decide)) rfl (xa_cons (xe_callX rfl tk D_check_built (hr.mono (by decide)) rfl (xa_cons (xv 0) xa_nil)) xa_nil)) (xe_globI rfl c_MOST_OUT) (nomark _))
    (xss_one (xs_raise1 rfl rfl tk T_TooMany (hr.mono (by decide)) (xe_globI rfl c_MOST_OUT) rfl))
    xss_nil)
  (xss_one (xs_ret (xe_callD rfl D_out_of (hr.mono (by decide)) rfl (xa_cons (xv 0) xa_nil))))), ?_⟩
  · rintro zs η Q AE ⟨h, N, Z, x, rfl, _⟩
    rfl
  rintro zs η Q AE ⟨h, N, Z, x, rfl, hN, mt, kY, kM, kN⟩
  walk_at "cz*"
  refine ⟨h, N, Z, x, rfl, hN, mt, fun g => ?_, fun n => ?_⟩
  · refine ⟨x, rfl, g.1, g.2, ?_⟩
    walk_at "cz*"
    refine ite_dec (fun c => ?_) (fun c => ?_)
    · walk_at "cz*"
      exact .same (kM g (by omega))
    · walk_at "cz*"
      refine ⟨x, rfl, g.1, by omega, ?_⟩
      exact .same (kY g (by omega))
  · exact .same (kN n)
end
end Law

namespace Law
open PySem L2 MyB MyR MyD MyC Ab
local macro_rules | `(tactic| walk_at "kp") => `(tactic| first | exact Kept.refl | (refine' Kept.put ?kpa ?kpb; (case kpb => (walk_at "nn")); (case kpa => (walk_at "kp"))) | (refine' Kept.back ?kpa ?kpb; (case kpb => assumption); (case kpa => (walk_at "kp"))))
local macro_rules | `(tactic| walk_at "nn") => `(tactic| first | assumption | (refine' Kept.none ?nna ?nnb; (case nnb => assumption); (case nna => (walk_at "kp"))))
local macro_rules | `(tactic| walk_at "en") => `(tactic| first | assumption | exact pt_same | ((repeat rw [pt_ne (by assumption)]); first | assumption | exact pt_same))
local macro_rules | `(tactic| walk_at "lo") => `(tactic| first | assumption | exact lo_rf (by walk_at "en") | exact Or.inr rfl)
local macro_rules | `(tactic| walk_at "nu") => `(tactic| with_unfolding_all (first | assumption | decide | exact ⟨by decide, by decide⟩ | exact .inr ⟨by decide, by decide⟩ | exact ⟨by decide, by decide, by decide⟩ | exact ⟨by omega, by omega⟩ | exact .inl ⟨by omega, by omega⟩ | exact .inr ⟨by omega, by omega⟩))
local macro_rules | `(tactic| walk_at "ad") => `(tactic| with_reducible (first
  | refine s_seq ?_ | refine s_asg ?_ | refine s_tryAs ?_ | refine s_tryOnly ?_ | refine s_raise ?_ | refine s_raise1 ?_ | refine s_callX ?_ | refine s_xf ?_ | refine s_op ?_ | refine s_un ?_
  | (refine' s_var ?rdh ?_; (case rdh => (with_unfolding_all rfl)))
  | refine s_c ?_ | refine s_add ?_ | refine s_II ?_ | refine s_IB ?_ | refine s_lt ?_ | refine s_U ?_ | refine s_eqI ?_ | refine s_neI ?_ | refine s_eqB ?_ | refine s_neB ?_ | refine s_eqX ?_ | refine s_neX ?_
  | refine s_isNn ?_ | refine s_isNi ?_ | refine s_isNt ?_ | refine s_isNr ?_ | refine s_isNb ?_ | refine s_ntNn ?_ | refine s_ntNi ?_ | refine s_ntNt ?_ | refine s_ntNr ?_
  | refine s_test ?_ | refine s_not ?_ | refine s_and ?_ | refine s_or ?_ | refine s_yes ?_ | refine s_bl ?_
  | refine s_andV ?_ | refine s_orV ?_ | refine s_notV ?_ | refine s_chain ?_ | refine s_if ?_ | refine s_next ?_ | refine s_brk ?_ | refine s_cnt ?_ | refine s_ifS ?_
  | refine s_ret ?_ | refine s_retN ?_ | refine s_drop ?_ | refine s_name ?_ | refine s_sub ?_ | refine s_gCons ?_ | refine s_gNil ?_
  | refine s_cons ?_ | refine s_nil ?_ | refine s_cb ?_ | refine s_call ?_ | refine s_tup ?_ | refine s_lst ?_
  | refine s_mkT2 ?_ | refine s_mkT3 ?_ | refine s_mkT1 ?_ | refine s_mkT0 ?_ | refine s_mkT4 ?_ | refine s_mkT5 ?_
  | refine s_par ?_ | refine s_par3 ?_ | refine s_par2 ?_ | refine s_par33 ?_ | refine s_iRng1 ?_ | refine s_iRng2 ?_ | refine s_for ?_ | refine s_iList ?_ | refine s_iTup ?_ | refine s_theTup ?_ | refine s_lc ?_ | refine s_bm ?_
  | refine s_sl ?_ | refine s_noPart ?_ | refine s_part ?_ | refine s_abs ?_ | refine s_int ?_ | refine s_intB ?_ | refine s_max ?_ | refine s_min ?_ | refine s_max3 ?_ | refine s_theInt ?_ | refine s_lenT ?_ | refine s_tupT ?_ | refine s_slT3 ?_ | refine s_slT ?_ | refine s_dget ?_ | refine s_dget2 ?_ | refine s_din ?_ | refine s_iZip ?_ | refine s_iEnum ?_ | refine s_iEnumT ?_ | refine s_sortIt ?_ | refine s_zipT ?_ | refine s_sumM ?_ | refine s_anyM ?_ | refine s_allM ?_ | refine s_dc ?_ | refine s_iKeys ?_ | refine s_listT' ?_
  | refine s_sumT ?_
  | (refine' s_gTup ?rdi ?_; (case rdi => (with_unfolding_all rfl)))
  | (refine' s_gLst ?rdh ?rdi ?_; (case rdh => (with_unfolding_all (walk_at "lo"))); (case rdi => (with_unfolding_all rfl)))
  | (refine' s_ixT ?rdi ?_; (case rdi => (with_unfolding_all rfl)))
  | (refine' s_ixL ?rdh ?rdi ?_; (case rdh => (with_unfolding_all (walk_at "lo"))); (case rdi => (with_unfolding_all rfl)))
  | (refine' s_setL ?rdh ?rdi ?_; (case rdh => (with_unfolding_all (walk_at "en"))); (case rdi => (with_unfolding_all rfl)))
  | (refine' s_lenL ?rdh ?_; (case rdh => (with_unfolding_all (walk_at "lo"))))
  | (refine' s_all ?rdh ?_; (case rdh => (with_unfolding_all (walk_at "lo"))))
  | (refine' s_any ?rdh ?_; (case rdh => (with_unfolding_all (walk_at "lo"))))
  | (refine' s_sum ?rdh ?_; (case rdh => (with_unfolding_all (walk_at "lo"))))
  | (refine' s_listL' ?rdh ?_; (case rdh => (with_unfolding_all (walk_at "lo"))))
  | (refine' s_tupL ?rdh ?_; (case rdh => (with_unfolding_all (walk_at "lo"))))
  | (refine' And.intro (s_isL ?rdh) ?_; (case rdh => (with_unfolding_all (walk_at "en"))))
  | (refine' s_IC ?rdh ?_; (case rdh => (walk_at "nu")))
  | (refine' s_mul ?rdh ?_; (case rdh => (walk_at "nu")))
  | (refine' s_div ?rdh ?_; (case rdh => (walk_at "nu")))
  | (refine' s_floors ?rdh ?_; (case rdh => assumption)) | (refine' s_room ?rdh ?_; (case rdh => assumption))
  | (refine' s_house ?rdh ?_; (case rdh => assumption)) | (refine' s_lift ?rdh ?_; (case rdh => assumption)) | (refine' s_grps ?rdh ?_; (case rdh => assumption))
  | refine s_eqG ?_ | refine s_neG ?_ | refine s_eqN ?_ | refine s_neN ?_
  | (refine' s_aug ?rdh ?_; (case rdh => (with_unfolding_all rfl)))))
local macro_rules | `(tactic| walk_at "ad*") => `(tactic| (repeat (walk_at "ad")))

local macro_rules | `(tactic| walk_at "az") => `(tactic| first | walk_at "ad" | with_reducible (first | refine iteF ?_ | refine iteT ?_ | refine ite_nT ?_ | refine ite_nF ?_ | (refine' s_rngJ ?rdh ?_; (case rdh => omega)) | (refine' s_rngJ2 ?rdh ?_; (case rdh => omega)) | refine s_isT ?_ | refine s_notT ?_ | refine s_isF ?_ | refine s_notF ?_ | refine s_isi_non_int ?_ | refine s_isi_non_bool ?_ | refine s_isi_non_tuple ?_ | refine s_isi_non_list ?_ | refine s_isi_non_str ?_ | refine s_isi_bl_int ?_ | refine s_isi_bl_bool ?_ | refine s_isi_bl_tuple ?_ | refine s_isi_bl_list ?_ | refine s_isi_bl_str ?_ | refine s_isi_int_int ?_ | refine s_isi_int_bool ?_ | refine s_isi_int_tuple ?_ | refine s_isi_int_list ?_ | refine s_isi_int_str ?_ | refine s_isi_str_int ?_ | refine s_isi_str_bool ?_ | refine s_isi_str_tuple ?_ | refine s_isi_str_list ?_ | refine s_isi_str_str ?_ | refine s_isi_tup_int ?_ | refine s_isi_tup_bool ?_ | refine s_isi_tup_tuple ?_ | refine s_isi_tup_list ?_ | refine s_isi_tup_str ?_))
local macro_rules | `(tactic| walk_at "az*") => `(tactic| (repeat (walk_at "az")))
local macro_rules | `(tactic| walk_at "cl") => `(tactic| ((repeat refine Exists.intro _ ?_); refine And.intro rfl ?_; (repeat (refine And.intro (by first | assumption | omega | exact lo_rf (by assumption)) ?_))))

local macro_rules | `(tactic| walk_at "bz") => `(tactic| first | (with_reducible (refine' s_nameE ?rde ?_; (case rde => ((try simp only [List.set_cons_succ, List.set_cons_zero]); exact rfl)))) | (with_reducible (refine' s_par2E ?rde ?_; (case rde => ((try simp only [List.set_cons_succ, List.set_cons_zero]); exact rfl)))) | walk_at "az")
local macro_rules | `(tactic| walk_at "bz*") => `(tactic| (repeat (walk_at "bz")))

local macro_rules | `(tactic| walk_at "cz") => `(tactic| first | with_reducible (first | refine s_fldS ?_ | refine s_makeN ?_ | refine s_callN ?_ | refine s_stepL ?_ | refine s_revT ?_ | refine s_methN ?_ | refine s_methX ?_ | refine s_bm0 ?_ | refine s_listIt ?_) | walk_at "bz")
local macro_rules | `(tactic| walk_at "cz*") => `(tactic| (repeat (walk_at "cz")))

/-! ### the law's moves and logs -/
theorem s_setI {η : Eta} {n : Nat} {k v : Int} {L : List (Int × Int)} {R : Eta → Prop} (h : η n = some (.dK (L.map entA))) (hl : L.length < 16000000) (nd : (L.map (·.1)).Nodup)
    (q : ∀ L' : List (Int × Int), (L'.map (·.1)).Nodup → L'.length ≤ L.length + 1 → (∀ e ∈ L', e ∈ L ∨ e.1 = k ∧ e.2 = v) → R (pt η n (.dK (L'.map entA)))) : kSetD (.rf n) (.int k) (.int v) η R := by
  refine ⟨n, rfl, .inl ⟨_, .inl k, h, rfl, by rw [List.length_map]; exact hl, ?_⟩⟩
  unfold putA
  by_cases c : ((L.map entA).any fun kv => decide (kv.1 = Sum.inl k)) = true
  · rw [if_pos c]
    have e : ((L.map entA).map fun kv => if kv.1 = Sum.inl k then (kv.1, AV.int v) else kv) = (L.map fun e => if e.1 = k then (e.1, v) else e).map entA := by
      rw [List.map_map, List.map_map]
      refine List.map_congr_left fun e _ => ?_
      show (if Sum.inl e.1 = (Sum.inl k : Key) then (Sum.inl e.1, AV.int v) else entA e) = entA (if e.1 = k then (e.1, v) else e)
      by_cases z : e.1 = k
      · rw [if_pos (by rw [z]), if_pos z]
        rfl
      · rw [if_neg (fun q => z (Sum.inl.inj q)), if_neg z]
    rw [e]
    refine q _ ?_ (by rw [List.length_map]; omega) ?_
    · rw [List.map_map]
      have : ((fun x : Int × Int => x.1) ∘ fun e : Int × Int => if e.1 = k then (e.1, v) else e) = fun x => x.1 := by
        funext e
        show (if e.1 = k then (e.1, v) else e).1 = e.1
        split <;> rfl
      rw [this]
      exact nd
    · intro e he
      obtain ⟨f, hf, rfl⟩ := List.mem_map.mp he
      by_cases z : f.1 = k
      · rw [if_pos z]
        exact .inr ⟨z, rfl⟩
      · rw [if_neg z]
        exact .inl hf
  · rw [if_neg c]
    have e : L.map entA ++ [(Sum.inl k, AV.int v)] = (L ++ [(k, v)]).map entA := by rw [List.map_append]; rfl
    rw [e]
    refine q _ ?_ (by rw [List.length_append]; exact Nat.le_refl _) ?_
    · rw [List.map_append, List.nodup_append]
      refine ⟨nd, by simp, fun a ha b hb => ?_⟩
      rw [List.mem_singleton.mp hb]
      rintro rfl
      obtain ⟨f, hf, rfl⟩ := List.mem_map.mp ha
      refine c (List.any_eq_true.mpr ⟨_, List.mem_map.mpr ⟨f, hf, rfl⟩, ?_⟩)
      exact decide_eq_true rfl
    · intro e he
      rcases List.mem_append.mp he with he | he
      · exact .inl he
      · rw [List.mem_singleton.mp he]
        exact .inr ⟨rfl, rfl⟩
theorem sortedI {L0 : List (Int × Int)} {Ms : List (List Int)} (nd : (L0.map (·.1)).Nodup) (hs : Ms.Pairwise fun a b => MyS.ltL b a = false) (hp : Ms.Perm (L0.map fun x => [x.1, x.2])) : ∃ L : List (Int × Int), Ms = L.map (fun x => [x.1, x.2]) ∧ L.Perm L0 ∧ L.Pairwise fun x y => x.1 < y.1 := by
  have key : ∀ (L0 : List (Int × Int)) (Ms : List (List Int)), Ms.Perm (L0.map fun x => [x.1, x.2]) → ∃ L : List (Int × Int), Ms = L.map (fun x => [x.1, x.2]) ∧ L.Perm L0 := by
    intro L0 Ms
    induction Ms generalizing L0 with
    | nil =>
      intro h
      have := h.length_eq
      rw [List.length_map, List.length_nil] at this
      have e : L0 = [] := List.length_eq_zero_iff.mp this.symm
      subst e
      exact ⟨[], rfl, .refl _⟩
    | cons l Ms ih =>
      intro h
      obtain ⟨x, hx, rfl⟩ := List.mem_map.mp (h.mem_iff.mp List.mem_cons_self)
      have p1 : L0.Perm (x :: L0.erase x) := List.perm_cons_erase hx
      have p2 := (h.trans (p1.map _)).cons_inv
      obtain ⟨L, rfl, pL⟩ := ih _ p2
      exact ⟨x :: L, rfl, (pL.cons x).trans p1.symm⟩
  obtain ⟨L, rfl, pL⟩ := key L0 Ms hp
  refine ⟨L, rfl, pL, ?_⟩
  have s2 : L.Pairwise fun x y => MyS.ltL [y.1, y.2] [x.1, x.2] = false := List.pairwise_map.mp hs
  have s3 : L.Pairwise fun x y => x.1 ≠ y.1 := List.pairwise_map.mp ((pL.map (fun x : Int × Int => x.1)).nodup_iff.mpr nd)
  refine (List.Pairwise.and s2 s3).imp fun {x y} h => ?_
  obtain ⟨h1, h2⟩ := h
  have h1' : (if y.1 = x.1 then (if y.2 = x.2 then false else decide (y.2 < x.2)) else decide (y.1 < x.1)) = false := h1
  rw [if_neg (fun z => h2 z.symm), decide_eq_false_iff_not] at h1'
  omega
theorem s_sortI2 {η : Eta} {Q : AK} {m : Nat} {L0 : List (Int × Int)} (h : η m = some (.lst (L0.map pvA))) (nd : (L0.map (·.1)).Nodup)
    (k : ∀ A : List (Int × Int), A.Perm L0 → (A.Pairwise fun x y => x.1 < y.1) → ∀ j, η j = none → Q (.rf j) (pt η j (.lst (A.map pV)))) : kSortT [.rf m] η Q := by
  refine ⟨.rf m, L0.map fun x => [x.1, x.2], rfl, lo_rf ?_, fun l hl => ?_, fun Ms hs hp j hj => ?_⟩
  · rw [h, List.map_map]
    rfl
  · obtain ⟨x, _, rfl⟩ := List.mem_map.mp hl
    exact fun z => by cases z
  · obtain ⟨L, rfl, pL, aL⟩ := sortedI nd hs hp
    have := k L pL aL j hj
    rw [List.map_map]
    exact this
/-- a value small enough, whatever is around it -/
def sml (x : AV) : Prop := ∀ (K : PySem.W.Frag) (h : Nat) (η : Eta), MT K h (10 ^ 30) 1000 η x
def smM (m : Mv) : Prop := m.2.length ≤ 2 ∧ ∀ p ∈ m.2, p.1 ≤ 39 ∧ p.2 ≤ 10 ^ 30
theorem sml_mV {m : Mv} (o : okM m) (s : smM m) : sml (mV m) := fun K h η => by
  refine .tup (fun x hx => ?_) (by simp)
  simp only [List.mem_cons, List.not_mem_nil, or_false] at hx
  rcases hx with rfl | rfl
  · have := o.1
    exact .int (by omega) (by omega)
  · exact okA_mt (fun y hy => by have := o.2.2 y hy; have := s.2 y hy; omega) (by have := s.1; omega) (by decide)
theorem sml_tup {xs : List AV} (h : ∀ x ∈ xs, sml x) (l : xs.length ≤ 1000) : sml (.tup xs) := fun K hh η => .tup (fun x hx => h x hx K hh η) l
theorem sml_in {xs : List AV} (h : sml (.tup xs)) : ∀ x ∈ xs, sml x := fun x hx K hh η => (h K hh η).in.1 x hx
theorem sml_rnd {n : Int} {z : AV} (n1 : 1 ≤ n) (n2 : n ≤ 10 ^ 30) (h : sml z) : sml (.tup [.str "times", .int n, z]) := fun K hh η => .tup (fun x hx => by
  simp only [List.mem_cons, List.not_mem_nil, or_false] at hx
  rcases hx with rfl | rfl | rfl
  · exact .str
  · exact .int (by omega) n2
  · exact h K hh η) (by simp)
theorem gd_snoc {k : Nat} {xs : List AV} {y : AV} (g : gd (k + 1) (.tup xs)) (h : gdI k y) : gd (k + 1) (.tup (xs ++ [y])) := gd_items.mpr fun z hz => by
  rcases List.mem_append.mp hz with hz | hz
  · exact gd_items.mp g z hz
  · rw [List.mem_singleton.mp hz]
    exact h
theorem wr_snoc (k : Nat) (xs : List AV) (y : AV) : wr (k + 1) (.tup (xs ++ [y])) = wr (k + 1) (.tup xs) + wrI k y := by
  rw [wr_sum, wr_sum, List.map_append, List.sum_append]
  simp
section
variable {P : Program} {w : World} {K : PySem.W.Frag} {mg : Str → Option Value} {base : Heap} {CH CS CR C : Addr}
def spAnyMove : ASp := fun xs η Q => ∃ (d c : Nat), xs = [.rf d] ∧ Hand η d c ∧ ∀ (m : Mv) (η' : Eta), okM m → smM m → Hand η' d c → But d η η' → Q (mV m) η'
theorem D__law_any_move (B : Bi mg) (R__law_any_move : Raw K mg "_law_any_move" s__law_any_move) (D__law_draw : XDef P w K mg base 2 "_law_draw" ["_law_hand_here", "_law_many"] spDraw) : XDef P w K mg base 3 "_law_any_move" ["_law_hand_here"] spAnyMove := by
  refine XDef.of R__law_any_move (N := N__law_any_move) (ps := ["_law_hand_here"]) sc__law_any_move (fun _ _ _ _ _ _ us hl => match us, hl with | [_], _ => rfl) ?_ fun f cdv A outer s H E hr => ?_
  · rintro xs η Q ⟨d, c, rfl, _⟩
    rfl
  have hu := hu_of hr
  refine ⟨_, (xss_cons (xs_set (i := 1) sc__law_any_move.nd rfl (Or.inl rfl) xe_dct)
  (xss_cons (xs_for PassesOwn.never rfl (xi_range1 (by rfl) B.range (xa_cons (xe_callD rfl D__law_draw (hr.mono (by decide)) rfl (xa_cons (xv 0) (xa_cons xe_int xa_nil))) xa_nil)) (xg_name (i := 2) sc__law_any_move.nd rfl (Or.inl rfl))
    (xss_one (xs_asg (xe_ix (xu_ix rfl) (xe_lst (xa_cons xe_int (xa_cons xe_int (xa_cons (xe_op xo_pow xe_int xe_int) xa_nil)))) (xe_callD rfl D__law_draw (hr.mono (by decide)) rfl (xa_cons (xv 0) (xa_cons xe_int xa_nil))) (fun _ _ => rfl)) (xg_sub (xv 1) (xe_callD rfl D__law_draw (hr.mono (by decide)) rfl (xa_cons (xv 0) (xa_cons xe_int xa_nil))) (xset_dict hu)))))
  (xss_one (xs_ret (xe_tup (xa_cons (xe_ix (xu_ix rfl) (xe_lst (xa_cons xe_int (xa_cons (xe_un xu_neg xe_int) xa_nil))) (xe_callD rfl D__law_draw (hr.mono (by decide)) rfl (xa_cons (xv 0) (xa_cons xe_int xa_nil))) (fun _ _ => rfl)) (xa_cons (xe_callTy (xc_tup rfl) (by rfl) B.tuple (by decide +kernel) (xa_cons (xe_callB (xc_sortT rfl) (by rfl) B.sorted (by decide +kernel) (xa_cons (xe_listIt rfl (by rfl) B.list (xv 1)) xa_nil)) xa_nil)) xa_nil))))))), ?_⟩
  rintro xs η Q ⟨d, c, rfl, hd, k⟩
  walk_at "cz*"
  intro n hn
  have nd := (hd.ne hn).1
  have h1 : Hand (pt η n (.dK [])) d c := hd.new hn
  have kb1 : KB d η (pt η n (.dK [])) := KB.refl.put hn
  have e1 : (pt η n (.dK [])) n = some (.dK (([] : List (Int × Int)).map entA)) := pt_same
  generalize pt η n (.dK []) = η1 at h1 kb1 e1
  walk_at "cz*"
  refine ⟨d, c, _, rfl, h1, by decide, by decide, fun j η2 j0 j1 h2 b2 => ?_⟩
  walk_at "cz*"
  refine for_rng (fun i ρ' η' => ∃ (L : List (Int × Int)) (v : Option AV), Hand η' d c ∧ KB d η η' ∧ η' n = some (.dK (L.map entA)) ∧ (L.map (·.1)).Nodup ∧ L.length ≤ i ∧ (∀ e ∈ L, 0 ≤ e.1 ∧ e.1 ≤ 39 ∧ 1 ≤ e.2 ∧ e.2 ≤ 10 ^ 30) ∧ ρ' = [some (.rf d), some (.rf n), v]) ⟨[], none, h2, kb1.but b2, (b2 n nd).trans e1, by simp, by simp, by simp, rfl⟩ ?_ ?_
  · rintro i ρ' η' hi ⟨L, v, h3, kb3, e3, ndL, lL, al, rfl⟩
    walk_at "cz*"
    refine s_mkL (by simp) fun m hm => ?_
    have mn : n ≠ m := by rintro rfl; rw [e3] at hm; cases hm
    have md : m ≠ d := (h3.ne hm).1
    walk_at "cz*"
    refine ⟨d, c, _, rfl, h3.new hm, by decide, by decide, fun j5 η5 j50 j51 h5 b5 => ?_⟩
    have em : η5 m = some (.lst [.int 1, .int 2, .int (10 ^ 30)]) := (b5 m md).trans pt_same
    have e5 : η5 n = some (.dK (L.map entA)) := (b5 n nd).trans ((pt_ne mn).trans e3)
    have kb5 : KB d η η5 := (kb3.put hm).but b5
    obtain ⟨u, hu1, u1, u2⟩ : ∃ u : Int, atI [AV.int 1, AV.int 2, AV.int (10 ^ 30)] j5 = some (.int u) ∧ 1 ≤ u ∧ u ≤ 10 ^ 30 := by
      rcases (show j5 = 0 ∨ j5 = 1 ∨ j5 = 2 by omega) with rfl | rfl | rfl
      · exact ⟨1, rfl, by decide, by decide⟩
      · exact ⟨2, rfl, by decide, by decide⟩
      · exact ⟨10 ^ 30, rfl, by decide, by decide⟩
    refine s_ixL (lo_rf em) hu1 ?_
    walk_at "cz*"
    refine ⟨d, c, _, rfl, h5, by decide, by decide, fun j6 η6 j60 j61 h6 b6 => ?_⟩
    have e6 : η6 n = some (.dK (L.map entA)) := (b6 n nd).trans e5
    walk_at "cz*"
    refine s_setI e6 (by omega) ndL fun L' nd' l' al' => ?_
    refine ⟨L', _, h6.far nd (hd.ne hn).2, (kb5.but b6).own hn, pt_same, nd', by omega, fun e he => ?_, rfl⟩
    rcases al' e he with he | ⟨a1, a2⟩
    · exact al e he
    · omega
  · rintro ρ' η' ⟨L, v, h3, kb3, e3, ndL, lL, al, rfl⟩
    walk_at "cz*"
    refine s_mkL (by simp) fun m hm => ?_
    have mn : n ≠ m := by rintro rfl; rw [e3] at hm; cases hm
    have md : m ≠ d := (h3.ne hm).1
    walk_at "cz*"
    refine ⟨d, c, _, rfl, h3.new hm, by decide, by decide, fun j5 η5 j50 j51 h5 b5 => ?_⟩
    have em : η5 m = some (.lst [.int 1, .int (-1)]) := (b5 m md).trans pt_same
    have e5 : η5 n = some (.dK (L.map entA)) := (b5 n nd).trans ((pt_ne mn).trans e3)
    have kb5 : KB d η η5 := (kb3.put hm).but b5
    obtain ⟨u, hu1, u1⟩ : ∃ u : Int, atI [AV.int 1, AV.int (-1)] j5 = some (.int u) ∧ (u = 1 ∨ u = -1) := by
      rcases (show j5 = 0 ∨ j5 = 1 by omega) with rfl | rfl
      · exact ⟨1, rfl, .inl rfl⟩
      · exact ⟨-1, rfl, .inr rfl⟩
    refine s_ixL (lo_rf em) hu1 ?_
    walk_at "cz*"
    refine ⟨n, L, rfl, e5, fun q hq => ?_⟩
    walk_at "cz*"
    refine s_sortI2 pt_same ndL fun A pA aA p hp => ?_
    walk_at "cz*"
    have hA : ∀ e ∈ A, 0 ≤ e.1 ∧ e.1 ≤ 39 ∧ 1 ≤ e.2 ∧ e.2 ≤ 10 ^ 30 := fun e he => al e (pA.mem_iff.mp he)
    have lA := pA.length_eq
    have h7 : Hand (pt (pt η5 q (.lst (L.map pvA))) p (.lst (A.map pV))) d c := (h5.new hq).new hp
    have kb7 : KB d η (pt (pt η5 q (.lst (L.map pvA))) p (.lst (A.map pV))) := (kb5.put hq).put hp
    exact hand_drop hd h7 kb7 fun η8 h8 b8 => k (u, A) η8 ⟨u1, aA, fun e he => by have := hA e he; omega⟩ ⟨by show A.length ≤ 2; omega, fun e he => by have := hA e he; omega⟩ h8 b8
end
end Law

namespace Law
open PySem L2 MyB MyR MyD MyC Ab
theorem gd_out {k : Nat} {v : AV} (g : gd k v) : ∀ y ∈ outL k v, isB y := by
  induction k generalizing v with
  | zero => exact g.elim
  | succ k ih =>
    obtain ⟨xs, rfl, al⟩ := g
    have al : ∀ y ∈ xs, gdI k y := al
    intro y hy
    rw [outL_tup] at hy
    obtain ⟨l, hl, hyl⟩ := List.mem_flatten.mp hy
    obtain ⟨x, hx, rfl⟩ := List.mem_map.mp hl
    rcases al x hx with ⟨m, rfl, om⟩ | ⟨n, zs, rfl, n1, n2, ne, g⟩
    · have : y ∈ [mV m] := hyl
      rw [List.mem_singleton.mp this]
      exact ⟨m, rfl, om⟩
    · have : y ∈ (List.replicate n.toNat (outL k (.tup zs))).flatten := hyl
      obtain ⟨l, hl, hyl⟩ := List.mem_flatten.mp this
      rw [(List.mem_replicate.mp hl).2] at hyl
      exact ih g y hyl
theorem nmd_mV (m : Mv) : NmD 3 (mV m) := .two .int (.tup (.map fun p _ => .two .int .int))
theorem nmd_out {k : Nat} {v : AV} (g : gd k v) : NmD 4 (.tup (outL k v)) := .tup fun y hy => by
  obtain ⟨m, rfl, _⟩ := gd_out g y hy
  exact nmd_mV m
theorem out_plain {xs : List AV} (h : ∀ y ∈ xs, isB y) (k : Nat) : outL (k + 1) (.tup xs) = xs ∧ gd (k + 1) (.tup xs) ∧ wr (k + 1) (.tup xs) = xs.length ∧ cnt (k + 1) (.tup xs) = xs.length := by
  refine ⟨?_, gd_items.mpr fun y hy => .inl (h y hy), ?_, ?_⟩
  · rw [outL_tup]
    induction xs with
    | nil => rfl
    | cons x xs ih =>
      obtain ⟨m, rfl, _⟩ := h x List.mem_cons_self
      rw [List.map_cons, List.flatten_cons, ih fun y hy => h y (List.mem_cons_of_mem _ hy)]
      rfl
  · rw [wr_sum]
    induction xs with
    | nil => rfl
    | cons x xs ih =>
      obtain ⟨m, rfl, _⟩ := h x List.mem_cons_self
      rw [List.map_cons, List.sum_cons, ih fun y hy => h y (List.mem_cons_of_mem _ hy), List.length_cons]
      have : wrI k (mV m) = 1 := rfl
      omega
  · rw [cnt_tup]
    induction xs with
    | nil => rfl
    | cons x xs ih =>
      obtain ⟨m, rfl, _⟩ := h x List.mem_cons_self
      rw [List.map_cons, List.sum_cons, ih fun y hy => h y (List.mem_cons_of_mem _ hy), List.length_cons]
      have : cntI k (mV m) = 1 := rfl
      omega
end Law

namespace Law
open PySem L2 MyB MyR MyD MyC Ab
local macro_rules | `(tactic| walk_at "kp") => `(tactic| first | exact Kept.refl | (refine' Kept.put ?kpa ?kpb; (case kpb => (walk_at "nn")); (case kpa => (walk_at "kp"))) | (refine' Kept.back ?kpa ?kpb; (case kpb => assumption); (case kpa => (walk_at "kp"))))
local macro_rules | `(tactic| walk_at "nn") => `(tactic| first | assumption | (refine' Kept.none ?nna ?nnb; (case nnb => assumption); (case nna => (walk_at "kp"))))
local macro_rules | `(tactic| walk_at "en") => `(tactic| first | assumption | exact pt_same | ((repeat rw [pt_ne (by assumption)]); first | assumption | exact pt_same))
local macro_rules | `(tactic| walk_at "lo") => `(tactic| first | assumption | exact lo_rf (by walk_at "en") | exact Or.inr rfl)
local macro_rules | `(tactic| walk_at "nu") => `(tactic| with_unfolding_all (first | assumption | decide | exact ⟨by decide, by decide⟩ | exact .inr ⟨by decide, by decide⟩ | exact ⟨by decide, by decide, by decide⟩ | exact ⟨by omega, by omega⟩ | exact .inl ⟨by omega, by omega⟩ | exact .inr ⟨by omega, by omega⟩))
local macro_rules | `(tactic| walk_at "ad") => `(tactic| with_reducible (first
  | refine s_seq ?_ | refine s_asg ?_ | refine s_tryAs ?_ | refine s_tryOnly ?_ | refine s_raise ?_ | refine s_raise1 ?_ | refine s_callX ?_ | refine s_xf ?_ | refine s_op ?_ | refine s_un ?_
  | (refine' s_var ?rdh ?_; (case rdh => (with_unfolding_all rfl)))
  | refine s_c ?_ | refine s_add ?_ | refine s_II ?_ | refine s_IB ?_ | refine s_lt ?_ | refine s_U ?_ | refine s_eqI ?_ | refine s_neI ?_ | refine s_eqB ?_ | refine s_neB ?_ | refine s_eqX ?_ | refine s_neX ?_
  | refine s_isNn ?_ | refine s_isNi ?_ | refine s_isNt ?_ | refine s_isNr ?_ | refine s_isNb ?_ | refine s_ntNn ?_ | refine s_ntNi ?_ | refine s_ntNt ?_ | refine s_ntNr ?_
  | refine s_test ?_ | refine s_not ?_ | refine s_and ?_ | refine s_or ?_ | refine s_yes ?_ | refine s_bl ?_
  | refine s_andV ?_ | refine s_orV ?_ | refine s_notV ?_ | refine s_chain ?_ | refine s_if ?_ | refine s_next ?_ | refine s_brk ?_ | refine s_cnt ?_ | refine s_ifS ?_
  | refine s_ret ?_ | refine s_retN ?_ | refine s_drop ?_ | refine s_name ?_ | refine s_sub ?_ | refine s_gCons ?_ | refine s_gNil ?_
  | refine s_cons ?_ | refine s_nil ?_ | refine s_cb ?_ | refine s_call ?_ | refine s_tup ?_ | refine s_lst ?_
  | refine s_mkT2 ?_ | refine s_mkT3 ?_ | refine s_mkT1 ?_ | refine s_mkT0 ?_ | refine s_mkT4 ?_ | refine s_mkT5 ?_
  | refine s_par ?_ | refine s_par3 ?_ | refine s_par2 ?_ | refine s_par33 ?_ | refine s_iRng1 ?_ | refine s_iRng2 ?_ | refine s_for ?_ | refine s_iList ?_ | refine s_iTup ?_ | refine s_theTup ?_ | refine s_lc ?_ | refine s_bm ?_
  | refine s_sl ?_ | refine s_noPart ?_ | refine s_part ?_ | refine s_abs ?_ | refine s_int ?_ | refine s_intB ?_ | refine s_max ?_ | refine s_min ?_ | refine s_max3 ?_ | refine s_theInt ?_ | refine s_lenT ?_ | refine s_tupT ?_ | refine s_slT3 ?_ | refine s_slT ?_ | refine s_dget ?_ | refine s_dget2 ?_ | refine s_din ?_ | refine s_iZip ?_ | refine s_iEnum ?_ | refine s_iEnumT ?_ | refine s_sortIt ?_ | refine s_zipT ?_ | refine s_sumM ?_ | refine s_anyM ?_ | refine s_allM ?_ | refine s_dc ?_ | refine s_iKeys ?_ | refine s_listT' ?_
  | refine s_sumT ?_
  | (refine' s_gTup ?rdi ?_; (case rdi => (with_unfolding_all rfl)))
  | (refine' s_gLst ?rdh ?rdi ?_; (case rdh => (with_unfolding_all (walk_at "lo"))); (case rdi => (with_unfolding_all rfl)))
  | (refine' s_ixT ?rdi ?_; (case rdi => (with_unfolding_all rfl)))
  | (refine' s_ixL ?rdh ?rdi ?_; (case rdh => (with_unfolding_all (walk_at "lo"))); (case rdi => (with_unfolding_all rfl)))
  | (refine' s_setL ?rdh ?rdi ?_; (case rdh => (with_unfolding_all (walk_at "en"))); (case rdi => (with_unfolding_all rfl)))
  | (refine' s_lenL ?rdh ?_; (case rdh => (with_unfolding_all (walk_at "lo"))))
  | (refine' s_all ?rdh ?_; (case rdh => (with_unfolding_all (walk_at "lo"))))
  | (refine' s_any ?rdh ?_; (case rdh => (with_unfolding_all (walk_at "lo"))))
  | (refine' s_sum ?rdh ?_; (case rdh => (with_unfolding_all (walk_at "lo"))))
  | (refine' s_listL' ?rdh ?_; (case rdh => (with_unfolding_all (walk_at "lo"))))
  | (refine' s_tupL ?rdh ?_; (case rdh => (with_unfolding_all (walk_at "lo"))))
  | (refine' And.intro (s_isL ?rdh) ?_; (case rdh => (with_unfolding_all (walk_at "en"))))
  | (refine' s_IC ?rdh ?_; (case rdh => (walk_at "nu")))
  | (refine' s_mul ?rdh ?_; (case rdh => (walk_at "nu")))
  | (refine' s_div ?rdh ?_; (case rdh => (walk_at "nu")))
  | (refine' s_floors ?rdh ?_; (case rdh => assumption)) | (refine' s_room ?rdh ?_; (case rdh => assumption))
  | (refine' s_house ?rdh ?_; (case rdh => assumption)) | (refine' s_lift ?rdh ?_; (case rdh => assumption)) | (refine' s_grps ?rdh ?_; (case rdh => assumption))
  | refine s_eqG ?_ | refine s_neG ?_ | refine s_eqN ?_ | refine s_neN ?_
  | (refine' s_aug ?rdh ?_; (case rdh => (with_unfolding_all rfl)))))
local macro_rules | `(tactic| walk_at "ad*") => `(tactic| (repeat (walk_at "ad")))

local macro_rules | `(tactic| walk_at "az") => `(tactic| first | walk_at "ad" | with_reducible (first | refine iteF ?_ | refine iteT ?_ | refine ite_nT ?_ | refine ite_nF ?_ | (refine' s_rngJ ?rdh ?_; (case rdh => omega)) | (refine' s_rngJ2 ?rdh ?_; (case rdh => omega)) | refine s_isT ?_ | refine s_notT ?_ | refine s_isF ?_ | refine s_notF ?_ | refine s_isi_non_int ?_ | refine s_isi_non_bool ?_ | refine s_isi_non_tuple ?_ | refine s_isi_non_list ?_ | refine s_isi_non_str ?_ | refine s_isi_bl_int ?_ | refine s_isi_bl_bool ?_ | refine s_isi_bl_tuple ?_ | refine s_isi_bl_list ?_ | refine s_isi_bl_str ?_ | refine s_isi_int_int ?_ | refine s_isi_int_bool ?_ | refine s_isi_int_tuple ?_ | refine s_isi_int_list ?_ | refine s_isi_int_str ?_ | refine s_isi_str_int ?_ | refine s_isi_str_bool ?_ | refine s_isi_str_tuple ?_ | refine s_isi_str_list ?_ | refine s_isi_str_str ?_ | refine s_isi_tup_int ?_ | refine s_isi_tup_bool ?_ | refine s_isi_tup_tuple ?_ | refine s_isi_tup_list ?_ | refine s_isi_tup_str ?_))
local macro_rules | `(tactic| walk_at "az*") => `(tactic| (repeat (walk_at "az")))
local macro_rules | `(tactic| walk_at "cl") => `(tactic| ((repeat refine Exists.intro _ ?_); refine And.intro rfl ?_; (repeat (refine And.intro (by first | assumption | omega | exact lo_rf (by assumption)) ?_))))

local macro_rules | `(tactic| walk_at "bz") => `(tactic| first | (with_reducible (refine' s_nameE ?rde ?_; (case rde => ((try simp only [List.set_cons_succ, List.set_cons_zero]); exact rfl)))) | (with_reducible (refine' s_par2E ?rde ?_; (case rde => ((try simp only [List.set_cons_succ, List.set_cons_zero]); exact rfl)))) | walk_at "az")
local macro_rules | `(tactic| walk_at "bz*") => `(tactic| (repeat (walk_at "bz")))

local macro_rules | `(tactic| walk_at "cz") => `(tactic| first | with_reducible (first | refine s_fldS ?_ | refine s_makeN ?_ | refine s_callN ?_ | refine s_stepL ?_ | refine s_revT ?_ | refine s_methN ?_ | refine s_methX ?_ | refine s_bm0 ?_ | refine s_listIt ?_) | walk_at "bz")
local macro_rules | `(tactic| walk_at "cz*") => `(tactic| (repeat (walk_at "cz")))

/-! ### like moves one behind another -/
def push (rs : List (Mv × Nat)) (m : Mv) : List (Mv × Nat) := match rs.getLast? with
  | some r => if r.1 = m then rs.dropLast ++ [(m, r.2 + 1)] else rs ++ [(m, 1)]
  | none => [(m, 1)]
theorem push_nil (m : Mv) : push [] m = [(m, 1)] := rfl
theorem push_same (rs : List (Mv × Nat)) (m : Mv) (n : Nat) : push (rs ++ [(m, n)]) m = rs ++ [(m, n + 1)] := by
  unfold push
  rw [List.getLast?_concat]
  simp
theorem push_other (rs : List (Mv × Nat)) {l m : Mv} (n : Nat) (h : l ≠ m) : push (rs ++ [(l, n)]) m = rs ++ [(l, n)] ++ [(m, 1)] := by
  unfold push
  rw [List.getLast?_concat]
  simp [h]
def grp (ms : List Mv) : List (Mv × Nat) := ms.foldl push []
theorem grp_snoc (ms : List Mv) (m : Mv) : grp (ms ++ [m]) = push (grp ms) m := by
  unfold grp
  rw [List.foldl_append]
  rfl
def flatR (rs : List (Mv × Nat)) : List Mv := (rs.map fun r => List.replicate r.2 r.1).flatten
theorem push_facts (rs : List (Mv × Nat)) (m : Mv) (h : ∀ r ∈ rs, 1 ≤ r.2) : flatR (push rs m) = flatR rs ++ [m] ∧ (∀ r ∈ push rs m, 1 ≤ r.2 ∧ (r.1 = m ∨ ∃ q ∈ rs, r.1 = q.1)) ∧ (push rs m).length ≤ rs.length + 1 := by
  rcases List.eq_nil_or_concat rs with rfl | ⟨rs, ⟨l, n⟩, rfl⟩
  · exact ⟨rfl, fun r hr => by rw [push_nil] at hr; rw [List.mem_singleton.mp hr]; exact ⟨Nat.le_refl 1, .inl rfl⟩, Nat.le_refl 1⟩
  · rw [List.concat_eq_append] at *
    by_cases c : l = m
    · subst c
      rw [push_same]
      refine ⟨?_, fun r hr => ?_, by simp⟩
      · unfold flatR
        rw [List.map_append, List.flatten_append, List.map_append, List.flatten_append]
        simp [List.replicate_succ']
      · rcases List.mem_append.mp hr with hr | hr
        · exact ⟨h r (List.mem_append_left _ hr), .inr ⟨r, List.mem_append_left _ hr, rfl⟩⟩
        · rw [List.mem_singleton.mp hr]
          exact ⟨Nat.succ_le_succ (Nat.zero_le _), .inl rfl⟩
    · rw [push_other _ _ c]
      refine ⟨?_, fun r hr => ?_, by simp⟩
      · unfold flatR
        rw [List.map_append, List.flatten_append]
        rfl
      · rcases List.mem_append.mp hr with hr | hr
        · exact ⟨h r hr, .inr ⟨r, hr, rfl⟩⟩
        · rw [List.mem_singleton.mp hr]
          exact ⟨Nat.le_refl 1, .inl rfl⟩
theorem grp_facts (ms : List Mv) : flatR (grp ms) = ms ∧ (∀ r ∈ grp ms, 1 ≤ r.2 ∧ r.1 ∈ ms) ∧ (grp ms).length ≤ ms.length := by
  have key : ∀ i : Nat, flatR (grp (ms.take i)) = ms.take i ∧ (∀ r ∈ grp (ms.take i), 1 ≤ r.2 ∧ r.1 ∈ ms.take i) ∧ (grp (ms.take i)).length ≤ (ms.take i).length := by
    intro i
    induction i with
    | zero => exact ⟨by simp [grp, flatR], by simp [grp], by simp [grp]⟩
    | succ i ih =>
      cases e : ms[i]? with
      | none =>
        have : ms.take (i + 1) = ms.take i := by rw [List.take_add_one, e]; simp
        rw [this]
        exact ih
      | some m =>
        rw [take_snocB e, grp_snoc]
        obtain ⟨a, b, c⟩ := ih
        obtain ⟨a2, b2, c2⟩ := push_facts (grp (ms.take i)) m fun r hr => (b r hr).1
        refine ⟨by rw [a2, a], fun r hr => ⟨(b2 r hr).1, ?_⟩, by rw [List.length_append]; simp only [List.length_cons, List.length_nil]; omega⟩
        rcases (b2 r hr).2 with rfl | ⟨q, hq, e⟩
        · simp
        · rw [e]
          exact List.mem_append_left _ (b q hq).2
  have := key ms.length
  rw [List.take_length] at this
  exact this
theorem rep_one (n : Nat) (x : AV) : (List.replicate n [x]).flatten = List.replicate n x := by
  induction n with
  | zero => rfl
  | succ n ih => rw [List.replicate_succ, List.flatten_cons, ih, List.replicate_succ]; rfl
/-- a run as it stands in a log -/
def rnV (r : Mv × Nat) : AV := if r.2 = 1 then mV r.1 else .tup [.str "times", .int (r.2 : Int), .tup [mV r.1]]
def rpV (r : Mv × Nat) : AV := .tup [mV r.1, .int (r.2 : Int)]
theorem rnV_facts {r : Mv × Nat} (h : 1 ≤ r.2) (h30 : r.2 ≤ 10 ^ 9) (o : okM r.1) : gdI 3 (rnV r) ∧ wrI 3 (rnV r) = 1 ∧ cntI 3 (rnV r) = r.2 ∧ outI 3 (rnV r) = List.replicate r.2 (mV r.1) := by
  obtain ⟨m, n⟩ := r
  have h : 1 ≤ n := h
  have h30 : n ≤ 10 ^ 9 := h30
  have o : okM m := o
  unfold rnV
  by_cases c : n = 1
  · subst c
    rw [if_pos rfl]
    exact ⟨.inl ⟨m, rfl, o⟩, rfl, rfl, rfl⟩
  · rw [if_neg c]
    obtain ⟨p1, p2, p3, p4⟩ := out_plain (xs := [mV m]) (fun y hy => by rw [List.mem_singleton.mp hy]; exact ⟨m, rfl, o⟩) 2
    refine ⟨.inr ⟨n, [mV m], rfl, by omega, by omega, by simp, p2⟩, p3, ?_, ?_⟩
    · show (n : Int) * cnt 3 (.tup [mV m]) = n
      have p4 : cnt 3 (.tup [mV m]) = ((1 : Nat) : Int) := p4
      rw [p4]
      omega
    · show (List.replicate (n : Int).toNat (outL 3 (.tup [mV m]))).flatten = List.replicate n (mV m)
      have p1 : outL 3 (.tup [mV m]) = [mV m] := p1
      rw [p1, Int.toNat_natCast, rep_one]
/-- the log of the runs -/
theorem log_runs {rs : List (Mv × Nat)} (h : ∀ r ∈ rs, 1 ≤ r.2 ∧ r.2 ≤ 10 ^ 9 ∧ okM r.1) : gd 4 (.tup (rs.map rnV)) ∧ wr 4 (.tup (rs.map rnV)) = rs.length ∧ cnt 4 (.tup (rs.map rnV)) = (flatR rs).length ∧ outL 4 (.tup (rs.map rnV)) = (flatR rs).map mV := by
  refine ⟨gd_items.mpr fun y hy => ?_, ?_, ?_, ?_⟩
  · obtain ⟨r, hr, rfl⟩ := List.mem_map.mp hy
    exact (rnV_facts (h r hr).1 (h r hr).2.1 (h r hr).2.2).1
  · rw [wr_sum]
    induction rs with
    | nil => rfl
    | cons r rs ih =>
      have := (rnV_facts (h r List.mem_cons_self).1 (h r List.mem_cons_self).2.1 (h r List.mem_cons_self).2.2).2.1
      rw [List.map_cons, List.map_cons, List.sum_cons, this, ih fun q hq => h q (List.mem_cons_of_mem _ hq), List.length_cons]
      omega
  · rw [cnt_tup]
    induction rs with
    | nil => rfl
    | cons r rs ih =>
      have := (rnV_facts (h r List.mem_cons_self).1 (h r List.mem_cons_self).2.1 (h r List.mem_cons_self).2.2).2.2.1
      have i := ih fun q hq => h q (List.mem_cons_of_mem _ hq)
      unfold flatR at i ⊢
      rw [List.map_cons, List.map_cons, List.sum_cons, this, i, List.map_cons, List.flatten_cons, List.length_append, List.length_replicate]
      omega
  · rw [outL_tup]
    induction rs with
    | nil => rfl
    | cons r rs ih =>
      have := (rnV_facts (h r List.mem_cons_self).1 (h r List.mem_cons_self).2.1 (h r List.mem_cons_self).2.2).2.2.2
      have i := ih fun q hq => h q (List.mem_cons_of_mem _ hq)
      unfold flatR at i ⊢
      rw [List.map_cons, List.map_cons, List.flatten_cons, this, i, List.map_cons, List.flatten_cons, List.map_append, List.map_replicate]
theorem ixN_m1 (n : Nat) : ixN (n + 1) (-1) = some n := by
  unfold ixN
  rw [if_neg (by decide), if_pos (by omega)]
  congr 1
  omega
theorem atI_m1 (xs : List AV) (y : AV) : atI (xs ++ [y]) (-1) = some y := by
  unfold atI
  rw [List.length_append, List.length_singleton, ixN_m1]
  simp
theorem eqv_mV {l m : Mv} : mV l = mV m ↔ l = m := ⟨mV_inj, fun e => by rw [e]⟩
/-- a tuple of built moves -/
def Moves (x : AV) (ms : List Mv) : Prop := x = .tup (ms.map mV) ∧ ∀ m ∈ ms, okM m
theorem moves_of : ∀ {xs : List AV}, (∀ y ∈ xs, isB y) → ∃ ms, Moves (.tup xs) ms
  | [], _ => ⟨[], rfl, fun m hm => by cases hm⟩
  | x :: xs, h => by
    obtain ⟨m, rfl, o⟩ := h x List.mem_cons_self
    obtain ⟨ms, e, os⟩ := moves_of (xs := xs) fun y hy => h y (List.mem_cons_of_mem _ hy)
    refine ⟨m :: ms, by rw [AV.tup.inj e]; rfl, fun q hq => ?_⟩
    rcases List.mem_cons.mp hq with rfl | hq
    · exact o
    · exact os q hq
theorem Moves.isB {xs : List AV} {ms : List Mv} (h : Moves (.tup xs) ms) : ∀ y ∈ xs, isB y := fun y hy => by
  rw [AV.tup.inj h.1] at hy
  obtain ⟨m, hm, rfl⟩ := List.mem_map.mp hy
  exact ⟨m, rfl, h.2 m hm⟩
section
variable {P : Program} {w : World} {K : PySem.W.Frag} {mg : Str → Option Value} {base : Heap} {CH CS CR C : Addr}
open Classical in
def spYAsLog (K : PySem.W.Frag) (EL EM : Addr) : ASpX := fun zs η Q AE => ∃ (h N : Nat) (Z : Int) (x : AV), zs = [x] ∧ N ≤ 1000000 ∧ MT K h Z N η x ∧ (∀ ms, Moves x ms → (grp ms).length ≤ 200 → Q (.tup ((grp ms).map rnV)) η) ∧
  (∀ ms, Moves x ms → 200 < (grp ms).length → AE (EM, [("limit", .int 200)]) η) ∧ ((¬ ∃ ms, Moves x ms) → AE (EL, []) η)
open Classical in
theorem Y_as_log (B : Bi mg) {E_BadLog E_TooMany : Addr} {t1 t2 : Tok} (c_MOST_WRITTEN : mg "MOST_WRITTEN" = some (.int 200 t1)) (c_TIMES : mg "TIMES" = some (.str "times" t2)) (T_BadLog : ErrC K E_BadLog) (g_BadLog : mg "BadLog" = some (.ref E_BadLog)) (T_TooMany : ErrF P w K mg base "TooMany" E_TooMany "limit") (R_as_log : Raw K mg "as_log" s_as_log) (D_is_built_move : XDef P w K mg base 4 "is_built_move" ["thing"] (spZBuilt K)) :
    XDefX P w K mg base 5 "as_log" ["moves"] (spYAsLog K E_BadLog E_TooMany) := by
  refine XDefX.of R_as_log (N := N_as_log) (ps := ["moves"]) sc_as_log (fun _ _ _ _ _ _ us hl => match us, hl with | [_], _ => rfl) ?_ fun f cdv A outer s H E hr tk po => ?_
  · rintro zs η Q AE ⟨h, N, Z, x, rfl, _⟩
    rfl
  have hu := hu_of hr
  refine ⟨_, fun AW => (xss_cons (xs_if (XW.xt (xw_or (xt_not (xt_val (xe_callB (xc_isi rfl) (by rfl) B.isinstance (by decide +kernel) (xa_cons (xv 0) (xa_cons (xe_bltn (n := "tuple") (by rfl) B.tuple (by decide +kernel)) xa_nil))))) (xw_or1 (xt_not (xt_val (xe_callB (xc_all rfl rfl) (by rfl) B.all (by decide +kernel) (xa_cons (xe_lc (own := [("move", 1)]) rfl sc_as_log.nd (xi_tup rfl (xv 0)) (blkOk_by (own := [("move", 1)]) (N := N_as_log) (sc := defScope s_as_log) (by decide +kernel)) (fun _ _ _ _ _ => (xgc_name (i := 1) sc_as_log.nd rfl (Or.inl rfl))) (fun _ _ _ _ _ => xts_nil) (fun _ _ _ _ _ => (xe_callD rfl D_is_built_move (hr.mono (by decide)) rfl (xa_cons (xv 1) xa_nil)))) xa_nil)))))))
    (xss_one (xs_raise0 rfl rfl tk T_BadLog g_BadLog rfl))
    xss_nil)
  (xss_cons (xs_set (i := 2) sc_as_log.nd rfl (Or.inl rfl) (xe_lst xa_nil))
  (xss_cons (xs_for po rfl (xi_tup rfl (xv 0)) (xg_name (i := 1) sc_as_log.nd rfl (Or.inl rfl))
    (xss_one (xs_if (XW.xt (xw_and (xt_cmpR (xo_neNil rfl hr.units) (xv 2) (xe_lst xa_nil) (nomark _)) (xw_and1 (xt_cmpR (xu_eq rfl hr.units) (xe_ix (xu_ix rfl) (xe_ix (xu_ix rfl) (xv 2) (xe_un xu_neg xe_int) (fun _ _ => rfl)) xe_int (fun _ _ => rfl)) (xv 1) (nomark _)))))
        (xss_one (xs_asg (xe_tup (xa_cons (xv 1) (xa_cons (xe_op (xu_add rfl) (xe_ix (xu_ix rfl) (xe_ix (xu_ix rfl) (xv 2) (xe_un xu_neg xe_int) (fun _ _ => rfl)) xe_int (fun _ _ => rfl)) xe_int) xa_nil))) (xg_sub (xv 2) (xe_un xu_neg xe_int) xset_list)))
        (xss_one (xs_expr (xe_bm rfl PySem.F.plainAttrs_list PySem.F.slot_list_append PySem.F.type_list_append xmt_append (xv 2) (xa_cons (xe_tup (xa_cons (xv 1) (xa_cons xe_int xa_nil))) xa_nil)))))))
  (xss_cons (xs_if (xt_cmpR xo_gt (xe_callB (xc_len rfl) (by rfl) B.len (by decide +kernel) (xa_cons (xv 2) xa_nil)) (xe_globI rfl c_MOST_WRITTEN) (nomark _))
    (xss_one (xs_raise1 rfl rfl tk T_TooMany (hr.mono (by decide)) (xe_globI rfl c_MOST_WRITTEN) rfl))
    xss_nil)
  (xss_one (xs_ret (xe_callTy (xc_tup rfl) (by rfl) B.tuple (by decide +kernel) (xa_cons (xe_lc (own := [("move", 1), ("many", 3)]) rfl sc_as_log.nd (xi_list rfl (xv 2)) (blkOk_by (own := [("move", 1), ("many", 3)]) (N := N_as_log) (sc := defScope s_as_log) (by decide +kernel)) (fun _ _ _ _ _ => (xgc_tup (n := 2) rfl rfl (xgsc_cons (xgc_name (i := 1) sc_as_log.nd rfl (Or.inl rfl)) (xgsc_cons (xgc_name (i := 3) sc_as_log.nd rfl (Or.inl rfl)) xgsc_nil)))) (fun _ _ _ _ _ => xts_nil) (fun _ _ _ _ _ => (xe_ifExp (xt_cmpR (xu_eq rfl hr.units) (xv 3) xe_int (nomark _)) (xv 1) (xe_tup (xa_cons (xe_globS rfl c_TIMES) (xa_cons (xv 3) (xa_cons (xe_tup (xa_cons (xv 1) xa_nil)) xa_nil))))))) xa_nil)))))))), ?_⟩
  rintro zs η Q AE ⟨h, N, Z, x, rfl, hN, mt, k1, k2, k3⟩
  walk_at "cz*"
  refine s_isTup mt ?_
  cases it : isTup x with
  | false =>
    walk_at "cz*"
    exact .same (k3 fun ⟨ms, e, _⟩ => notTup it _ e)
  | true =>
    obtain ⟨zs, rfl⟩ := tupOf it
    obtain ⟨mz, lz⟩ := mt.in
    walk_at "cz*"
    refine lc_map zs (fun y => y) (fun y => .bl (decide (isB y))) (List.map_id' _).symm (by omega) trivial ?_ fun n hn => ?_
    · intro y my Add hA
      walk_at "cz*"
      refine ⟨h, N, Z, y, rfl, hN, mz y my, fun b hb => ?_⟩
      have : b = decide (isB y) := by
        cases b with
        | true => exact (decide_eq_true (hb.mp rfl)).symm
        | false => exact (decide_eq_false fun q => by cases hb.mpr q).symm
      rw [this]
      exact hA
    walk_at "cz*"
    have kp1 : Kept η (pt η n (.lst (zs.map fun y => .bl (decide (isB y))))) := Kept.put .refl hn
    generalize pt η n (.lst (zs.map fun y => .bl (decide (isB y)))) = η1 at kp1
    cases ca : zs.all fun y => decide (isB y) with
    | false =>
      walk_at "cz*"
      refine .sub kp1 (k3 fun ⟨ms, hm⟩ => ?_)
      have : (zs.all fun y => decide (isB y)) = true := List.all_eq_true.mpr fun y hy => decide_eq_true (hm.isB y hy)
      rw [ca] at this
      cases this
    | true =>
    have allB : ∀ y ∈ zs, isB y := fun y hy => of_decide_eq_true (List.all_eq_true.mp ca y hy)
    obtain ⟨ms, hms⟩ := moves_of allB
    have ez := AV.tup.inj hms.1
    subst ez
    rw [List.length_map] at lz
    walk_at "cz*"
    refine s_mkL (by simp) fun q hq => ?_
    have hq0 := kp1.none hq
    walk_at "cz*"
    refine for_map ms mV rfl (fun i ρ' η' => ∃ v1 v3 : Option AV, Kept η η' ∧ η' q = some (.lst ((grp (ms.take i)).map rpV)) ∧ ρ' = [some (.tup (ms.map mV)), v1, some (.rf q), v3]) ⟨none, none, kp1.put hq0, pt_same, rfl⟩ (fun _ _ _ _ _ => trivial) ?_ ?_
    · rintro i ρ' η' m hm ⟨v1, v3, kp, eq, rfl⟩
      obtain ⟨g1, g2, g3⟩ := grp_facts (ms.take i)
      have lti := List.length_take_le i ms
      have lmi := (List.getElem?_eq_some_iff.mp hm).1
      show agName 1 (mV m) _ _ _
      walk_at "cz*"
      refine s_mkL (by simp) fun r hr => ?_
      have kr := kp.put (o := .lst []) (kp.none hr)
      have nr : q ≠ r := by rintro rfl; rw [eq] at hr; cases hr
      have er : (pt η' r (.lst [])) q = some (.lst ((grp (ms.take i)).map rpV)) := (pt_ne nr).trans eq
      refine s_eqNil2 er pt_same ?_
      generalize pt η' r (.lst []) = η2 at kr er
      rw [take_snocB hm, grp_snoc]
      generalize grp (ms.take i) = G at er g1 g2 g3
      rcases List.eq_nil_or_concat G with rfl | ⟨G, ⟨l, n⟩, rfl⟩
      · refine ⟨false, rfl, ?_⟩
        walk_at "cz*"
        refine s_append er (by simp) ?_
        walk_at "cz*"
        exact ⟨_, _, kr.put hq0, pt_same, rfl⟩
      rw [List.concat_eq_append] at *
      refine ⟨true, by simp, ?_⟩
      rw [List.map_append, List.map_singleton] at er
      walk_at "cz*"
      refine s_ixL (lo_rf er) (atI_m1 _ _) ?_
      unfold rpV
      walk_at "cz*"
      refine s_eqT (nmd_mV l) (nmd_mV m) (eqv_mV (l := l) (m := m)) ?_
      refine ⟨_, rfl, ?_⟩
      by_cases c : l = m
      · subst c
        rw [push_same]
        refine ite_yes (decide_eq_true rfl) ?_
        walk_at "cz*"
        refine s_ixL (lo_rf er) (atI_m1 _ _) ?_
        unfold rpV
        walk_at "cz*"
        refine s_setL er (by rw [List.length_append, List.length_singleton]; exact ixN_m1 _) ?_
        refine ⟨_, _, kr.put hq0, ?_, rfl⟩
        rw [pt_same, List.map_append, List.length_map, List.set_append]
        simp [rpV]
      · rw [push_other _ _ c]
        refine ite_no (decide_eq_false c) ?_
        walk_at "cz*"
        refine s_append er ?_ ?_
        · simp only [List.length_append, List.length_map, List.length_cons, List.length_nil] at g3 ⊢
          omega
        walk_at "cz*"
        refine ⟨_, _, kr.put hq0, ?_, rfl⟩
        rw [pt_same, List.map_append, List.map_append]
        rfl
    · rintro ρ' η' ⟨v1, v3, kp, eq, rfl⟩
      rw [List.take_length] at eq
      walk_at "cz*"
      rw [List.length_map]
      obtain ⟨g1, g2, g3⟩ := grp_facts ms
      refine ite_dec (fun c => ?_) (fun c => ?_)
      · walk_at "cz*"
        exact .sub kp (k2 ms hms (by omega))
      walk_at "cz*"
      refine ⟨_, lo_rf eq, ?_⟩
      refine lc_map (grp ms) rpV rnV rfl (by omega) (lo_rf eq) ?_ fun r hr => ?_
      · rintro ⟨m, n⟩ hy Add hA
        unfold rpV
        walk_at "cz*"
        by_cases c1 : n = 1
        · subst c1
          refine ite_yes rfl ?_
          walk_at "cz*"
          exact hA
        · refine ite_no (decide_eq_false (by omega)) ?_
          walk_at "cz*"
          have e : rnV (m, n) = .tup [.str "times", .int (n : Int), .tup [mV m]] := by
            unfold rnV
            rw [if_neg c1]
          rw [e] at hA
          exact hA
      walk_at "cz*"
      exact .sub (kp.put (kp.none hr)) (k1 ms hms (by omega))
end
end Law

namespace Law
open PySem L2 MyB MyR MyD MyC Ab
local macro_rules | `(tactic| walk_at "kp") => `(tactic| first | exact Kept.refl | (refine' Kept.put ?kpa ?kpb; (case kpb => (walk_at "nn")); (case kpa => (walk_at "kp"))) | (refine' Kept.back ?kpa ?kpb; (case kpb => assumption); (case kpa => (walk_at "kp"))))
local macro_rules | `(tactic| walk_at "nn") => `(tactic| first | assumption | (refine' Kept.none ?nna ?nnb; (case nnb => assumption); (case nna => (walk_at "kp"))))
local macro_rules | `(tactic| walk_at "en") => `(tactic| first | assumption | exact pt_same | ((repeat rw [pt_ne (by assumption)]); first | assumption | exact pt_same))
local macro_rules | `(tactic| walk_at "lo") => `(tactic| first | assumption | exact lo_rf (by walk_at "en") | exact Or.inr rfl)
local macro_rules | `(tactic| walk_at "nu") => `(tactic| with_unfolding_all (first | assumption | decide | exact ⟨by decide, by decide⟩ | exact .inr ⟨by decide, by decide⟩ | exact ⟨by decide, by decide, by decide⟩ | exact ⟨by omega, by omega⟩ | exact .inl ⟨by omega, by omega⟩ | exact .inr ⟨by omega, by omega⟩))
local macro_rules | `(tactic| walk_at "ad") => `(tactic| with_reducible (first
  | refine s_seq ?_ | refine s_asg ?_ | refine s_tryAs ?_ | refine s_tryOnly ?_ | refine s_raise ?_ | refine s_raise1 ?_ | refine s_callX ?_ | refine s_xf ?_ | refine s_op ?_ | refine s_un ?_
  | (refine' s_var ?rdh ?_; (case rdh => (with_unfolding_all rfl)))
  | refine s_c ?_ | refine s_add ?_ | refine s_II ?_ | refine s_IB ?_ | refine s_lt ?_ | refine s_U ?_ | refine s_eqI ?_ | refine s_neI ?_ | refine s_eqB ?_ | refine s_neB ?_ | refine s_eqX ?_ | refine s_neX ?_
  | refine s_isNn ?_ | refine s_isNi ?_ | refine s_isNt ?_ | refine s_isNr ?_ | refine s_isNb ?_ | refine s_ntNn ?_ | refine s_ntNi ?_ | refine s_ntNt ?_ | refine s_ntNr ?_
  | refine s_test ?_ | refine s_not ?_ | refine s_and ?_ | refine s_or ?_ | refine s_yes ?_ | refine s_bl ?_
  | refine s_andV ?_ | refine s_orV ?_ | refine s_notV ?_ | refine s_chain ?_ | refine s_if ?_ | refine s_next ?_ | refine s_brk ?_ | refine s_cnt ?_ | refine s_ifS ?_
  | refine s_ret ?_ | refine s_retN ?_ | refine s_drop ?_ | refine s_name ?_ | refine s_sub ?_ | refine s_gCons ?_ | refine s_gNil ?_
  | refine s_cons ?_ | refine s_nil ?_ | refine s_cb ?_ | refine s_call ?_ | refine s_tup ?_ | refine s_lst ?_
  | refine s_mkT2 ?_ | refine s_mkT3 ?_ | refine s_mkT1 ?_ | refine s_mkT0 ?_ | refine s_mkT4 ?_ | refine s_mkT5 ?_
  | refine s_par ?_ | refine s_par3 ?_ | refine s_par2 ?_ | refine s_par33 ?_ | refine s_iRng1 ?_ | refine s_iRng2 ?_ | refine s_for ?_ | refine s_iList ?_ | refine s_iTup ?_ | refine s_theTup ?_ | refine s_lc ?_ | refine s_bm ?_
  | refine s_sl ?_ | refine s_noPart ?_ | refine s_part ?_ | refine s_abs ?_ | refine s_int ?_ | refine s_intB ?_ | refine s_max ?_ | refine s_min ?_ | refine s_max3 ?_ | refine s_theInt ?_ | refine s_lenT ?_ | refine s_tupT ?_ | refine s_slT3 ?_ | refine s_slT ?_ | refine s_dget ?_ | refine s_dget2 ?_ | refine s_din ?_ | refine s_iZip ?_ | refine s_iEnum ?_ | refine s_iEnumT ?_ | refine s_sortIt ?_ | refine s_zipT ?_ | refine s_sumM ?_ | refine s_anyM ?_ | refine s_allM ?_ | refine s_dc ?_ | refine s_iKeys ?_ | refine s_listT' ?_
  | refine s_sumT ?_
  | (refine' s_gTup ?rdi ?_; (case rdi => (with_unfolding_all rfl)))
  | (refine' s_gLst ?rdh ?rdi ?_; (case rdh => (with_unfolding_all (walk_at "lo"))); (case rdi => (with_unfolding_all rfl)))
  | (refine' s_ixT ?rdi ?_; (case rdi => (with_unfolding_all rfl)))
  | (refine' s_ixL ?rdh ?rdi ?_; (case rdh => (with_unfolding_all (walk_at "lo"))); (case rdi => (with_unfolding_all rfl)))
  | (refine' s_setL ?rdh ?rdi ?_; (case rdh => (with_unfolding_all (walk_at "en"))); (case rdi => (with_unfolding_all rfl)))
  | (refine' s_lenL ?rdh ?_; (case rdh => (with_unfolding_all (walk_at "lo"))))
  | (refine' s_all ?rdh ?_; (case rdh => (with_unfolding_all (walk_at "lo"))))
  | (refine' s_any ?rdh ?_; (case rdh => (with_unfolding_all (walk_at "lo"))))
  | (refine' s_sum ?rdh ?_; (case rdh => (with_unfolding_all (walk_at "lo"))))
  | (refine' s_listL' ?rdh ?_; (case rdh => (with_unfolding_all (walk_at "lo"))))
  | (refine' s_tupL ?rdh ?_; (case rdh => (with_unfolding_all (walk_at "lo"))))
  | (refine' And.intro (s_isL ?rdh) ?_; (case rdh => (with_unfolding_all (walk_at "en"))))
  | (refine' s_IC ?rdh ?_; (case rdh => (walk_at "nu")))
  | (refine' s_mul ?rdh ?_; (case rdh => (walk_at "nu")))
  | (refine' s_div ?rdh ?_; (case rdh => (walk_at "nu")))
  | (refine' s_floors ?rdh ?_; (case rdh => assumption)) | (refine' s_room ?rdh ?_; (case rdh => assumption))
  | (refine' s_house ?rdh ?_; (case rdh => assumption)) | (refine' s_lift ?rdh ?_; (case rdh => assumption)) | (refine' s_grps ?rdh ?_; (case rdh => assumption))
  | refine s_eqG ?_ | refine s_neG ?_ | refine s_eqN ?_ | refine s_neN ?_
  | (refine' s_aug ?rdh ?_; (case rdh => (with_unfolding_all rfl)))))
local macro_rules | `(tactic| walk_at "ad*") => `(tactic| (repeat (walk_at "ad")))

local macro_rules | `(tactic| walk_at "az") => `(tactic| first | walk_at "ad" | with_reducible (first | refine iteF ?_ | refine iteT ?_ | refine ite_nT ?_ | refine ite_nF ?_ | (refine' s_rngJ ?rdh ?_; (case rdh => omega)) | (refine' s_rngJ2 ?rdh ?_; (case rdh => omega)) | refine s_isT ?_ | refine s_notT ?_ | refine s_isF ?_ | refine s_notF ?_ | refine s_isi_non_int ?_ | refine s_isi_non_bool ?_ | refine s_isi_non_tuple ?_ | refine s_isi_non_list ?_ | refine s_isi_non_str ?_ | refine s_isi_bl_int ?_ | refine s_isi_bl_bool ?_ | refine s_isi_bl_tuple ?_ | refine s_isi_bl_list ?_ | refine s_isi_bl_str ?_ | refine s_isi_int_int ?_ | refine s_isi_int_bool ?_ | refine s_isi_int_tuple ?_ | refine s_isi_int_list ?_ | refine s_isi_int_str ?_ | refine s_isi_str_int ?_ | refine s_isi_str_bool ?_ | refine s_isi_str_tuple ?_ | refine s_isi_str_list ?_ | refine s_isi_str_str ?_ | refine s_isi_tup_int ?_ | refine s_isi_tup_bool ?_ | refine s_isi_tup_tuple ?_ | refine s_isi_tup_list ?_ | refine s_isi_tup_str ?_))
local macro_rules | `(tactic| walk_at "az*") => `(tactic| (repeat (walk_at "az")))
local macro_rules | `(tactic| walk_at "cl") => `(tactic| ((repeat refine Exists.intro _ ?_); refine And.intro rfl ?_; (repeat (refine And.intro (by first | assumption | omega | exact lo_rf (by assumption)) ?_))))

local macro_rules | `(tactic| walk_at "bz") => `(tactic| first | (with_reducible (refine' s_nameE ?rde ?_; (case rde => ((try simp only [List.set_cons_succ, List.set_cons_zero]); exact rfl)))) | (with_reducible (refine' s_par2E ?rde ?_; (case rde => ((try simp only [List.set_cons_succ, List.set_cons_zero]); exact rfl)))) | walk_at "az")
local macro_rules | `(tactic| walk_at "bz*") => `(tactic| (repeat (walk_at "bz")))

local macro_rules | `(tactic| walk_at "cz") => `(tactic| first | with_reducible (first | refine s_fldS ?_ | refine s_makeN ?_ | refine s_callN ?_ | refine s_stepL ?_ | refine s_revT ?_ | refine s_methN ?_ | refine s_methX ?_ | refine s_bm0 ?_ | refine s_listIt ?_) | walk_at "bz")
local macro_rules | `(tactic| walk_at "cz*") => `(tactic| (repeat (walk_at "cz")))

/-! ### the law's moves, and its own runs -/
def MvsOk (ms : List Mv) : Prop := ∀ m ∈ ms, okM m ∧ smM m
theorem MvsOk.app {ms ns : List Mv} (a : MvsOk ms) (b : MvsOk ns) : MvsOk (ms ++ ns) := fun m hm => by
  rcases List.mem_append.mp hm with hm | hm
  · exact a m hm
  · exact b m hm
theorem MvsOk.rep {m : Mv} (a : okM m ∧ smM m) (n : Nat) : MvsOk (List.replicate n m) := fun x hx => by
  rw [(List.mem_replicate.mp hx).2]
  exact a
theorem mvs_of : ∀ {xs : List AV}, (∀ y ∈ xs, ∃ m, y = mV m ∧ okM m ∧ smM m) → ∃ ms, xs = ms.map mV ∧ MvsOk ms
  | [], _ => ⟨[], rfl, fun m hm => by cases hm⟩
  | x :: xs, h => by
    obtain ⟨m, rfl, o⟩ := h x List.mem_cons_self
    obtain ⟨ms, rfl, os⟩ := mvs_of (xs := xs) fun y hy => h y (List.mem_cons_of_mem _ hy)
    refine ⟨m :: ms, rfl, fun q hq => ?_⟩
    rcases List.mem_cons.mp hq with rfl | hq
    · exact o
    · exact os q hq
section
variable {P : Program} {w : World} {K : PySem.W.Frag} {mg : Str → Option Value} {base : Heap} {CH CS CR C : Addr}
def spLMoves : ASp := fun xs η Q => ∃ (d c : Nat), xs = [.rf d] ∧ Hand η d c ∧ ∀ (ms : List Mv) (η' : Eta), MvsOk ms → ms.length ≤ 5000 → Hand η' d c → But d η η' → Q (.tup (ms.map mV)) η'
theorem D__law_moves (B : Bi mg) (R__law_moves : Raw K mg "_law_moves" s__law_moves) (D__law_draw : XDef P w K mg base 2 "_law_draw" ["_law_hand_here", "_law_many"] spDraw) (D__law_any_move : XDef P w K mg base 3 "_law_any_move" ["_law_hand_here"] spAnyMove) :
    XDef P w K mg base 4 "_law_moves" ["_law_hand_here"] spLMoves := by
  refine XDef.of R__law_moves (N := N__law_moves) (ps := ["_law_hand_here"]) sc__law_moves (fun _ _ _ _ _ _ us hl => match us, hl with | [_], _ => rfl) ?_ fun f cdv A outer s H E hr => ⟨_, (xss_cons (xs_set (i := 1) sc__law_moves.nd rfl (Or.inl rfl) (xe_tup xa_nil))
  (xss_cons (xs_for PassesOwn.never rfl (xi_range1 (by rfl) B.range (xa_cons (xe_callD rfl D__law_draw (hr.mono (by decide)) rfl (xa_cons (xv 0) (xa_cons xe_int xa_nil))) xa_nil)) (xg_name (i := 2) sc__law_moves.nd rfl (Or.inl rfl))
    (xss_one (xs_set (i := 1) sc__law_moves.nd rfl (Or.inl rfl) (xe_op (xu_add rfl) (xv 1) (xe_op (xo_repU rfl) (xe_tup (xa_cons (xe_callD rfl D__law_any_move (hr.mono (by decide)) rfl (xa_cons (xv 0) xa_nil)) xa_nil)) (xe_ix (xu_ix rfl) (xe_lst (xa_cons xe_int (xa_cons xe_int (xa_cons xe_int (xa_cons xe_int (xa_cons (xe_op (xu_add rfl) xe_int (xe_callD rfl D__law_draw (hr.mono (by decide)) rfl (xa_cons (xv 0) (xa_cons xe_int xa_nil)))) xa_nil)))))) (xe_callD rfl D__law_draw (hr.mono (by decide)) rfl (xa_cons (xv 0) (xa_cons xe_int xa_nil))) (fun _ _ => rfl)))))))
  (xss_cons (xs_if (xt_cmpR (xu_eq rfl hr.units) (xe_callD rfl D__law_draw (hr.mono (by decide)) rfl (xa_cons (xv 0) (xa_cons xe_int xa_nil))) xe_int (nomark _))
    (xss_cons (xs_setLc (i := 3) (own := [("_law_k", 4)]) rfl sc__law_moves.nd rfl rfl (sw_true rfl rfl rfl (by decide +kernel)) (xi_range1 (by rfl) B.range (xa_cons (xe_op (xu_add rfl) xe_int (xe_callD rfl D__law_draw (hr.mono (by decide)) rfl (xa_cons (xv 0) (xa_cons xe_int xa_nil)))) xa_nil)) (blkOk_by (own := [("_law_k", 4)]) (N := N__law_moves) (sc := defScope s__law_moves) (by decide +kernel)) (fun _ _ _ _ _ => (xgc_name (i := 4) sc__law_moves.nd rfl (Or.inl rfl))) (fun _ _ _ _ _ => xts_nil) (fun _ _ _ _ _ => (xe_tup (xa_cons (xe_ix (xu_ix rfl) (xe_lst (xa_cons xe_int (xa_cons (xe_un xu_neg xe_int) xa_nil))) (xe_op xo_mod (xe_callTy xc_int (by rfl) B.int (by decide +kernel) (xa_cons (xv 4) xa_nil)) xe_int) (fun _ _ => rfl)) (xa_cons (xe_tup xa_nil) xa_nil)))))
      (xss_one (xs_set (i := 1) sc__law_moves.nd rfl (Or.inl rfl) (xe_op (xu_add rfl) (xe_callTy (xc_tup rfl) (by rfl) B.tuple (by decide +kernel) (xa_cons (xv 3) xa_nil)) (xv 1)))))
    xss_nil)
  (xss_one (xs_ret (xv 1)))))), ?_⟩
  · rintro xs η Q ⟨d, c, rfl, _⟩
    rfl
  rintro xs η Q ⟨d, c, rfl, hd, k⟩
  walk_at "cz*"
  refine ⟨d, c, _, rfl, hd, by decide, by decide, fun j η2 j0 j1 h2 b2 => ?_⟩
  walk_at "cz*"
  refine for_rng (fun i ρ' η' => ∃ (ms : List Mv) (v2 : Option AV), Hand η' d c ∧ KB d η η' ∧ MvsOk ms ∧ ms.length ≤ i * 400 ∧ ρ' = [some (.rf d), some (.tup (ms.map mV)), v2, none, none]) ⟨[], none, h2, b2.kb, fun m hm => (by cases hm), by simp, rfl⟩ ?_ ?_
  · rintro i ρ' η' hi ⟨ms, v2, h3, kb3, om, lm, rfl⟩
    walk_at "cz*"
    refine ⟨d, c, rfl, h3, fun m η4 o s h4 b4 => ?_⟩
    walk_at "cz*"
    refine ⟨d, c, _, rfl, h4, by decide, by decide, fun j5 η5 j50 j51 h5 b5 => ?_⟩
    walk_at "cz*"
    refine s_mkL (by simp) fun q hq => ?_
    have qd : q ≠ d := (h5.ne hq).1
    walk_at "cz*"
    refine ⟨d, c, _, rfl, h5.new hq, by decide, by decide, fun j7 η7 j70 j71 h7 b7 => ?_⟩
    have em : η7 q = some (.lst [.int 1, .int 1, .int 2, .int 3, .int (1 + j5)]) := (b7 q qd).trans pt_same
    have kb7 : KB d η η7 := (((kb3.but b4).but b5).put hq).but b7
    obtain ⟨u, hu1, u1, u2⟩ : ∃ u : Int, atI [AV.int 1, AV.int 1, AV.int 2, AV.int 3, AV.int (1 + j5)] j7 = some (.int u) ∧ 1 ≤ u ∧ u ≤ 400 := by
      rcases (show j7 = 0 ∨ j7 = 1 ∨ j7 = 2 ∨ j7 = 3 ∨ j7 = 4 by omega) with rfl | rfl | rfl | rfl | rfl
      · exact ⟨1, rfl, by decide, by decide⟩
      · exact ⟨1, rfl, by decide, by decide⟩
      · exact ⟨2, rfl, by decide, by decide⟩
      · exact ⟨3, rfl, by decide, by decide⟩
      · exact ⟨1 + j5, rfl, by omega, by omega⟩
    refine s_ixL (lo_rf em) hu1 ?_
    walk_at "cz*"
    refine s_repU (by simp) u1 (by simp only [List.length_cons, List.length_nil]; omega) ?_
    rw [rep_one]
    refine s_catT (by rw [List.length_map, List.length_replicate]; omega) ?_
    walk_at "cz*"
    refine ⟨ms ++ List.replicate u.toNat m, some (.int (0 + (i : Int))), h7, kb7, om.app (.rep ⟨o, s⟩ _), ?_, ?_⟩
    · rw [List.length_append, List.length_replicate, Nat.succ_mul]
      omega
    · rw [List.map_append, List.map_replicate]
  · rintro ρ' η' ⟨ms, v2, h3, kb3, om, lm, rfl⟩
    walk_at "cz*"
    refine ⟨d, c, _, rfl, h3, by decide, by decide, fun j4 η4 j40 j41 h4 b4 => ?_⟩
    walk_at "cz*"
    have kb4 := kb3.but b4
    refine ite_dec (fun cj => ?_) (fun cj => ?_)
    · walk_at "cz*"
      refine ⟨d, c, _, rfl, h4, by decide, by decide, fun j5 η5 j50 j51 h5 b5 => ?_⟩
      have kb5 := kb4.but b5
      walk_at "cz*"
      refine lc_any (fun y => ∃ m, y = mV m ∧ okM m ∧ smM m) (List.range (186 + j5).toNat) (fun (i : Nat) => AV.int (0 + (i : Int))) (by rfl) (by rw [List.length_range]; omega) (fun _ _ => trivial) ?_ fun ys n η6 kp hn hy ly => ?_
      · intro i hi η1 k1 Add Nx hA hN
        walk_at "cz*"
        refine s_mkL (by simp) fun r hr => ?_
        walk_at "cz*"
        have kr := k1.put (o := .lst [.int 1, .int (-1)]) (k1.none hr)
        rcases (show (0 + (i : Int)) % 2 = 0 ∨ (0 + (i : Int)) % 2 = 1 by omega) with e | e
        · rw [e]
          refine s_ixL (v := .int 1) (lo_rf pt_same) rfl ?_
          walk_at "cz*"
          exact hA _ _ kr ⟨(1, []), rfl, ⟨.inl rfl, List.Pairwise.nil, fun y hy => by cases hy⟩, Nat.zero_le _, fun y hy => by cases hy⟩
        · rw [e]
          refine s_ixL (v := .int (-1)) (lo_rf pt_same) rfl ?_
          walk_at "cz*"
          exact hA _ _ kr ⟨(-1, []), rfl, ⟨.inr rfl, List.Pairwise.nil, fun y hy => by cases hy⟩, Nat.zero_le _, fun y hy => by cases hy⟩
      obtain ⟨ns, rfl, on⟩ := mvs_of hy
      rw [List.length_map, List.length_range] at ly
      have h6 := h5.kept (kp.put (o := .lst (ns.map mV)) (kp.none hn))
      have kb6 : KB d η (pt η6 n (.lst (ns.map mV))) := kb5.kept (kp.put (kp.none hn))
      walk_at "cz*"
      refine s_catT (by rw [List.length_map, List.length_map]; omega) ?_
      walk_at "cz*"
      rw [← List.map_append]
      exact hand_drop hd h6 kb6 fun η8 h8 b8 => k (ns ++ ms) η8 (on.app om) (by rw [List.length_append]; omega) h8 b8
    · walk_at "cz*"
      exact hand_drop hd h4 kb4 fun η8 h8 b8 => k ms η8 om (by omega) h8 b8
def spLDue : ASp := fun xs η Q => ∃ ms : List Mv, xs = [.tup (ms.map mV)] ∧ ms.length ≤ 1000000 ∧ Q (.tup ((grp ms).map rnV)) η
theorem D__law_due (B : Bi mg) (R__law_due : Raw K mg "_law_due" s__law_due) : XDef P w K mg base 2 "_law_due" ["_law_moves_here"] spLDue := by
  refine XDef.of R__law_due (N := N__law_due) (ps := ["_law_moves_here"]) sc__law_due (fun _ _ _ _ _ _ us hl => match us, hl with | [_], _ => rfl) ?_ fun f cdv A outer s H E hr => ⟨_, (xss_cons (xs_set (i := 1) sc__law_due.nd rfl (Or.inl rfl) (xe_lst xa_nil))
  (xss_cons (xs_set (i := 2) sc__law_due.nd rfl (Or.inl rfl) xe_int)
  (xss_cons (xs_for PassesOwn.never rfl (xi_range1 (by rfl) B.range (xa_cons (xe_callB (xc_len rfl) (by rfl) B.len (by decide +kernel) (xa_cons (xv 0) xa_nil)) xa_nil)) (xg_name (i := 3) sc__law_due.nd rfl (Or.inl rfl))
    (xss_one (xs_if (XW.xt (xw_or (xt_cmpR (xu_eq rfl hr.units) (xe_op (xu_add rfl) (xv 3) xe_int) (xe_callB (xc_len rfl) (by rfl) B.len (by decide +kernel) (xa_cons (xv 0) xa_nil)) (nomark _)) (xw_or1 (xt_cmpR (xu_ne rfl hr.units) (xe_ix (xu_ix rfl) (xv 0) (xe_op (xu_add rfl) (xv 3) xe_int) (fun _ _ => rfl)) (xe_ix (xu_ix rfl) (xv 0) (xv 3) (fun _ _ => rfl)) (nomark _)))))
        (xss_cons (xs_set (i := 4) sc__law_due.nd rfl (Or.inl rfl) (xe_op xo_sub (xe_op (xu_add rfl) (xv 3) xe_int) (xv 2)))
          (xss_cons (xs_expr (xe_bm rfl PySem.F.plainAttrs_list PySem.F.slot_list_append PySem.F.type_list_append xmt_append (xv 1) (xa_cons (xe_ifExp (xt_cmpR (xu_eq rfl hr.units) (xv 4) xe_int (nomark _)) (xe_ix (xu_ix rfl) (xv 0) (xv 3) (fun _ _ => rfl)) (xe_tup (xa_cons xe_str (xa_cons (xv 4) (xa_cons (xe_tup (xa_cons (xe_ix (xu_ix rfl) (xv 0) (xv 3) (fun _ _ => rfl)) xa_nil)) xa_nil))))) xa_nil)))
          (xss_one (xs_set (i := 2) sc__law_due.nd rfl (Or.inl rfl) (xe_op (xu_add rfl) (xv 3) xe_int)))))
        xss_nil)))
  (xss_one (xs_ret (xe_callTy (xc_tup rfl) (by rfl) B.tuple (by decide +kernel) (xa_cons (xv 1) xa_nil))))))), ?_⟩
  · rintro xs η Q ⟨ms, rfl, _⟩
    rfl
  rintro xs η Q ⟨ms, rfl, hl, k⟩
  walk_at "cz*"
  refine s_mkL (by simp) fun q hq => ?_
  walk_at "cz*"
  refine ⟨_, rfl, by omega, by rw [List.length_map]; omega, ?_⟩
  refine for_rng (fun i ρ' η' => ∃ (p : Nat) (found : List (Mv × Nat)) (v3 v4 : Option AV), Kept η η' ∧ η' q = some (.lst (found.map rnV)) ∧ p ≤ i ∧ found.length ≤ i ∧ (∀ m, ms[i]? = some m → grp (ms.take (i + 1)) = found ++ [(m, i + 1 - p)]) ∧ (i = ms.length → found = grp ms) ∧
    ρ' = [some (.tup (ms.map mV)), some (.rf q), some (.int (p : Int)), v3, v4]) ⟨0, [], none, none, Kept.put .refl hq, pt_same, Nat.le_refl _, Nat.le_refl _, fun m hm => ?_, fun e => ?_, rfl⟩ ?_ ?_
  · rw [take_snocB hm, grp_snoc]
    rfl
  · rw [List.length_eq_zero_iff.mp e.symm]
    rfl
  · rintro i ρ' η' hi ⟨p, found, v3, v4, kp, eq, hp, hf, hg, he, rfl⟩
    rw [List.length_map] at hi
    have hi : i < ms.length := by omega
    obtain ⟨m, hm⟩ : ∃ m, ms[i]? = some m := ⟨_, List.getElem?_eq_getElem hi⟩
    have hg := hg m hm
    have am : atI (ms.map mV) (0 + (i : Int)) = some (mV m) := at_nat (by omega) (by rw [show (0 + (i : Int)).toNat = i by omega, List.getElem?_map, hm]; rfl)
    walk_at "cz*"
    refine ite_dec (fun c1 => ?_) (fun c1 => ?_)
    · walk_at "cz*"
      rw [List.length_map] at c1
      have push2 : ∀ m', ms[i + 1]? = some m' → grp (ms.take (i + 1 + 1)) = (found ++ [(m, i + 1 - p)]) ++ [(m', i + 1 + 1 - (i + 1))] := fun m' hm' => by
        rw [take_snocB hm', grp_snoc, hg, push_other _ _ (by rw [List.getElem?_eq_none (by omega)] at hm'; cases hm'), show i + 1 + 1 - (i + 1) = 1 by omega]
      have ek : 0 + (i : Int) + 1 - (p : Int) = ((i + 1 - p : Nat) : Int) := by omega
      have el : (found ++ [(m, i + 1 - p)]).length ≤ i + 1 := by rw [List.length_append, List.length_singleton]; omega
      have ea : i + 1 = ms.length → found ++ [(m, i + 1 - p)] = grp ms := fun e => by
        rw [← hg, e, List.take_length]
      rw [ek]
      by_cases one : i + 1 - p = 1
      · refine ite_yes (decide_eq_true (by omega)) ?_
        walk_at "cz*"
        refine s_ixT am ?_
        walk_at "cz*"
        refine s_append eq (by rw [List.length_map]; omega) ?_
        walk_at "cz*"
        refine ⟨i + 1, found ++ [(m, i + 1 - p)], some (.int (0 + (i : Int))), some (.int ((i + 1 - p : Nat) : Int)), kp.upd hq, ?_, Nat.le_refl _, el, push2, ea, ?_⟩
        · rw [pt_same, List.map_append, List.map_singleton, show rnV (m, i + 1 - p) = mV m from if_pos one]
        · rw [show ((i + 1 : Nat) : Int) = 0 + (i : Int) + 1 by omega]
      · refine ite_no (decide_eq_false (by omega)) ?_
        walk_at "cz*"
        refine s_ixT am ?_
        walk_at "cz*"
        refine s_append eq (by rw [List.length_map]; omega) ?_
        walk_at "cz*"
        refine ⟨i + 1, found ++ [(m, i + 1 - p)], some (.int (0 + (i : Int))), some (.int ((i + 1 - p : Nat) : Int)), kp.upd hq, ?_, Nat.le_refl _, el, push2, ea, ?_⟩
        · rw [pt_same, List.map_append, List.map_singleton, show rnV (m, i + 1 - p) = .tup [.str "times", .int ((i + 1 - p : Nat) : Int), .tup [mV m]] from if_neg one]
        · rw [show ((i + 1 : Nat) : Int) = 0 + (i : Int) + 1 by omega]
    · rw [List.length_map] at c1
      obtain ⟨m2, hm2⟩ : ∃ m2, ms[i + 1]? = some m2 := ⟨_, List.getElem?_eq_getElem (show i + 1 < ms.length by omega)⟩
      have am2 : atI (ms.map mV) (0 + (i : Int) + 1) = some (mV m2) := at_nat (by omega) (by rw [show (0 + (i : Int) + 1).toNat = i + 1 by omega, List.getElem?_map, hm2]; rfl)
      walk_at "cz*"
      refine s_ixT am2 ?_
      walk_at "cz*"
      refine s_ixT am ?_
      walk_at "cz*"
      refine s_neT (nmd_mV m2) (nmd_mV m) (eqv_mV (l := m2) (m := m)) ?_
      walk_at "cz*"
      by_cases same : m2 = m
      · subst same
        refine ite_no (by rw [decide_eq_true rfl]; rfl) ?_
        walk_at "cz*"
        refine ⟨p, found, _, _, kp, eq, by omega, by omega, fun m' hm' => ?_, fun e => by omega, rfl⟩
        rw [hm2] at hm'
        cases hm'
        rw [take_snocB hm2, grp_snoc, hg, push_same, show i + 1 - p + 1 = i + 1 + 1 - p by omega]
      · refine ite_yes (by rw [decide_eq_false same]; rfl) ?_
        walk_at "cz*"
        have push2 : ∀ m', ms[i + 1]? = some m' → grp (ms.take (i + 1 + 1)) = (found ++ [(m, i + 1 - p)]) ++ [(m', i + 1 + 1 - (i + 1))] := fun m' hm' => by
          rw [take_snocB hm', grp_snoc, hg, push_other _ _ (by rw [hm2] at hm'; cases hm'; exact fun z => same z.symm), show i + 1 + 1 - (i + 1) = 1 by omega]
        have ek : 0 + (i : Int) + 1 - (p : Int) = ((i + 1 - p : Nat) : Int) := by omega
        have el : (found ++ [(m, i + 1 - p)]).length ≤ i + 1 := by rw [List.length_append, List.length_singleton]; omega
        have ea : i + 1 = ms.length → found ++ [(m, i + 1 - p)] = grp ms := fun e => by
          rw [← hg, e, List.take_length]
        rw [ek]
        by_cases one : i + 1 - p = 1
        · refine ite_yes (decide_eq_true (by omega)) ?_
          walk_at "cz*"
          refine s_ixT am ?_
          walk_at "cz*"
          refine s_append eq (by rw [List.length_map]; omega) ?_
          walk_at "cz*"
          refine ⟨i + 1, found ++ [(m, i + 1 - p)], some (.int (0 + (i : Int))), some (.int ((i + 1 - p : Nat) : Int)), kp.upd hq, ?_, Nat.le_refl _, el, push2, ea, ?_⟩
          · rw [pt_same, List.map_append, List.map_singleton, show rnV (m, i + 1 - p) = mV m from if_pos one]
          · rw [show ((i + 1 : Nat) : Int) = 0 + (i : Int) + 1 by omega]
        · refine ite_no (decide_eq_false (by omega)) ?_
          walk_at "cz*"
          refine s_ixT am ?_
          walk_at "cz*"
          refine s_append eq (by rw [List.length_map]; omega) ?_
          walk_at "cz*"
          refine ⟨i + 1, found ++ [(m, i + 1 - p)], some (.int (0 + (i : Int))), some (.int ((i + 1 - p : Nat) : Int)), kp.upd hq, ?_, Nat.le_refl _, el, push2, ea, ?_⟩
          · rw [pt_same, List.map_append, List.map_singleton, show rnV (m, i + 1 - p) = .tup [.str "times", .int ((i + 1 - p : Nat) : Int), .tup [mV m]] from if_neg one]
          · rw [show ((i + 1 : Nat) : Int) = 0 + (i : Int) + 1 by omega]
  · rintro ρ' η' ⟨p, found, v3, v4, kp, eq, hp, hf, hg, he, rfl⟩
    rw [List.length_map] at he
    have he := he (by omega)
    subst he
    walk_at "cz*"
    exact .sub kp k
end
end Law

namespace Law
open PySem L2 MyB MyR MyD MyC Ab
local macro_rules | `(tactic| walk_at "kp") => `(tactic| first | exact Kept.refl | (refine' Kept.put ?kpa ?kpb; (case kpb => (walk_at "nn")); (case kpa => (walk_at "kp"))) | (refine' Kept.back ?kpa ?kpb; (case kpb => assumption); (case kpa => (walk_at "kp"))))
local macro_rules | `(tactic| walk_at "nn") => `(tactic| first | assumption | (refine' Kept.none ?nna ?nnb; (case nnb => assumption); (case nna => (walk_at "kp"))))
local macro_rules | `(tactic| walk_at "en") => `(tactic| first | assumption | exact pt_same | ((repeat rw [pt_ne (by assumption)]); first | assumption | exact pt_same))
local macro_rules | `(tactic| walk_at "lo") => `(tactic| first | assumption | exact lo_rf (by walk_at "en") | exact Or.inr rfl)
local macro_rules | `(tactic| walk_at "nu") => `(tactic| with_unfolding_all (first | assumption | decide | exact ⟨by decide, by decide⟩ | exact .inr ⟨by decide, by decide⟩ | exact ⟨by decide, by decide, by decide⟩ | exact ⟨by omega, by omega⟩ | exact .inl ⟨by omega, by omega⟩ | exact .inr ⟨by omega, by omega⟩))
local macro_rules | `(tactic| walk_at "ad") => `(tactic| with_reducible (first
  | refine s_seq ?_ | refine s_asg ?_ | refine s_tryAs ?_ | refine s_tryOnly ?_ | refine s_raise ?_ | refine s_raise1 ?_ | refine s_callX ?_ | refine s_xf ?_ | refine s_op ?_ | refine s_un ?_
  | (refine' s_var ?rdh ?_; (case rdh => (with_unfolding_all rfl)))
  | refine s_c ?_ | refine s_add ?_ | refine s_II ?_ | refine s_IB ?_ | refine s_lt ?_ | refine s_U ?_ | refine s_eqI ?_ | refine s_neI ?_ | refine s_eqB ?_ | refine s_neB ?_ | refine s_eqX ?_ | refine s_neX ?_
  | refine s_isNn ?_ | refine s_isNi ?_ | refine s_isNt ?_ | refine s_isNr ?_ | refine s_isNb ?_ | refine s_ntNn ?_ | refine s_ntNi ?_ | refine s_ntNt ?_ | refine s_ntNr ?_
  | refine s_test ?_ | refine s_not ?_ | refine s_and ?_ | refine s_or ?_ | refine s_yes ?_ | refine s_bl ?_
  | refine s_andV ?_ | refine s_orV ?_ | refine s_notV ?_ | refine s_chain ?_ | refine s_if ?_ | refine s_next ?_ | refine s_brk ?_ | refine s_cnt ?_ | refine s_ifS ?_
  | refine s_ret ?_ | refine s_retN ?_ | refine s_drop ?_ | refine s_name ?_ | refine s_sub ?_ | refine s_gCons ?_ | refine s_gNil ?_
  | refine s_cons ?_ | refine s_nil ?_ | refine s_cb ?_ | refine s_call ?_ | refine s_tup ?_ | refine s_lst ?_
  | refine s_mkT2 ?_ | refine s_mkT3 ?_ | refine s_mkT1 ?_ | refine s_mkT0 ?_ | refine s_mkT4 ?_ | refine s_mkT5 ?_
  | refine s_par ?_ | refine s_par3 ?_ | refine s_par2 ?_ | refine s_par33 ?_ | refine s_iRng1 ?_ | refine s_iRng2 ?_ | refine s_for ?_ | refine s_iList ?_ | refine s_iTup ?_ | refine s_theTup ?_ | refine s_lc ?_ | refine s_bm ?_
  | refine s_sl ?_ | refine s_noPart ?_ | refine s_part ?_ | refine s_abs ?_ | refine s_int ?_ | refine s_intB ?_ | refine s_max ?_ | refine s_min ?_ | refine s_max3 ?_ | refine s_theInt ?_ | refine s_lenT ?_ | refine s_tupT ?_ | refine s_slT3 ?_ | refine s_slT ?_ | refine s_dget ?_ | refine s_dget2 ?_ | refine s_din ?_ | refine s_iZip ?_ | refine s_iEnum ?_ | refine s_iEnumT ?_ | refine s_sortIt ?_ | refine s_zipT ?_ | refine s_sumM ?_ | refine s_anyM ?_ | refine s_allM ?_ | refine s_dc ?_ | refine s_iKeys ?_ | refine s_listT' ?_
  | refine s_sumT ?_
  | (refine' s_gTup ?rdi ?_; (case rdi => (with_unfolding_all rfl)))
  | (refine' s_gLst ?rdh ?rdi ?_; (case rdh => (with_unfolding_all (walk_at "lo"))); (case rdi => (with_unfolding_all rfl)))
  | (refine' s_ixT ?rdi ?_; (case rdi => (with_unfolding_all rfl)))
  | (refine' s_ixL ?rdh ?rdi ?_; (case rdh => (with_unfolding_all (walk_at "lo"))); (case rdi => (with_unfolding_all rfl)))
  | (refine' s_setL ?rdh ?rdi ?_; (case rdh => (with_unfolding_all (walk_at "en"))); (case rdi => (with_unfolding_all rfl)))
  | (refine' s_lenL ?rdh ?_; (case rdh => (with_unfolding_all (walk_at "lo"))))
  | (refine' s_all ?rdh ?_; (case rdh => (with_unfolding_all (walk_at "lo"))))
  | (refine' s_any ?rdh ?_; (case rdh => (with_unfolding_all (walk_at "lo"))))
  | (refine' s_sum ?rdh ?_; (case rdh => (with_unfolding_all (walk_at "lo"))))
  | (refine' s_listL' ?rdh ?_; (case rdh => (with_unfolding_all (walk_at "lo"))))
  | (refine' s_tupL ?rdh ?_; (case rdh => (with_unfolding_all (walk_at "lo"))))
  | (refine' And.intro (s_isL ?rdh) ?_; (case rdh => (with_unfolding_all (walk_at "en"))))
  | (refine' s_IC ?rdh ?_; (case rdh => (walk_at "nu")))
  | (refine' s_mul ?rdh ?_; (case rdh => (walk_at "nu")))
  | (refine' s_div ?rdh ?_; (case rdh => (walk_at "nu")))
  | (refine' s_floors ?rdh ?_; (case rdh => assumption)) | (refine' s_room ?rdh ?_; (case rdh => assumption))
  | (refine' s_house ?rdh ?_; (case rdh => assumption)) | (refine' s_lift ?rdh ?_; (case rdh => assumption)) | (refine' s_grps ?rdh ?_; (case rdh => assumption))
  | refine s_eqG ?_ | refine s_neG ?_ | refine s_eqN ?_ | refine s_neN ?_
  | (refine' s_aug ?rdh ?_; (case rdh => (with_unfolding_all rfl)))))
local macro_rules | `(tactic| walk_at "ad*") => `(tactic| (repeat (walk_at "ad")))

local macro_rules | `(tactic| walk_at "az") => `(tactic| first | walk_at "ad" | with_reducible (first | refine iteF ?_ | refine iteT ?_ | refine ite_nT ?_ | refine ite_nF ?_ | (refine' s_rngJ ?rdh ?_; (case rdh => omega)) | (refine' s_rngJ2 ?rdh ?_; (case rdh => omega)) | refine s_isT ?_ | refine s_notT ?_ | refine s_isF ?_ | refine s_notF ?_ | refine s_isi_non_int ?_ | refine s_isi_non_bool ?_ | refine s_isi_non_tuple ?_ | refine s_isi_non_list ?_ | refine s_isi_non_str ?_ | refine s_isi_bl_int ?_ | refine s_isi_bl_bool ?_ | refine s_isi_bl_tuple ?_ | refine s_isi_bl_list ?_ | refine s_isi_bl_str ?_ | refine s_isi_int_int ?_ | refine s_isi_int_bool ?_ | refine s_isi_int_tuple ?_ | refine s_isi_int_list ?_ | refine s_isi_int_str ?_ | refine s_isi_str_int ?_ | refine s_isi_str_bool ?_ | refine s_isi_str_tuple ?_ | refine s_isi_str_list ?_ | refine s_isi_str_str ?_ | refine s_isi_tup_int ?_ | refine s_isi_tup_bool ?_ | refine s_isi_tup_tuple ?_ | refine s_isi_tup_list ?_ | refine s_isi_tup_str ?_))
local macro_rules | `(tactic| walk_at "az*") => `(tactic| (repeat (walk_at "az")))
local macro_rules | `(tactic| walk_at "cl") => `(tactic| ((repeat refine Exists.intro _ ?_); refine And.intro rfl ?_; (repeat (refine And.intro (by first | assumption | omega | exact lo_rf (by assumption)) ?_))))

local macro_rules | `(tactic| walk_at "bz") => `(tactic| first | (with_reducible (refine' s_nameE ?rde ?_; (case rde => ((try simp only [List.set_cons_succ, List.set_cons_zero]); exact rfl)))) | (with_reducible (refine' s_par2E ?rde ?_; (case rde => ((try simp only [List.set_cons_succ, List.set_cons_zero]); exact rfl)))) | walk_at "az")
local macro_rules | `(tactic| walk_at "bz*") => `(tactic| (repeat (walk_at "bz")))

local macro_rules | `(tactic| walk_at "cz") => `(tactic| first | with_reducible (first | refine s_fldS ?_ | refine s_makeN ?_ | refine s_callN ?_ | refine s_stepL ?_ | refine s_revT ?_ | refine s_methN ?_ | refine s_methX ?_ | refine s_bm0 ?_ | refine s_listIt ?_) | walk_at "bz")
local macro_rules | `(tactic| walk_at "cz*") => `(tactic| (repeat (walk_at "cz")))

theorem ns_mV (m : Mv) : NmS 3 (mV m) := (nmd_mV m).ns
theorem ns_rnV (r : Mv × Nat) : NmS 5 (rnV r) := by
  unfold rnV
  by_cases c : r.2 = 1
  · rw [if_pos c]
    exact (ns_mV r.1).up.up
  · rw [if_neg c]
    exact .three (.str (by decide +kernel)) .int (.tup fun x hx => by rw [List.mem_singleton.mp hx]; exact ns_mV _)
theorem ns_runs (rs : List (Mv × Nat)) : NmS 6 (.tup (rs.map rnV)) := .map fun r _ => ns_rnV r
theorem sml_runs {rs : List (Mv × Nat)} (h : ∀ r ∈ rs, 1 ≤ r.2 ∧ r.2 ≤ 10 ^ 9) {K : PySem.W.Frag} {hh N : Nat} {Z : Int} {η : Eta} (mm : ∀ r ∈ rs, MT K hh Z N η (mV r.1)) (z : 10 ^ 9 ≤ Z) (l : rs.length ≤ N) (n3 : 3 ≤ N) : MT K hh Z N η (.tup (rs.map rnV)) := by
  refine .tup (fun x hx => ?_) (by rw [List.length_map]; exact l)
  obtain ⟨r, hr, rfl⟩ := List.mem_map.mp hx
  have a := h r hr
  unfold rnV
  by_cases c : r.2 = 1
  · rw [if_pos c]
    exact mm r hr
  · rw [if_neg c]
    refine .tup (fun y hy => ?_) (by simpa using n3)
    simp only [List.mem_cons, List.not_mem_nil, or_false] at hy
    rcases hy with rfl | rfl | rfl
    · exact .str
    · exact .int (by omega) (by omega)
    · exact .tup (fun y hy => by rw [List.mem_singleton.mp hy]; exact mm r hr) (by simp only [List.length_cons, List.length_nil]; omega)
theorem Moves.one {x : AV} {ms ns : List Mv} (a : Moves x ms) (b : Moves x ns) : ms = ns := by
  have e := AV.tup.inj (a.1.symm.trans b.1)
  clear a b
  induction ms generalizing ns with
  | nil => cases ns with
    | nil => rfl
    | cons => cases e
  | cons m ms ih => cases ns with
    | nil => cases e
    | cons n ns =>
      rw [List.map_cons, List.map_cons] at e
      injection e with e1 e2
      rw [mV_inj e1, ih e2]
theorem run_len {rs : List (Mv × Nat)} {r : Mv × Nat} (h : r ∈ rs) : r.2 ≤ (flatR rs).length := by
  induction rs with
  | nil => cases h
  | cons q rs ih =>
    unfold flatR at ih ⊢
    rw [List.map_cons, List.flatten_cons, List.length_append, List.length_replicate]
    rcases List.mem_cons.mp h with rfl | h
    · omega
    · have := ih h
      omega
section
variable {P : Program} {w : World} {K : PySem.W.Frag} {mg : Str → Option Value} {base : Heap} {CH CS CR C : Addr}
/-- what the law is told of a thing -/
def Told18 (x t : AV) : Prop := (∃ ms, Moves x ms ∧ (grp ms).length ≤ 200 ∧ t = .tup [.str "told", .tup ((grp ms).map rnV)]) ∨ (∃ ms, Moves x ms ∧ 200 < (grp ms).length ∧ t = .tup [.str "many", .int 200]) ∨ ((¬ ∃ ms, Moves x ms) ∧ t = .tup [.str "log", .int 0])
def spLTold (K : PySem.W.Frag) : ASp := fun xs η Q => ∃ (h N : Nat) (Z : Int) (x : AV), xs = [x] ∧ N ≤ 1000000 ∧ MT K h Z N η x ∧ ∀ t, Told18 x t → Q t η
theorem D__law_told (B : Bi mg) {E_BadLog E_TooMany E_LiftError : Addr} (g_BadLog : mg "BadLog" = some (.ref E_BadLog)) (g_TooMany : mg "TooMany" = some (.ref E_TooMany)) (g_LiftError : mg "LiftError" = some (.ref E_LiftError)) (xf_TooMany : XfC K E_TooMany) (nf_TooMany_limit : PySem.W.findIn K (.ref E_TooMany) "limit" = some none)
    (m_MM : PySem.W.exmOne K (.ref E_TooMany) (.ref E_TooMany) = some true) (m_LM : PySem.W.exmOne K (.ref E_BadLog) (.ref E_TooMany) = some false) (m_LL : PySem.W.exmOne K (.ref E_BadLog) (.ref E_LiftError) = some true) (xc_BadLog : ExcC K E_BadLog) (k_LL : PySem.W.kitOne K (.ref E_BadLog) (.ref E_BadLog) = some true)
    (R__law_told : Raw K mg "_law_told" s__law_told) (D_as_log : XDefX P w K mg base 5 "as_log" ["moves"] (spYAsLog K E_BadLog E_TooMany)) : XDef P w K mg base 6 "_law_told" ["_law_moves_here"] (spLTold K) := by
  refine XDef.of R__law_told (N := N__law_told) (ps := ["_law_moves_here"]) sc__law_told (fun _ _ _ _ _ _ us hl => match us, hl with | [_], _ => rfl) ?_ fun f cdv A outer s H E hr => ⟨_, (xss_cons (xs_set (i := 1) sc__law_told.nd rfl (Or.inl rfl) (xe_tup (xa_cons xe_str (xa_cons xe_int xa_nil))))
  (xss_cons (xs_tryN rfl rfl rfl sc__law_told.nd takes_none5 out0
    (fun W pn xe tk po AW => (xss_one (xs_set (i := 1) sc__law_told.nd rfl (Or.inl rfl) (xe_tup (xa_cons xe_str (xa_cons (xe_callX rfl tk D_as_log (hr.mono (by decide)) rfl (xa_cons (xv 0) xa_nil)) xa_nil))))))
    (AClOk.as (i := 2) rfl rfl ⟨rfl, by decide, .inl g_TooMany⟩
    (fun a oe cls d pn hz hf y => (xss_one (xs_set (i := 1) sc__law_told.nd rfl (Or.inl rfl) (xe_tup (xa_cons xe_str (xa_cons (xe_xf rfl xf_TooMany nf_TooMany_limit hz hf (xv 2)) xa_nil))))))
    (AClOk.as (i := 2) rfl rfl ⟨rfl, by decide, .inl g_LiftError⟩
    (fun a oe cls d pn hz hf y => (xss_one (xs_set (i := 1) sc__law_told.nd rfl (Or.inl rfl) (xe_ifExp (xt_val (xe_callB (xc_isE rfl hz hf) (by rfl) B.isinstance (by decide +kernel) (xa_cons (xv 2) (xa_cons (xe_globR rfl g_BadLog) xa_nil)))) (xe_tup (xa_cons xe_str (xa_cons xe_int xa_nil))) (xe_tup (xa_cons xe_str (xa_cons xe_int xa_nil)))))))
    AClOk.nil)))
  (xss_one (xs_ret (xv 1))))), ?_⟩
  · rintro zs η Q ⟨h, N, Z, x, rfl, _⟩
    rfl
  rintro zs η Q ⟨h, N, Z, x, rfl, hN, mt, k⟩
  walk_at "cz*"
  refine s_tryN ?_
  walk_at "cz*"
  refine ⟨h, N, Z, x, rfl, hN, mt, fun ms hm l => ?_, fun ms hm l => ?_, fun n => ?_⟩
  · walk_at "cz*"
    exact .same (k _ (.inl ⟨ms, hm, l, rfl⟩))
  · refine w_as m_MM fun a => ?_
    walk_at "cz*"
    refine ⟨rfl, rfl, _, lk_hd, ?_⟩
    walk_at "cz*"
    exact .same (k _ (.inr (.inl ⟨ms, hm, l, rfl⟩)))
  · refine w_no m_LM (w_as m_LL fun a => ?_)
    walk_at "cz*"
    refine s_isE rfl xc_BadLog k_LL ?_
    walk_at "cz*"
    exact .same (k _ (.inr (.inr ⟨n, rfl⟩)))
open Classical in
def spLRight (K : PySem.W.Frag) : ASp := fun xs η Q => ∃ (h N : Nat) (Z : Int) (x : AV), xs = [x] ∧ N ≤ 100000 ∧ 1000 ≤ N ∧ 10 ^ 9 ≤ Z ∧ Z ≤ 10 ^ 40 ∧ MT K h Z N η x ∧ Q (.bl true) η
open Classical in
theorem D__law_right (B : Bi mg) {E_BadLog E_TooMany : Addr} (R__law_right : Raw K mg "_law_right" s__law_right) (D__law_is_built : XDef P w K mg base 3 "_law_is_built" ["_law_thing"] (spLBuilt K)) (D__law_told : XDef P w K mg base 6 "_law_told" ["_law_moves_here"] (spLTold K)) (D__law_due : XDef P w K mg base 2 "_law_due" ["_law_moves_here"] spLDue)
    (D_as_log : XDefX P w K mg base 5 "as_log" ["moves"] (spYAsLog K E_BadLog E_TooMany)) (D_written_out : XDefX P w K mg base 7 "written_out" ["log"] (spYOut K E_BadLog E_TooMany)) (D_length_of : XDefX P w K mg base 7 "length_of" ["log"] (spYLen K E_BadLog)) :
    XDef P w K mg base 8 "_law_right" ["_law_thing"] (spLRight K) := by
  refine XDef.of R__law_right (N := N__law_right) (ps := ["_law_thing"]) sc__law_right (fun _ _ _ _ _ _ us hl => match us, hl with | [_], _ => rfl) ?_ fun f cdv A outer s H E hr => ⟨_, (xss_cons (xs_if (XW.xt (xw_or (xt_not (xt_val (xe_callB (xc_isi rfl) (by rfl) B.isinstance (by decide +kernel) (xa_cons (xv 0) (xa_cons (xe_bltn (n := "tuple") (by rfl) B.tuple (by decide +kernel)) xa_nil))))) (xw_or1 (xt_not (xt_val (xe_callB (xc_all rfl rfl) (by rfl) B.all (by decide +kernel) (xa_cons (xe_lc (own := [("_law_move", 1)]) rfl sc__law_right.nd (xi_tup rfl (xv 0)) (blkOk_by (own := [("_law_move", 1)]) (N := N__law_right) (sc := defScope s__law_right) (by decide +kernel)) (fun _ _ _ _ _ => (xgc_name (i := 1) sc__law_right.nd rfl (Or.inl rfl))) (fun _ _ _ _ _ => xts_nil) (fun _ _ _ _ _ => (xe_callD rfl D__law_is_built (hr.mono (by decide)) rfl (xa_cons (xv 1) xa_nil)))) xa_nil)))))))
    (xss_one (xs_ret (xe_cmpR (xo_eqG rfl hr.units) (xe_callD rfl D__law_told (hr.mono (by decide)) rfl (xa_cons (xv 0) xa_nil)) (xe_tup (xa_cons xe_str (xa_cons xe_int xa_nil))) (nomark _))))
    xss_nil)
  (xss_cons (xs_set (i := 2) sc__law_right.nd rfl (Or.inl rfl) (xe_callD rfl D__law_due (hr.mono (by decide)) rfl (xa_cons (xv 0) xa_nil)))
  (xss_cons (xs_if (xt_cmpR xo_gt (xe_callB (xc_len rfl) (by rfl) B.len (by decide +kernel) (xa_cons (xv 2) xa_nil)) xe_int (nomark _))
    (xss_one (xs_ret (xe_cmpR (xo_eqG rfl hr.units) (xe_callD rfl D__law_told (hr.mono (by decide)) rfl (xa_cons (xv 0) xa_nil)) (xe_tup (xa_cons xe_str (xa_cons xe_int xa_nil))) (nomark _))))
    xss_nil)
  (xss_cons (xs_if (xt_cmpR (xo_neG rfl hr.units) (xe_callD rfl D__law_told (hr.mono (by decide)) rfl (xa_cons (xv 0) xa_nil)) (xe_tup (xa_cons xe_str (xa_cons (xv 2) xa_nil))) (nomark _))
    (xss_one (xs_ret xe_bl))
    xss_nil)
  (xss_cons (xs_if (XW.xt (xw_and (xt_cmpR xo_le (xe_callB (xc_len rfl) (by rfl) B.len (by decide +kernel) (xa_cons (xv 0) xa_nil)) xe_int (nomark _)) (xw_and1 (xt_cmpR (xu_ne rfl hr.units) (xe_callN rfl D_written_out (hr.mono (by decide)) rfl (xa_cons (xe_callN rfl D_as_log (hr.mono (by decide)) rfl (xa_cons (xv 0) xa_nil)) xa_nil)) (xv 0) (nomark _)))))
    (xss_one (xs_ret xe_bl))
    xss_nil)
  (xss_one (xs_ret (xe_cmpR (xu_eq rfl hr.units) (xe_callN rfl D_length_of (hr.mono (by decide)) rfl (xa_cons (xe_callN rfl D_as_log (hr.mono (by decide)) rfl (xa_cons (xv 0) xa_nil)) xa_nil)) (xe_callB (xc_len rfl) (by rfl) B.len (by decide +kernel) (xa_cons (xv 0) xa_nil)) (nomark _))))))))), ?_⟩
  · rintro xs η Q ⟨h, N, Z, x, rfl, _⟩
    rfl
  rintro xs η Q ⟨h, N, Z, x, rfl, hN, hN0, z0, z1, mt, k⟩
  have bad : (¬ ∃ ms, Moves x ms) → ∀ t, Told18 x t → t = .tup [.str "log", .int 0] := fun n t ht => by
    rcases ht with ⟨ms, hm, _⟩ | ⟨ms, hm, _⟩ | ⟨_, e⟩
    · exact (n ⟨ms, hm⟩).elim
    · exact (n ⟨ms, hm⟩).elim
    · exact e
  walk_at "cz*"
  refine s_isTup mt ?_
  cases it : isTup x with
  | false =>
    walk_at "cz*"
    refine ⟨h, N, Z, x, rfl, by omega, mt, fun t ht => ?_⟩
    rw [bad (fun ⟨ms, e, _⟩ => notTup it _ e) t ht]
    walk_at "cz*"
    refine s_eqGS (p := True) (.two (.str (by decide +kernel)) .int : NmS 1 _) (.two (.str (by decide +kernel)) .int : NmS 1 _) (by simp) ?_
    rw [decide_eq_true trivial]
    exact .same k
  | true =>
    obtain ⟨zs, rfl⟩ := tupOf it
    obtain ⟨mz, lz⟩ := mt.in
    walk_at "cz*"
    refine lc_map zs (fun y => y) (fun y => .bl (decide (isB y))) (List.map_id' _).symm (by omega) trivial ?_ fun n hn => ?_
    · intro y my Add hA
      walk_at "cz*"
      refine ⟨h, N, Z, y, rfl, by omega, mz y my, z1, fun b hb => ?_⟩
      have : b = decide (isB y) := by
        cases b with
        | true => exact (decide_eq_true (hb.mp rfl)).symm
        | false => exact (decide_eq_false fun q => by cases hb.mpr q).symm
      rw [this]
      exact hA
    walk_at "cz*"
    have kp1 : Kept η (pt η n (.lst (zs.map fun y => .bl (decide (isB y))))) := Kept.put .refl hn
    generalize pt η n (.lst (zs.map fun y => .bl (decide (isB y)))) = η1 at kp1
    have mt1 := mt.kept kp1
    cases ca : zs.all fun y => decide (isB y) with
    | false =>
      walk_at "cz*"
      refine ⟨h, N, Z, _, rfl, by omega, mt1, fun t ht => ?_⟩
      rw [bad (fun ⟨ms, hm⟩ => ?_) t ht]
      · walk_at "cz*"
        refine s_eqGS (p := True) (.two (.str (by decide +kernel)) .int : NmS 1 _) (.two (.str (by decide +kernel)) .int : NmS 1 _) (by simp) ?_
        rw [decide_eq_true trivial]
        exact .sub kp1 k
      · have : (zs.all fun y => decide (isB y)) = true := List.all_eq_true.mpr fun y hy => decide_eq_true (hm.isB y hy)
        rw [ca] at this
        cases this
    | true =>
    have allB : ∀ y ∈ zs, isB y := fun y hy => of_decide_eq_true (List.all_eq_true.mp ca y hy)
    obtain ⟨ms, hms⟩ := moves_of allB
    have ez := AV.tup.inj hms.1
    subst ez
    rw [List.length_map] at lz
    obtain ⟨g1, g2, g3⟩ := grp_facts ms
    have rl : ∀ r ∈ grp ms, 1 ≤ r.2 ∧ r.2 ≤ 10 ^ 9 ∧ okM r.1 := fun r hr => ⟨(g2 r hr).1, by have := run_len hr; rw [g1] at this; omega, hms.2 _ (g2 r hr).2⟩
    obtain ⟨l1, l2, l3, l4⟩ := log_runs rl
    rw [g1] at l3 l4
    walk_at "cz*"
    have tl : ∀ t, Told18 (.tup (ms.map mV)) t → ((grp ms).length ≤ 200 → t = .tup [.str "told", .tup ((grp ms).map rnV)]) ∧ (200 < (grp ms).length → t = .tup [.str "many", .int 200]) := fun t ht => by
      rcases ht with ⟨ms', hm, a, e⟩ | ⟨ms', hm, a, e⟩ | ⟨n, _⟩
      · obtain rfl := hms.one hm
        exact ⟨fun _ => e, fun z => by omega⟩
      · obtain rfl := hms.one hm
        exact ⟨fun z => by omega, fun _ => e⟩
      · exact (n ⟨ms, hms⟩).elim
    refine ⟨ms, rfl, by omega, ?_⟩
    walk_at "cz*"
    rw [List.length_map]
    refine ite_dec (fun c => ?_) (fun c => ?_)
    · walk_at "cz*"
      refine ⟨h, N, Z, _, rfl, by omega, mt1, fun t ht => ?_⟩
      rw [(tl t ht).2 (by omega)]
      walk_at "cz*"
      refine s_eqGS (p := True) (.two (.str (by decide +kernel)) .int : NmS 1 _) (.two (.str (by decide +kernel)) .int : NmS 1 _) (by simp) ?_
      rw [decide_eq_true trivial]
      exact .sub kp1 k
    have l200 : (grp ms).length ≤ 200 := by omega
    walk_at "cz*"
    refine ⟨h, N, Z, _, rfl, by omega, mt1, fun t ht => ?_⟩
    rw [(tl t ht).1 l200]
    walk_at "cz*"
    refine s_neGS (p := True) (.two (.str (by decide +kernel)) (ns_runs _) : NmS 7 _) (.two (.str (by decide +kernel)) (ns_runs _) : NmS 7 _) (by simp) ?_
    refine ⟨_, rfl, ?_⟩
    refine ite_no rfl ?_
    have mtr : MT K h Z N η1 (.tup ((grp ms).map rnV)) := sml_runs (fun r hr => ⟨(rl r hr).1, (rl r hr).2.1⟩) (fun r hr => mt1.in.1 _ (List.mem_map.mpr ⟨_, (g2 r hr).2, rfl⟩)) z0 (by omega) (by omega)
    have asl : ∀ {Q' : AK} {AE : AXK}, Q' (.tup ((grp ms).map rnV)) η1 → spYAsLog K E_BadLog E_TooMany [.tup (ms.map mV)] η1 Q' AE := fun {Q' AE} q => ⟨h, N, Z, _, rfl, by omega, mt1, fun ms' hm' _ => by rw [← hms.one hm']; exact q, fun ms' hm' z => by rw [← hms.one hm'] at z; omega, fun n => (n ⟨ms, hms⟩).elim⟩
    walk_at "cz*"
    have n4 : NmD 4 (.tup (ms.map mV)) := .tup (.map fun m _ => nmd_mV m)
    rw [List.length_map]
    refine ite_dec (fun c5 => ?_) (fun c5 => ?_)
    · walk_at "cz*"
      refine asl ?_
      walk_at "cz*"
      refine ⟨h, N, Z, _, rfl, by omega, mtr, fun _ _ => ?_, fun _ z => by omega, fun n => (n ⟨l1, by omega⟩).elim⟩
      rw [l4]
      walk_at "cz*"
      refine s_neT (p := True) n4 n4 (by simp) ?_
      refine ⟨_, rfl, ?_⟩
      refine ite_no rfl ?_
      walk_at "cz*"
      refine asl ?_
      walk_at "cz*"
      refine ⟨h, N, Z, _, rfl, by omega, mtr, fun _ => ?_, fun n => (n ⟨l1, by omega⟩).elim⟩
      rw [l3]
      walk_at "cz*"
      rw [List.length_map, decide_eq_true rfl]
      exact .sub kp1 k
    · walk_at "cz*"
      refine asl ?_
      walk_at "cz*"
      refine ⟨h, N, Z, _, rfl, by omega, mtr, fun _ => ?_, fun n => (n ⟨l1, by omega⟩).elim⟩
      rw [l3]
      walk_at "cz*"
      rw [List.length_map, decide_eq_true rfl]
      exact .sub kp1 k
end
end Law

namespace Law
open PySem L2 MyB MyR MyD MyC Ab
local macro_rules | `(tactic| walk_at "kp") => `(tactic| first | exact Kept.refl | (refine' Kept.put ?kpa ?kpb; (case kpb => (walk_at "nn")); (case kpa => (walk_at "kp"))) | (refine' Kept.back ?kpa ?kpb; (case kpb => assumption); (case kpa => (walk_at "kp"))))
local macro_rules | `(tactic| walk_at "nn") => `(tactic| first | assumption | (refine' Kept.none ?nna ?nnb; (case nnb => assumption); (case nna => (walk_at "kp"))))
local macro_rules | `(tactic| walk_at "en") => `(tactic| first | assumption | exact pt_same | ((repeat rw [pt_ne (by assumption)]); first | assumption | exact pt_same))
local macro_rules | `(tactic| walk_at "lo") => `(tactic| first | assumption | exact lo_rf (by walk_at "en") | exact Or.inr rfl)
local macro_rules | `(tactic| walk_at "nu") => `(tactic| with_unfolding_all (first | assumption | decide | exact ⟨by decide, by decide⟩ | exact .inr ⟨by decide, by decide⟩ | exact ⟨by decide, by decide, by decide⟩ | exact ⟨by omega, by omega⟩ | exact .inl ⟨by omega, by omega⟩ | exact .inr ⟨by omega, by omega⟩))
local macro_rules | `(tactic| walk_at "ad") => `(tactic| with_reducible (first
  | refine s_seq ?_ | refine s_asg ?_ | refine s_tryAs ?_ | refine s_tryOnly ?_ | refine s_raise ?_ | refine s_raise1 ?_ | refine s_callX ?_ | refine s_xf ?_ | refine s_op ?_ | refine s_un ?_
  | (refine' s_var ?rdh ?_; (case rdh => (with_unfolding_all rfl)))
  | refine s_c ?_ | refine s_add ?_ | refine s_II ?_ | refine s_IB ?_ | refine s_lt ?_ | refine s_U ?_ | refine s_eqI ?_ | refine s_neI ?_ | refine s_eqB ?_ | refine s_neB ?_ | refine s_eqX ?_ | refine s_neX ?_
  | refine s_isNn ?_ | refine s_isNi ?_ | refine s_isNt ?_ | refine s_isNr ?_ | refine s_isNb ?_ | refine s_ntNn ?_ | refine s_ntNi ?_ | refine s_ntNt ?_ | refine s_ntNr ?_
  | refine s_test ?_ | refine s_not ?_ | refine s_and ?_ | refine s_or ?_ | refine s_yes ?_ | refine s_bl ?_
  | refine s_andV ?_ | refine s_orV ?_ | refine s_notV ?_ | refine s_chain ?_ | refine s_if ?_ | refine s_next ?_ | refine s_brk ?_ | refine s_cnt ?_ | refine s_ifS ?_
  | refine s_ret ?_ | refine s_retN ?_ | refine s_drop ?_ | refine s_name ?_ | refine s_sub ?_ | refine s_gCons ?_ | refine s_gNil ?_
  | refine s_cons ?_ | refine s_nil ?_ | refine s_cb ?_ | refine s_call ?_ | refine s_tup ?_ | refine s_lst ?_
  | refine s_mkT2 ?_ | refine s_mkT3 ?_ | refine s_mkT1 ?_ | refine s_mkT0 ?_ | refine s_mkT4 ?_ | refine s_mkT5 ?_
  | refine s_par ?_ | refine s_par3 ?_ | refine s_par2 ?_ | refine s_par33 ?_ | refine s_iRng1 ?_ | refine s_iRng2 ?_ | refine s_for ?_ | refine s_iList ?_ | refine s_iTup ?_ | refine s_theTup ?_ | refine s_lc ?_ | refine s_bm ?_
  | refine s_sl ?_ | refine s_noPart ?_ | refine s_part ?_ | refine s_abs ?_ | refine s_int ?_ | refine s_intB ?_ | refine s_max ?_ | refine s_min ?_ | refine s_max3 ?_ | refine s_theInt ?_ | refine s_lenT ?_ | refine s_tupT ?_ | refine s_slT3 ?_ | refine s_slT ?_ | refine s_dget ?_ | refine s_dget2 ?_ | refine s_din ?_ | refine s_iZip ?_ | refine s_iEnum ?_ | refine s_iEnumT ?_ | refine s_sortIt ?_ | refine s_zipT ?_ | refine s_sumM ?_ | refine s_anyM ?_ | refine s_allM ?_ | refine s_dc ?_ | refine s_iKeys ?_ | refine s_listT' ?_
  | refine s_sumT ?_
  | (refine' s_gTup ?rdi ?_; (case rdi => (with_unfolding_all rfl)))
  | (refine' s_gLst ?rdh ?rdi ?_; (case rdh => (with_unfolding_all (walk_at "lo"))); (case rdi => (with_unfolding_all rfl)))
  | (refine' s_ixT ?rdi ?_; (case rdi => (with_unfolding_all rfl)))
  | (refine' s_ixL ?rdh ?rdi ?_; (case rdh => (with_unfolding_all (walk_at "lo"))); (case rdi => (with_unfolding_all rfl)))
  | (refine' s_setL ?rdh ?rdi ?_; (case rdh => (with_unfolding_all (walk_at "en"))); (case rdi => (with_unfolding_all rfl)))
  | (refine' s_lenL ?rdh ?_; (case rdh => (with_unfolding_all (walk_at "lo"))))
  | (refine' s_all ?rdh ?_; (case rdh => (with_unfolding_all (walk_at "lo"))))
  | (refine' s_any ?rdh ?_; (case rdh => (with_unfolding_all (walk_at "lo"))))
  | (refine' s_sum ?rdh ?_; (case rdh => (with_unfolding_all (walk_at "lo"))))
  | (refine' s_listL' ?rdh ?_; (case rdh => (with_unfolding_all (walk_at "lo"))))
  | (refine' s_tupL ?rdh ?_; (case rdh => (with_unfolding_all (walk_at "lo"))))
  | (refine' And.intro (s_isL ?rdh) ?_; (case rdh => (with_unfolding_all (walk_at "en"))))
  | (refine' s_IC ?rdh ?_; (case rdh => (walk_at "nu")))
  | (refine' s_mul ?rdh ?_; (case rdh => (walk_at "nu")))
  | (refine' s_div ?rdh ?_; (case rdh => (walk_at "nu")))
  | (refine' s_floors ?rdh ?_; (case rdh => assumption)) | (refine' s_room ?rdh ?_; (case rdh => assumption))
  | (refine' s_house ?rdh ?_; (case rdh => assumption)) | (refine' s_lift ?rdh ?_; (case rdh => assumption)) | (refine' s_grps ?rdh ?_; (case rdh => assumption))
  | refine s_eqG ?_ | refine s_neG ?_ | refine s_eqN ?_ | refine s_neN ?_
  | (refine' s_aug ?rdh ?_; (case rdh => (with_unfolding_all rfl)))))
local macro_rules | `(tactic| walk_at "ad*") => `(tactic| (repeat (walk_at "ad")))

local macro_rules | `(tactic| walk_at "az") => `(tactic| first | walk_at "ad" | with_reducible (first | refine iteF ?_ | refine iteT ?_ | refine ite_nT ?_ | refine ite_nF ?_ | (refine' s_rngJ ?rdh ?_; (case rdh => omega)) | (refine' s_rngJ2 ?rdh ?_; (case rdh => omega)) | refine s_isT ?_ | refine s_notT ?_ | refine s_isF ?_ | refine s_notF ?_ | refine s_isi_non_int ?_ | refine s_isi_non_bool ?_ | refine s_isi_non_tuple ?_ | refine s_isi_non_list ?_ | refine s_isi_non_str ?_ | refine s_isi_bl_int ?_ | refine s_isi_bl_bool ?_ | refine s_isi_bl_tuple ?_ | refine s_isi_bl_list ?_ | refine s_isi_bl_str ?_ | refine s_isi_int_int ?_ | refine s_isi_int_bool ?_ | refine s_isi_int_tuple ?_ | refine s_isi_int_list ?_ | refine s_isi_int_str ?_ | refine s_isi_str_int ?_ | refine s_isi_str_bool ?_ | refine s_isi_str_tuple ?_ | refine s_isi_str_list ?_ | refine s_isi_str_str ?_ | refine s_isi_tup_int ?_ | refine s_isi_tup_bool ?_ | refine s_isi_tup_tuple ?_ | refine s_isi_tup_list ?_ | refine s_isi_tup_str ?_))
local macro_rules | `(tactic| walk_at "az*") => `(tactic| (repeat (walk_at "az")))
local macro_rules | `(tactic| walk_at "cl") => `(tactic| ((repeat refine Exists.intro _ ?_); refine And.intro rfl ?_; (repeat (refine And.intro (by first | assumption | omega | exact lo_rf (by assumption)) ?_))))

local macro_rules | `(tactic| walk_at "bz") => `(tactic| first | (with_reducible (refine' s_nameE ?rde ?_; (case rde => ((try simp only [List.set_cons_succ, List.set_cons_zero]); exact rfl)))) | (with_reducible (refine' s_par2E ?rde ?_; (case rde => ((try simp only [List.set_cons_succ, List.set_cons_zero]); exact rfl)))) | walk_at "az")
local macro_rules | `(tactic| walk_at "bz*") => `(tactic| (repeat (walk_at "bz")))

local macro_rules | `(tactic| walk_at "cz") => `(tactic| first | with_reducible (first | refine s_fldS ?_ | refine s_makeN ?_ | refine s_callN ?_ | refine s_stepL ?_ | refine s_revT ?_ | refine s_methN ?_ | refine s_methX ?_ | refine s_bm0 ?_ | refine s_listIt ?_) | walk_at "bz")
local macro_rules | `(tactic| walk_at "cz*") => `(tactic| (repeat (walk_at "cz")))

section
variable {P : Program} {w : World} {K : PySem.W.Frag} {mg : Str → Option Value} {base : Heap} {CH CS CR C : Addr}
def spLaw := SLaw
theorem mt_moves {ms : List Mv} (o : MvsOk ms) (l : ms.length ≤ 5000) {h : Nat} {η : Eta} : MT K h (10 ^ 39) 6000 η (.tup (ms.map mV)) := by
  refine .tup (fun x hx => ?_) (by rw [List.length_map]; omega)
  obtain ⟨m, hm, rfl⟩ := List.mem_map.mp hx
  exact (sml_mV (o m hm).1 (o m hm).2 K h η).more (by omega) (by omega)
theorem D_law {f : Addr} {fd : FuncData} (F : Fun K "law" "law" s_law f fd) (B : Bi mg) (g_House : mg "House" = some (.ref CH)) (iH : C8.InsC K CH) (niH : NoInt K CH) (ntH : NoTup K CH) {E_BadHouse : Addr}
    (D__law_hand : XDef P w K mg base 2 "_law_hand" ["_law_script"] spHand) (D__law_draw : XDef P w K mg base 2 "_law_draw" ["_law_hand_here", "_law_many"] spDraw) (D__law_moves : XDef P w K mg base 4 "_law_moves" ["_law_hand_here"] spLMoves) (D__law_right : XDef P w K mg base 8 "_law_right" ["_law_thing"] (spLRight K))
    (D__law_deep : XDef P w K mg base 2 "_law_deep" ["_law_kind"] (spDeepM K)) (D__law_bent_move : XDef P w K mg base 3 "_law_bent_move" ["_law_hand_here", "_law_move", "_law_house"] (spBent K CH)) (M_House : XNewX P w K mg base 4 "House" CH ["self", "floors", "room"] (spYHouse K CH E_BadHouse)) :
    FnOk P w K mg base CX0 9 f fd ["_law_script"] (spLaw K) := by
  refine law_okA (N := N_law) F sc_law fun cdv A outer s H E hr => ⟨_, (xss_cons (xs_set (i := 1) sc_law.nd rfl (Or.inl rfl) (xe_callD rfl D__law_hand (hr.mono (by decide)) rfl (xa_cons (xv 0) xa_nil)))
  (xss_cons (xs_set (i := 2) sc_law.nd rfl (Or.inl rfl) (xe_makeN rfl M_House (hr.mono (by decide)) rfl (xa_cons xe_int (xa_cons xe_int xa_nil))))
  (xss_cons (xs_for PassesOwn.never rfl (xi_range1 (by rfl) B.range (xa_cons xe_int xa_nil)) (xg_name (i := 3) sc_law.nd rfl (Or.inl rfl))
    (xss_cons (xs_set (i := 4) sc_law.nd rfl (Or.inl rfl) (xe_callD rfl D__law_moves (hr.mono (by decide)) rfl (xa_cons (xv 1) xa_nil)))
      (xss_cons (xs_if (xt_not (xt_val (xe_callD rfl D__law_right (hr.mono (by decide)) rfl (xa_cons (xv 4) xa_nil))))
        (xss_one (xs_ret xe_bl))
        xss_nil)
      (xss_cons (xs_set (i := 5) sc_law.nd rfl (Or.inl rfl) (xe_callD rfl D__law_draw (hr.mono (by decide)) rfl (xa_cons (xv 1) (xa_cons xe_int xa_nil))))
      (xss_cons (xs_set (i := 6) sc_law.nd rfl (Or.inl rfl) (xe_callD rfl D__law_draw (hr.mono (by decide)) rfl (xa_cons (xv 1) (xa_cons (xe_op (xu_add rfl) (xe_callB (xc_len rfl) (by rfl) B.len (by decide +kernel) (xa_cons (xv 4) xa_nil)) xe_int) xa_nil))))
      (xss_cut (xs_if (xt_cmpR (xu_eq rfl hr.units) (xv 5) xe_int (nomark _))
        (xss_cons (xs_set (i := 7) sc_law.nd rfl (Or.inl rfl) (xe_lst (xa_cons (xe_callTy (xu_list rfl rfl) (by rfl) B.list (by decide +kernel) (xa_cons (xv 4) xa_nil)) (xa_cons xe_non (xa_cons xe_int (xa_cons xe_bl (xa_cons xe_dct (xa_cons xe_str (xa_cons (xv 2) (xa_cons (xe_callD rfl D__law_deep (hr.mono (by decide)) rfl (xa_cons xe_int xa_nil)) (xa_cons (xe_callD rfl D__law_deep (hr.mono (by decide)) rfl (xa_cons xe_int xa_nil)) (xa_cons (xe_op (xu_add rfl) (xe_slice (xu_sl rfl) (xv 4) xpo_none (xpo_some xe_int)) (xe_tup (xa_cons (xv 4) xa_nil))) xa_nil))))))))))))
          (xss_one (xs_set (i := 4) sc_law.nd rfl (Or.inl rfl) (xe_ix (xu_ix rfl) (xv 7) (xe_callD rfl D__law_draw (hr.mono (by decide)) rfl (xa_cons (xv 1) (xa_cons xe_int xa_nil))) (fun _ _ => rfl)))))
        (xss_one (xs_if (xt_cmpR (xu_eq rfl hr.units) (xv 5) xe_int (nomark _))
            (xss_one (xs_set (i := 4) sc_law.nd rfl (Or.inl rfl) (xe_op (xu_add rfl) (xe_op (xu_add rfl) (xe_slice (xu_sl rfl) (xv 4) xpo_none (xpo_some (xv 6))) (xe_tup (xa_cons (xe_tup (xa_cons xe_str (xa_cons xe_int (xa_cons (xe_tup (xa_cons (xe_tup (xa_cons xe_int (xa_cons (xe_tup xa_nil) xa_nil))) xa_nil)) xa_nil)))) xa_nil))) (xe_slice (xu_sl rfl) (xv 4) (xpo_some (xv 6)) xpo_none))))
            (xss_one (xs_if (XW.xt (xw_and (xt_cmpR (xu_eq rfl hr.units) (xv 5) xe_int (nomark _)) (xw_and1 (xt_cmpR (xu_lt rfl hr.units) (xv 6) (xe_callB (xc_len rfl) (by rfl) B.len (by decide +kernel) (xa_cons (xv 4) xa_nil)) (nomark _)))))
                (xss_one (xs_set (i := 4) sc_law.nd rfl (Or.inl rfl) (xe_op (xu_add rfl) (xe_op (xu_add rfl) (xe_slice (xu_sl rfl) (xv 4) xpo_none (xpo_some (xv 6))) (xe_tup (xa_cons (xe_callD rfl D__law_bent_move (hr.mono (by decide)) rfl (xa_cons (xv 1) (xa_cons (xe_ix (xu_ix rfl) (xv 4) (xv 6) (fun _ _ => rfl)) (xa_cons (xv 2) xa_nil)))) xa_nil))) (xe_slice (xu_sl rfl) (xv 4) (xpo_some (xe_op (xu_add rfl) (xv 6) xe_int)) xpo_none))))
                xss_nil)))))
      (xss_one (xs_if (xt_not (xt_val (xe_callD rfl D__law_right (hr.mono (by decide)) rfl (xa_cons (xv 4) xa_nil))))
        (xss_one (xs_ret xe_bl))
        xss_nil))))))))
  (xss_one (xs_ret xe_bl))))), ?_⟩
  intro x ns η Q hx hl k
  walk_at "cz*"
  refine ⟨x, ns, rfl, ⟨hx, hl⟩, fun h c η1 k1 hd1 nd nc => ?_⟩
  walk_at "cz*"
  refine ⟨.int 2, .int 1, rfl, thg_int, thg_int, fun fl rm e1 e2 _ _ _ _ => ?_, fun z => (by cases z), fun _ z => (by cases z)⟩
  cases e1
  cases e2
  walk_at "cz*"
  refine for_rng (fun i ρ' η' => Hand η' h c ∧ ∃ v3 v4 v5 v6 v7 : Option AV, ρ' = [some x, some (.rf h), some (hV CH 2 1), v3, v4, v5, v6, v7]) ⟨hd1, _, _, _, _, _, rfl⟩ ?_ ?_
  · rintro i ρ' η' hi ⟨hdA, v3, v4, v5, v6, v7, rfl⟩
    walk_at "cz*"
    refine ⟨h, c, rfl, hdA, fun ms ηB om lm hdB bB => ?_⟩
    have mtB : ∀ {η : Eta}, MT K h (10 ^ 39) 6000 η (.tup (ms.map mV)) := mt_moves om lm
    have ml : ∀ {η : Eta}, ∀ y ∈ ms.map mV, MT K h (10 ^ 39) 6000 η y := fun y hy => mtB.in.1 y hy
    walk_at "cz*"
    refine ⟨h, 6000, 10 ^ 39, _, rfl, by omega, by omega, by omega, by omega, mtB, ?_⟩
    walk_at "cz*"
    refine ⟨h, c, _, rfl, hdB, by decide, by decide, fun kd ηC kd0 kd1 hdC bC => ?_⟩
    walk_at "cz*"
    rw [List.length_map]
    refine ⟨h, c, _, rfl, hdC, by omega, by omega, fun at_ ηD a0 a1 hdD bD => ?_⟩
    walk_at "cz*"
    refine ⟨fun ρ' η' => Hand η' h c ∧ ∃ (y : AV) (v7 : Option AV), MT K h (10 ^ 39 + 1) 6001 η' y ∧ ρ' = [some x, some (.rf h), some (hV CH 2 1), some (.int (0 + (i : Int))), some y, some (.int kd), some (.int at_), v7], ?_, ?_⟩
    · have up : ∀ {η : Eta} {y : AV}, MT K h (10 ^ 39) 6000 η y → MT K h (10 ^ 39 + 1) 6001 η y := fun m => m.more (by omega) (by omega)
      walk_at "cz*"
      refine ite_dec (fun c0 => ?_) (fun c0 => ?_)
      · walk_at "cz*"
        intro n1 hn1
        have hdE := hdD.new (o := .lst (ms.map mV)) hn1
        have n1h := (hdD.ne hn1).1
        have e1 : (pt ηD n1 (.lst (ms.map mV))) n1 = some (.lst (ms.map mV)) := pt_same
        generalize pt ηD n1 (.lst (ms.map mV)) = ηE at hdE e1
        walk_at "cz*"
        intro n2 hn2
        have hdF := hdE.new (o := .dK []) hn2
        have n2h := (hdE.ne hn2).1
        have e2 : (pt ηE n2 (.dK [])) n2 = some (.dK []) := pt_same
        have e1 : (pt ηE n2 (.dK [])) n1 = some (.lst (ms.map mV)) := (Kept.put .refl hn2) _ _ e1
        generalize pt ηE n2 (.dK []) = ηF at hdF e1 e2
        have hh : ∀ {η : Eta}, Hand η h c → ∃ o, η h = some o := fun hd => by
          obtain ⟨p, q, s, t, cells, e, _⟩ := hd.ex
          exact ⟨_, e⟩
        walk_at "cz*"
        refine ⟨0, h, rfl, by omega, by omega, hh hdF, fun d1 ηG kG mG => ?_⟩
        have hdG := hdF.kept kG
        walk_at "cz*"
        refine ⟨2, h, rfl, by omega, by omega, hh hdG, fun d2 ηH kH mH => ?_⟩
        have hdH := hdG.kept kH
        walk_at "cz*"
        rewrite [show cutA (ms.map mV) none (some 1) = (ms.map mV).take 1 from by unfold cutA; rw [HT.sIx_none, show (1 : Int) = ((1 : Nat) : Int) from rfl, HT.sIx_nat, List.drop_zero, Nat.sub_zero, List.take_eq_take_iff]; omega]
        refine s_catT (by have := List.length_take_le 1 (ms.map mV); simp only [List.length_cons, List.length_nil]; omega) ?_
        walk_at "cz*"
        refine s_mkL (by simp) fun n3 hn3 => ?_
        have n3h := (hdH.ne hn3).1
        have hdI := hdH.new hn3 (o := .lst [.rf n1, .non, .int 0, .bl true, .rf n2, .str "moves", hV CH 2 1, d1, d2, .tup ((ms.map mV).take 1 ++ [.tup (ms.map mV)])])
        have e3 : (pt ηH n3 (.lst [.rf n1, .non, .int 0, .bl true, .rf n2, .str "moves", hV CH 2 1, d1, d2, .tup ((ms.map mV).take 1 ++ [.tup (ms.map mV)])])) n3 = some (.lst [.rf n1, .non, .int 0, .bl true, .rf n2, .str "moves", hV CH 2 1, d1, d2, .tup ((ms.map mV).take 1 ++ [.tup (ms.map mV)])]) := pt_same
        have kI : Kept ηH (pt ηH n3 (.lst [.rf n1, .non, .int 0, .bl true, .rf n2, .str "moves", hV CH 2 1, d1, d2, .tup ((ms.map mV).take 1 ++ [.tup (ms.map mV)])])) := Kept.put .refl hn3
        generalize pt ηH n3 (.lst [.rf n1, .non, .int 0, .bl true, .rf n2, .str "moves", hV CH 2 1, d1, d2, .tup ((ms.map mV).take 1 ++ [.tup (ms.map mV)])]) = ηI at hdI e3 kI
        have kFI : Kept ηF ηI := (kG.trans kH).trans kI
        have al : ∀ y ∈ [AV.rf n1, .non, .int 0, .bl true, .rf n2, .str "moves", hV CH 2 1, d1, d2, .tup ((ms.map mV).take 1 ++ [.tup (ms.map mV)])], MT K h (10 ^ 39 + 1) 6001 ηI y := fun y hy => by
          simp only [List.mem_cons, List.not_mem_nil, or_false] at hy
          rcases hy with rfl | rfl | rfl | rfl | rfl | rfl | rfl | rfl | rfl | rfl
          · exact .lst (kFI _ _ e1) n1h
          · exact .non
          · exact .int (by omega) (by omega)
          · exact .bl
          · exact .dK (kFI _ _ e2) n2h
          · exact .str
          · exact .ob iH niH ntH
          · exact ((mG.kept kH).kept kI).more (by omega) (by omega)
          · exact (mH.kept kI).more (by omega) (by omega)
          · refine .tup (fun z hz => ?_) (by have := List.length_take_le 1 (ms.map mV); rw [List.length_append]; simp only [List.length_cons, List.length_nil]; omega)
            rcases List.mem_append.mp hz with hz | hz
            · exact up (ml z (List.mem_of_mem_take hz))
            · rw [List.mem_singleton.mp hz]
              exact up mtB
        have ln : ([AV.rf n1, .non, .int 0, .bl true, .rf n2, .str "moves", hV CH 2 1, d1, d2, .tup ((ms.map mV).take 1 ++ [.tup (ms.map mV)])] : List AV).length = 10 := rfl
        generalize ([AV.rf n1, .non, .int 0, .bl true, .rf n2, .str "moves", hV CH 2 1, d1, d2, .tup ((ms.map mV).take 1 ++ [.tup (ms.map mV)])] : List AV) = things at e3 al ln
        walk_at "cz*"
        refine ⟨h, c, _, rfl, hdI, by decide, by decide, fun j ηJ j0 j1 hdJ bJ => ?_⟩
        obtain ⟨th, eth, mth⟩ := mt_at al j0 (by omega)
        refine s_ixL (lo_rf ((bJ n3 n3h).trans e3)) eth ?_
        walk_at "cz*"
        exact ⟨hdJ, _, _, mth.kb bJ.kb, rfl⟩
      · walk_at "cz*"
        refine ite_dec (fun c1 => ?_) (fun c1 => ?_)
        · walk_at "cz*"
          rw [cutA_to a0 (by rw [List.length_map]; omega)]
          refine s_catT (by rw [List.length_take, List.length_map]; simp only [List.length_cons, List.length_nil]; omega) ?_
          walk_at "cz*"
          rw [cutA_from a0 (by rw [List.length_map]; omega)]
          refine s_catT (by rw [List.length_append, List.length_take, List.length_drop, List.length_map]; simp only [List.length_cons, List.length_nil]; omega) ?_
          walk_at "cz*"
          refine ⟨hdD, _, _, .tup (fun y hy => ?_) ?_, rfl⟩
          · rcases List.mem_append.mp hy with hy | hy
            · rcases List.mem_append.mp hy with hy | hy
              · exact up (ml y (List.mem_of_mem_take hy))
              · rw [List.mem_singleton.mp hy]
                refine mt_three .str (.int (by omega) (by omega)) (.tup (fun z hz => ?_) (by simp)) (by omega)
                rw [List.mem_singleton.mp hz]
                exact mt_two (.int (by omega) (by omega)) (.tup (fun w hw => by cases hw) (by simp)) (by omega)
            · exact up (ml y (List.mem_of_mem_drop hy))
          · rw [List.length_append, List.length_append, List.length_take, List.length_drop, List.length_map]
            simp only [List.length_cons, List.length_nil]
            omega
        · walk_at "cz*"
          refine ite_dec (fun c2 => ?_) (fun c2 => ?_)
          · walk_at "cz*"
            rw [List.length_map]
            refine ite_dec (fun c3 => ?_) (fun c3 => ?_)
            · obtain ⟨m, hm⟩ : ∃ m, ms[at_.toNat]? = some m := ⟨_, List.getElem?_eq_getElem (show at_.toNat < ms.length by omega)⟩
              have am : atI (ms.map mV) at_ = some (mV m) := at_nat a0 (by rw [List.getElem?_map, hm]; rfl)
              walk_at "cz*"
              rw [cutA_to a0 (by rw [List.length_map]; omega)]
              refine s_ixT am ?_
              walk_at "cz*"
              refine ⟨h, c, 6000, 2, 1, 10 ^ 39, m, rfl, hdD, ml _ (List.mem_map.mpr ⟨m, List.mem_of_getElem? hm, rfl⟩), by omega, by omega, by omega, fun y ηE my hdE kbE => ?_⟩
              walk_at "cz*"
              refine s_catT (by rw [List.length_take, List.length_map]; simp only [List.length_cons, List.length_nil]; omega) ?_
              walk_at "cz*"
              rw [cutA_from (by omega) (by rw [List.length_map]; omega)]
              refine s_catT (by rw [List.length_append, List.length_take, List.length_drop, List.length_map]; simp only [List.length_cons, List.length_nil]; omega) ?_
              walk_at "cz*"
              refine ⟨hdE, _, _, .tup (fun z hz => ?_) ?_, rfl⟩
              · rcases List.mem_append.mp hz with hz | hz
                · rcases List.mem_append.mp hz with hz | hz
                  · exact up (ml z (List.mem_of_mem_take hz))
                  · rw [List.mem_singleton.mp hz]
                    exact my
                · exact up (ml z (List.mem_of_mem_drop hz))
              · rw [List.length_append, List.length_append, List.length_take, List.length_drop, List.length_map]
                simp only [List.length_cons, List.length_nil]
                omega
            · walk_at "cz*"
              exact ⟨hdD, _, _, up mtB, rfl⟩
          · walk_at "cz*"
            exact ⟨hdD, _, _, up mtB, rfl⟩
    · rintro ρ2 η2 ⟨hd2, y, w7, my, rfl⟩
      walk_at "cz*"
      refine ⟨h, 6001, 10 ^ 39 + 1, _, rfl, by omega, by omega, by omega, by omega, my, ?_⟩
      walk_at "cz*"
      exact ⟨hd2, _, _, _, _, _, rfl⟩
  · rintro ρ' η' ⟨hdA, v3, v4, v5, v6, v7, rfl⟩
    walk_at "cz*"
    exact k _
end
end Law
namespace Law
open PySem L2 MyB MyR MyD
theorem all_mk {l : PySem.W.OpenLaw} {w : World} {K : PySem.W.Frag} {h : Heap} {mg : Str → Option Value} {fa CH : Addr} (X : K.In h) (G : h.Ns mainGlobals mg) (hfa : mg "law" = some (.ref fa))
    {od_is_integer an_is_integer : Option Addr} {sl_is_integer : Array (Option Value)} {oc_is_integer kV_is_integer dc_is_integer pm_is_integer cd_is_integer ct_is_integer : Value} {f_is_integer : Addr}
    {od_is_within an_is_within : Option Addr} {sl_is_within : Array (Option Value)} {oc_is_within kV_is_within dc_is_within pm_is_within cd_is_within ct_is_within : Value} {f_is_within : Addr}
    {od__law_draw an__law_draw : Option Addr} {sl__law_draw : Array (Option Value)} {oc__law_draw kV__law_draw dc__law_draw pm__law_draw cd__law_draw ct__law_draw : Value} {f__law_draw : Addr}
    {od__law_hand an__law_hand : Option Addr} {sl__law_hand : Array (Option Value)} {oc__law_hand kV__law_hand dc__law_hand pm__law_hand cd__law_hand ct__law_hand : Value} {f__law_hand : Addr}
    {od__law_is_int an__law_is_int : Option Addr} {sl__law_is_int : Array (Option Value)} {oc__law_is_int kV__law_is_int dc__law_is_int pm__law_is_int cd__law_is_int ct__law_is_int : Value} {f__law_is_int : Addr}
    {od_is_way an_is_way : Option Addr} {sl_is_way : Array (Option Value)} {oc_is_way kV_is_way dc_is_way pm_is_way cd_is_way ct_is_way : Value} {f_is_way : Addr}
    {od_is_aboard an_is_aboard : Option Addr} {sl_is_aboard : Array (Option Value)} {oc_is_aboard kV_is_aboard dc_is_aboard pm_is_aboard cd_is_aboard ct_is_aboard : Value} {f_is_aboard : Addr}
    {od_is_built_move an_is_built_move : Option Addr} {sl_is_built_move : Array (Option Value)} {oc_is_built_move kV_is_built_move dc_is_built_move pm_is_built_move cd_is_built_move ct_is_built_move : Value} {f_is_built_move : Addr}
    {od__law_is_built an__law_is_built : Option Addr} {sl__law_is_built : Array (Option Value)} {oc__law_is_built kV__law_is_built dc__law_is_built pm__law_is_built cd__law_is_built ct__law_is_built : Value} {f__law_is_built : Addr}
    {od__law_deep an__law_deep : Option Addr} {sl__law_deep : Array (Option Value)} {oc__law_deep kV__law_deep dc__law_deep pm__law_deep cd__law_deep ct__law_deep : Value} {f__law_deep : Addr}
    {od__law_bent_move an__law_bent_move : Option Addr} {sl__law_bent_move : Array (Option Value)} {oc__law_bent_move kV__law_bent_move dc__law_bent_move pm__law_bent_move cd__law_bent_move ct__law_bent_move : Value} {f__law_bent_move : Addr}
    {od_is_rounds an_is_rounds : Option Addr} {sl_is_rounds : Array (Option Value)} {oc_is_rounds kV_is_rounds dc_is_rounds pm_is_rounds cd_is_rounds ct_is_rounds : Value} {f_is_rounds : Addr}
    {od_written_in an_written_in : Option Addr} {sl_written_in : Array (Option Value)} {oc_written_in kV_written_in dc_written_in pm_written_in cd_written_in ct_written_in : Value} {f_written_in : Addr}
    {od_check_built an_check_built : Option Addr} {sl_check_built : Array (Option Value)} {oc_check_built kV_check_built dc_check_built pm_check_built cd_check_built ct_check_built : Value} {f_check_built : Addr}
    {od_count_of an_count_of : Option Addr} {sl_count_of : Array (Option Value)} {oc_count_of kV_count_of dc_count_of pm_count_of cd_count_of ct_count_of : Value} {f_count_of : Addr}
    {od_length_of an_length_of : Option Addr} {sl_length_of : Array (Option Value)} {oc_length_of kV_length_of dc_length_of pm_length_of cd_length_of ct_length_of : Value} {f_length_of : Addr}
    {od_out_of an_out_of : Option Addr} {sl_out_of : Array (Option Value)} {oc_out_of kV_out_of dc_out_of pm_out_of cd_out_of ct_out_of : Value} {f_out_of : Addr}
    {od_written_out an_written_out : Option Addr} {sl_written_out : Array (Option Value)} {oc_written_out kV_written_out dc_written_out pm_written_out cd_written_out ct_written_out : Value} {f_written_out : Addr}
    {od__law_any_move an__law_any_move : Option Addr} {sl__law_any_move : Array (Option Value)} {oc__law_any_move kV__law_any_move dc__law_any_move pm__law_any_move cd__law_any_move ct__law_any_move : Value} {f__law_any_move : Addr}
    {od_as_log an_as_log : Option Addr} {sl_as_log : Array (Option Value)} {oc_as_log kV_as_log dc_as_log pm_as_log cd_as_log ct_as_log : Value} {f_as_log : Addr}
    {od__law_moves an__law_moves : Option Addr} {sl__law_moves : Array (Option Value)} {oc__law_moves kV__law_moves dc__law_moves pm__law_moves cd__law_moves ct__law_moves : Value} {f__law_moves : Addr}
    {od__law_due an__law_due : Option Addr} {sl__law_due : Array (Option Value)} {oc__law_due kV__law_due dc__law_due pm__law_due cd__law_due ct__law_due : Value} {f__law_due : Addr}
    {od__law_told an__law_told : Option Addr} {sl__law_told : Array (Option Value)} {oc__law_told kV__law_told dc__law_told pm__law_told cd__law_told ct__law_told : Value} {f__law_told : Addr}
    {od__law_right an__law_right : Option Addr} {sl__law_right : Array (Option Value)} {oc__law_right kV__law_right dc__law_right pm__law_right cd__law_right ct__law_right : Value} {f__law_right : Addr}
    {od_law an_law : Option Addr} {sl_law : Array (Option Value)} {oc_law kV_law dc_law pm_law cd_law ct_law : Value} {f_law : Addr}
    {od_House_i an_House_i : Option Addr} {sl_House_i : Array (Option Value)} {oc_House_i kV_House_i dc_House_i pm_House_i cd_House_i ct_House_i : Value} {f_House_i : Addr}
    {E_BadHouse : Addr}
    {E_TooMany : Addr}
    {E_BadLog : Addr}
    {E_LiftError : Addr}
    {nm_E_BadHouse qq_E_BadHouse : Str} {NN_E_BadHouse : Addr} {bs_E_BadHouse bm_E_BadHouse : List Value} {sn_E_BadHouse : List Str} {su_E_BadHouse : List Value} {ab_E_BadHouse : Bool} {co_E_BadHouse : Option Bool} {dd_E_BadHouse : Option Addr} {m0_E_BadHouse m1_E_BadHouse m2_E_BadHouse m3_E_BadHouse m5_E_BadHouse : Option Value}
    {od_E_BadHouse an_E_BadHouse : Option Addr} {sl_E_BadHouse : Array (Option Value)} {oc_E_BadHouse kV_E_BadHouse dc_E_BadHouse pm_E_BadHouse cd_E_BadHouse ct_E_BadHouse : Value} {f_E_BadHouse : Addr}
    {nm_E_TooMany qq_E_TooMany : Str} {NN_E_TooMany : Addr} {bs_E_TooMany bm_E_TooMany : List Value} {sn_E_TooMany : List Str} {su_E_TooMany : List Value} {ab_E_TooMany : Bool} {co_E_TooMany : Option Bool} {dd_E_TooMany : Option Addr} {m0_E_TooMany m1_E_TooMany m2_E_TooMany m3_E_TooMany m5_E_TooMany : Option Value}
    {od_E_TooMany an_E_TooMany : Option Addr} {sl_E_TooMany : Array (Option Value)} {oc_E_TooMany kV_E_TooMany dc_E_TooMany pm_E_TooMany cd_E_TooMany ct_E_TooMany : Value} {f_E_TooMany : Addr}
    {t_MOST_FLOORS : Tok}
    {t_MOST_ROOM : Tok}
    {t_UP : Tok}
    {t_DOWN : Tok}
    {t_MOST_TIMES : Tok}
    {t_TIMES : Tok}
    {t_MOST_DEPTH : Tok}
    {t_MOST_WRITTEN : Tok}
    {t_MOST_OUT : Tok}
    (a_is_integer : PySem.W.nsIn K mainGlobals "is_integer" = some (some (.ref f_is_integer)))
    (l_is_integer : K.lookup f_is_integer = some ⟨oc_is_integer, od_is_integer, .func (PySem.W.fnOf "is_integer" "is_integer" (defArgs s_is_integer) (defBody s_is_integer) (defScope s_is_integer) .none kV_is_integer dc_is_integer pm_is_integer an_is_integer cd_is_integer ct_is_integer), sl_is_integer⟩)
    (c_is_integer : PySem.W.codeIn K cd_is_integer "is_integer" = true) (k_is_integer : PySem.W.keepIn K (.ref f_is_integer) = true)
    (a_is_within : PySem.W.nsIn K mainGlobals "is_within" = some (some (.ref f_is_within)))
    (l_is_within : K.lookup f_is_within = some ⟨oc_is_within, od_is_within, .func (PySem.W.fnOf "is_within" "is_within" (defArgs s_is_within) (defBody s_is_within) (defScope s_is_within) .none kV_is_within dc_is_within pm_is_within an_is_within cd_is_within ct_is_within), sl_is_within⟩)
    (c_is_within : PySem.W.codeIn K cd_is_within "is_within" = true) (k_is_within : PySem.W.keepIn K (.ref f_is_within) = true)
    (a__law_draw : PySem.W.nsIn K mainGlobals "_law_draw" = some (some (.ref f__law_draw)))
    (l__law_draw : K.lookup f__law_draw = some ⟨oc__law_draw, od__law_draw, .func (PySem.W.fnOf "_law_draw" "_law_draw" (defArgs s__law_draw) (defBody s__law_draw) (defScope s__law_draw) .none kV__law_draw dc__law_draw pm__law_draw an__law_draw cd__law_draw ct__law_draw), sl__law_draw⟩)
    (c__law_draw : PySem.W.codeIn K cd__law_draw "_law_draw" = true) (k__law_draw : PySem.W.keepIn K (.ref f__law_draw) = true)
    (a__law_hand : PySem.W.nsIn K mainGlobals "_law_hand" = some (some (.ref f__law_hand)))
    (l__law_hand : K.lookup f__law_hand = some ⟨oc__law_hand, od__law_hand, .func (PySem.W.fnOf "_law_hand" "_law_hand" (defArgs s__law_hand) (defBody s__law_hand) (defScope s__law_hand) .none kV__law_hand dc__law_hand pm__law_hand an__law_hand cd__law_hand ct__law_hand), sl__law_hand⟩)
    (c__law_hand : PySem.W.codeIn K cd__law_hand "_law_hand" = true) (k__law_hand : PySem.W.keepIn K (.ref f__law_hand) = true)
    (a__law_is_int : PySem.W.nsIn K mainGlobals "_law_is_int" = some (some (.ref f__law_is_int)))
    (l__law_is_int : K.lookup f__law_is_int = some ⟨oc__law_is_int, od__law_is_int, .func (PySem.W.fnOf "_law_is_int" "_law_is_int" (defArgs s__law_is_int) (defBody s__law_is_int) (defScope s__law_is_int) .none kV__law_is_int dc__law_is_int pm__law_is_int an__law_is_int cd__law_is_int ct__law_is_int), sl__law_is_int⟩)
    (c__law_is_int : PySem.W.codeIn K cd__law_is_int "_law_is_int" = true) (k__law_is_int : PySem.W.keepIn K (.ref f__law_is_int) = true)
    (a_is_way : PySem.W.nsIn K mainGlobals "is_way" = some (some (.ref f_is_way)))
    (l_is_way : K.lookup f_is_way = some ⟨oc_is_way, od_is_way, .func (PySem.W.fnOf "is_way" "is_way" (defArgs s_is_way) (defBody s_is_way) (defScope s_is_way) .none kV_is_way dc_is_way pm_is_way an_is_way cd_is_way ct_is_way), sl_is_way⟩)
    (c_is_way : PySem.W.codeIn K cd_is_way "is_way" = true) (k_is_way : PySem.W.keepIn K (.ref f_is_way) = true)
    (a_is_aboard : PySem.W.nsIn K mainGlobals "is_aboard" = some (some (.ref f_is_aboard)))
    (l_is_aboard : K.lookup f_is_aboard = some ⟨oc_is_aboard, od_is_aboard, .func (PySem.W.fnOf "is_aboard" "is_aboard" (defArgs s_is_aboard) (defBody s_is_aboard) (defScope s_is_aboard) .none kV_is_aboard dc_is_aboard pm_is_aboard an_is_aboard cd_is_aboard ct_is_aboard), sl_is_aboard⟩)
    (c_is_aboard : PySem.W.codeIn K cd_is_aboard "is_aboard" = true) (k_is_aboard : PySem.W.keepIn K (.ref f_is_aboard) = true)
    (a_is_built_move : PySem.W.nsIn K mainGlobals "is_built_move" = some (some (.ref f_is_built_move)))
    (l_is_built_move : K.lookup f_is_built_move = some ⟨oc_is_built_move, od_is_built_move, .func (PySem.W.fnOf "is_built_move" "is_built_move" (defArgs s_is_built_move) (defBody s_is_built_move) (defScope s_is_built_move) .none kV_is_built_move dc_is_built_move pm_is_built_move an_is_built_move cd_is_built_move ct_is_built_move), sl_is_built_move⟩)
    (c_is_built_move : PySem.W.codeIn K cd_is_built_move "is_built_move" = true) (k_is_built_move : PySem.W.keepIn K (.ref f_is_built_move) = true)
    (a__law_is_built : PySem.W.nsIn K mainGlobals "_law_is_built" = some (some (.ref f__law_is_built)))
    (l__law_is_built : K.lookup f__law_is_built = some ⟨oc__law_is_built, od__law_is_built, .func (PySem.W.fnOf "_law_is_built" "_law_is_built" (defArgs s__law_is_built) (defBody s__law_is_built) (defScope s__law_is_built) .none kV__law_is_built dc__law_is_built pm__law_is_built an__law_is_built cd__law_is_built ct__law_is_built), sl__law_is_built⟩)
    (c__law_is_built : PySem.W.codeIn K cd__law_is_built "_law_is_built" = true) (k__law_is_built : PySem.W.keepIn K (.ref f__law_is_built) = true)
    (a__law_deep : PySem.W.nsIn K mainGlobals "_law_deep" = some (some (.ref f__law_deep)))
    (l__law_deep : K.lookup f__law_deep = some ⟨oc__law_deep, od__law_deep, .func (PySem.W.fnOf "_law_deep" "_law_deep" (defArgs s__law_deep) (defBody s__law_deep) (defScope s__law_deep) .none kV__law_deep dc__law_deep pm__law_deep an__law_deep cd__law_deep ct__law_deep), sl__law_deep⟩)
    (c__law_deep : PySem.W.codeIn K cd__law_deep "_law_deep" = true) (k__law_deep : PySem.W.keepIn K (.ref f__law_deep) = true)
    (a__law_bent_move : PySem.W.nsIn K mainGlobals "_law_bent_move" = some (some (.ref f__law_bent_move)))
    (l__law_bent_move : K.lookup f__law_bent_move = some ⟨oc__law_bent_move, od__law_bent_move, .func (PySem.W.fnOf "_law_bent_move" "_law_bent_move" (defArgs s__law_bent_move) (defBody s__law_bent_move) (defScope s__law_bent_move) .none kV__law_bent_move dc__law_bent_move pm__law_bent_move an__law_bent_move cd__law_bent_move ct__law_bent_move), sl__law_bent_move⟩)
    (c__law_bent_move : PySem.W.codeIn K cd__law_bent_move "_law_bent_move" = true) (k__law_bent_move : PySem.W.keepIn K (.ref f__law_bent_move) = true)
    (a_is_rounds : PySem.W.nsIn K mainGlobals "is_rounds" = some (some (.ref f_is_rounds)))
    (l_is_rounds : K.lookup f_is_rounds = some ⟨oc_is_rounds, od_is_rounds, .func (PySem.W.fnOf "is_rounds" "is_rounds" (defArgs s_is_rounds) (defBody s_is_rounds) (defScope s_is_rounds) .none kV_is_rounds dc_is_rounds pm_is_rounds an_is_rounds cd_is_rounds ct_is_rounds), sl_is_rounds⟩)
    (c_is_rounds : PySem.W.codeIn K cd_is_rounds "is_rounds" = true) (k_is_rounds : PySem.W.keepIn K (.ref f_is_rounds) = true)
    (a_written_in : PySem.W.nsIn K mainGlobals "written_in" = some (some (.ref f_written_in)))
    (l_written_in : K.lookup f_written_in = some ⟨oc_written_in, od_written_in, .func (PySem.W.fnOf "written_in" "written_in" (defArgs s_written_in) (defBody s_written_in) (defScope s_written_in) .none kV_written_in dc_written_in pm_written_in an_written_in cd_written_in ct_written_in), sl_written_in⟩)
    (c_written_in : PySem.W.codeIn K cd_written_in "written_in" = true) (k_written_in : PySem.W.keepIn K (.ref f_written_in) = true)
    (a_check_built : PySem.W.nsIn K mainGlobals "check_built" = some (some (.ref f_check_built)))
    (l_check_built : K.lookup f_check_built = some ⟨oc_check_built, od_check_built, .func (PySem.W.fnOf "check_built" "check_built" (defArgs s_check_built) (defBody s_check_built) (defScope s_check_built) .none kV_check_built dc_check_built pm_check_built an_check_built cd_check_built ct_check_built), sl_check_built⟩)
    (c_check_built : PySem.W.codeIn K cd_check_built "check_built" = true) (k_check_built : PySem.W.keepIn K (.ref f_check_built) = true)
    (a_count_of : PySem.W.nsIn K mainGlobals "count_of" = some (some (.ref f_count_of)))
    (l_count_of : K.lookup f_count_of = some ⟨oc_count_of, od_count_of, .func (PySem.W.fnOf "count_of" "count_of" (defArgs s_count_of) (defBody s_count_of) (defScope s_count_of) .none kV_count_of dc_count_of pm_count_of an_count_of cd_count_of ct_count_of), sl_count_of⟩)
    (c_count_of : PySem.W.codeIn K cd_count_of "count_of" = true) (k_count_of : PySem.W.keepIn K (.ref f_count_of) = true)
    (a_length_of : PySem.W.nsIn K mainGlobals "length_of" = some (some (.ref f_length_of)))
    (l_length_of : K.lookup f_length_of = some ⟨oc_length_of, od_length_of, .func (PySem.W.fnOf "length_of" "length_of" (defArgs s_length_of) (defBody s_length_of) (defScope s_length_of) .none kV_length_of dc_length_of pm_length_of an_length_of cd_length_of ct_length_of), sl_length_of⟩)
    (c_length_of : PySem.W.codeIn K cd_length_of "length_of" = true) (k_length_of : PySem.W.keepIn K (.ref f_length_of) = true)
    (a_out_of : PySem.W.nsIn K mainGlobals "out_of" = some (some (.ref f_out_of)))
    (l_out_of : K.lookup f_out_of = some ⟨oc_out_of, od_out_of, .func (PySem.W.fnOf "out_of" "out_of" (defArgs s_out_of) (defBody s_out_of) (defScope s_out_of) .none kV_out_of dc_out_of pm_out_of an_out_of cd_out_of ct_out_of), sl_out_of⟩)
    (c_out_of : PySem.W.codeIn K cd_out_of "out_of" = true) (k_out_of : PySem.W.keepIn K (.ref f_out_of) = true)
    (a_written_out : PySem.W.nsIn K mainGlobals "written_out" = some (some (.ref f_written_out)))
    (l_written_out : K.lookup f_written_out = some ⟨oc_written_out, od_written_out, .func (PySem.W.fnOf "written_out" "written_out" (defArgs s_written_out) (defBody s_written_out) (defScope s_written_out) .none kV_written_out dc_written_out pm_written_out an_written_out cd_written_out ct_written_out), sl_written_out⟩)
    (c_written_out : PySem.W.codeIn K cd_written_out "written_out" = true) (k_written_out : PySem.W.keepIn K (.ref f_written_out) = true)
    (a__law_any_move : PySem.W.nsIn K mainGlobals "_law_any_move" = some (some (.ref f__law_any_move)))
    (l__law_any_move : K.lookup f__law_any_move = some ⟨oc__law_any_move, od__law_any_move, .func (PySem.W.fnOf "_law_any_move" "_law_any_move" (defArgs s__law_any_move) (defBody s__law_any_move) (defScope s__law_any_move) .none kV__law_any_move dc__law_any_move pm__law_any_move an__law_any_move cd__law_any_move ct__law_any_move), sl__law_any_move⟩)
    (c__law_any_move : PySem.W.codeIn K cd__law_any_move "_law_any_move" = true) (k__law_any_move : PySem.W.keepIn K (.ref f__law_any_move) = true)
    (a_as_log : PySem.W.nsIn K mainGlobals "as_log" = some (some (.ref f_as_log)))
    (l_as_log : K.lookup f_as_log = some ⟨oc_as_log, od_as_log, .func (PySem.W.fnOf "as_log" "as_log" (defArgs s_as_log) (defBody s_as_log) (defScope s_as_log) .none kV_as_log dc_as_log pm_as_log an_as_log cd_as_log ct_as_log), sl_as_log⟩)
    (c_as_log : PySem.W.codeIn K cd_as_log "as_log" = true) (k_as_log : PySem.W.keepIn K (.ref f_as_log) = true)
    (a__law_moves : PySem.W.nsIn K mainGlobals "_law_moves" = some (some (.ref f__law_moves)))
    (l__law_moves : K.lookup f__law_moves = some ⟨oc__law_moves, od__law_moves, .func (PySem.W.fnOf "_law_moves" "_law_moves" (defArgs s__law_moves) (defBody s__law_moves) (defScope s__law_moves) .none kV__law_moves dc__law_moves pm__law_moves an__law_moves cd__law_moves ct__law_moves), sl__law_moves⟩)
    (c__law_moves : PySem.W.codeIn K cd__law_moves "_law_moves" = true) (k__law_moves : PySem.W.keepIn K (.ref f__law_moves) = true)
    (a__law_due : PySem.W.nsIn K mainGlobals "_law_due" = some (some (.ref f__law_due)))
    (l__law_due : K.lookup f__law_due = some ⟨oc__law_due, od__law_due, .func (PySem.W.fnOf "_law_due" "_law_due" (defArgs s__law_due) (defBody s__law_due) (defScope s__law_due) .none kV__law_due dc__law_due pm__law_due an__law_due cd__law_due ct__law_due), sl__law_due⟩)
    (c__law_due : PySem.W.codeIn K cd__law_due "_law_due" = true) (k__law_due : PySem.W.keepIn K (.ref f__law_due) = true)
    (a__law_told : PySem.W.nsIn K mainGlobals "_law_told" = some (some (.ref f__law_told)))
    (l__law_told : K.lookup f__law_told = some ⟨oc__law_told, od__law_told, .func (PySem.W.fnOf "_law_told" "_law_told" (defArgs s__law_told) (defBody s__law_told) (defScope s__law_told) .none kV__law_told dc__law_told pm__law_told an__law_told cd__law_told ct__law_told), sl__law_told⟩)
    (c__law_told : PySem.W.codeIn K cd__law_told "_law_told" = true) (k__law_told : PySem.W.keepIn K (.ref f__law_told) = true)
    (a__law_right : PySem.W.nsIn K mainGlobals "_law_right" = some (some (.ref f__law_right)))
    (l__law_right : K.lookup f__law_right = some ⟨oc__law_right, od__law_right, .func (PySem.W.fnOf "_law_right" "_law_right" (defArgs s__law_right) (defBody s__law_right) (defScope s__law_right) .none kV__law_right dc__law_right pm__law_right an__law_right cd__law_right ct__law_right), sl__law_right⟩)
    (c__law_right : PySem.W.codeIn K cd__law_right "_law_right" = true) (k__law_right : PySem.W.keepIn K (.ref f__law_right) = true)
    (a_law : PySem.W.nsIn K mainGlobals "law" = some (some (.ref f_law)))
    (l_law : K.lookup f_law = some ⟨oc_law, od_law, .func (PySem.W.fnOf "law" "law" (defArgs s_law) (defBody s_law) (defScope s_law) .none kV_law dc_law pm_law an_law cd_law ct_law), sl_law⟩)
    (c_law : PySem.W.codeIn K cd_law "law" = true) (k_law : PySem.W.keepIn K (.ref f_law) = true)
    (a_House_i : PySem.W.nsIn K mainGlobals "House" = some (some (.ref CH)))
    (i_House_i : PySem.W.findIn K (.ref CH) "__init__" = some (some (.ref f_House_i))) (n_House_i : PySem.W.isFn K (.ref f_House_i) = true)
    (l_House_i : K.lookup f_House_i = some ⟨oc_House_i, od_House_i, .func (PySem.W.fnOf "__init__" "House.__init__" (defArgs s_House___init__) (defBody s_House___init__) (defScope s_House___init__) .none kV_House_i dc_House_i pm_House_i an_House_i cd_House_i ct_House_i), sl_House_i⟩)
    (c_House_i : PySem.W.codeIn K cd_House_i "House.__init__" = true) (k_House_i : PySem.W.keepIn K (.ref f_House_i) = true) (m_House_i : PySem.W.makesIn K CH = true) (kc_House_i : PySem.W.keepIn K (.ref CH) = true)
    (pg_House_i : PySem.W.plainGet K CH Str.empty = true) (hd_House_i : PySem.W.hasDictIn K CH = true) (po_House_i : PySem.W.plainOver K CH = true) (sa_House_i : PySem.W.findIn K (.ref CH) "__setattr__" = some (some (.builtin "object.__setattr__")))
    (ha_House_i : PySem.W.findIn K (.ref CH) "__class__" = some (some (.builtin "object.__class__"))) (hm_House_i : PySem.W.mroIn K CH (.type "object") = some true) (me_House_i : PySem.W.kitOne K (.ref CH) (.ref CH) = some true)
    (na_H_floors : PySem.W.findIn K (.ref CH) "floors" = some none)
    (na_H_room : PySem.W.findIn K (.ref CH) "room" = some none)
    (a_E_BadHouse : PySem.W.nsIn K mainGlobals "BadHouse" = some (some (.ref E_BadHouse)))
    (a_E_TooMany : PySem.W.nsIn K mainGlobals "TooMany" = some (some (.ref E_TooMany)))
    (hg_E_TooMany : PySem.W.findIn K (.ref E_TooMany) "__getattribute__" = some (some (.builtin "BaseException.__getattribute__"))) (hk_E_TooMany : PySem.W.findIn K (.ref E_TooMany) "__getattr__" = some none) (hs_E_TooMany : PySem.W.subIn K (.ref E_TooMany) (.type "BaseException") = some true) (hd_E_TooMany : PySem.W.hasDictIn K E_TooMany = true)
    (a_E_BadLog : PySem.W.nsIn K mainGlobals "BadLog" = some (some (.ref E_BadLog)))
    (xq_E_BadLog : PySem.W.excIn K E_BadLog [.type "ValueError", .type "Exception", .type "BaseException", .type "object"] "ValueError.__new__" = true) (kp_E_BadLog : PySem.W.keepIn K (.ref E_BadLog) = true) (sb_E_BadLog : PySem.W.subIn K (.ref E_BadLog) (.type "BaseException") = some true) (ty_E_BadLog : PySem.W.typeIn K (.ref E_BadLog) = some (.type "type"))
    (hg_E_BadLog : PySem.W.findIn K (.ref E_BadLog) "__getattribute__" = some (some (.builtin "BaseException.__getattribute__"))) (hk_E_BadLog : PySem.W.findIn K (.ref E_BadLog) "__getattr__" = some none) (hs_E_BadLog : PySem.W.subIn K (.ref E_BadLog) (.type "BaseException") = some true) (hd_E_BadLog : PySem.W.hasDictIn K E_BadLog = true)
    (ha_E_BadLog : PySem.W.findIn K (.ref E_BadLog) "__class__" = some (some (.builtin "object.__class__"))) (hm_E_BadLog : PySem.W.mroIn K E_BadLog (.type "object") = some true)
    (a_E_LiftError : PySem.W.nsIn K mainGlobals "LiftError" = some (some (.ref E_LiftError)))
    (xL_E_BadHouse : K.lookup E_BadHouse = some (excClassObj nm_E_BadHouse qq_E_BadHouse E_BadHouse NN_E_BadHouse bs_E_BadHouse bm_E_BadHouse true sn_E_BadHouse su_E_BadHouse ab_E_BadHouse co_E_BadHouse dd_E_BadHouse m0_E_BadHouse m1_E_BadHouse m2_E_BadHouse m3_E_BadHouse m5_E_BadHouse "ValueError.__new__")) (rf_E_BadHouse : PySem.HandSPX.refsVE bm_E_BadHouse = true)
    (xa_E_BadHouse : PySem.W.findIn K (.ref E_BadHouse) "__setattr__" = some (some (.builtin "object.__setattr__"))) (xb_E_BadHouse : PySem.W.subIn K (.ref E_BadHouse) (.type "BaseException") = some true) (xt_E_BadHouse : PySem.W.typeIn K (.ref E_BadHouse) = some (.type "type")) (xk_E_BadHouse : PySem.W.keepIn K (.ref E_BadHouse) = true) (xn_E_BadHouse : PySem.W.findIn K (.ref E_BadHouse) "part" = some none)
    (ii_E_BadHouse : PySem.W.findIn K (.ref E_BadHouse) "__init__" = some (some (.ref f_E_BadHouse))) (ti_E_BadHouse : PySem.W.typeIn K (.ref f_E_BadHouse) = some (.type "function"))
    (li_E_BadHouse : K.lookup f_E_BadHouse = some ⟨oc_E_BadHouse, od_E_BadHouse, .func (PySem.W.fnOf "__init__" "BadHouse.__init__" (defArgs s_BadHouse___init__) (defBody s_BadHouse___init__) (defScope s_BadHouse___init__) .none kV_E_BadHouse dc_E_BadHouse pm_E_BadHouse an_E_BadHouse cd_E_BadHouse ct_E_BadHouse), sl_E_BadHouse⟩)
    (ci_E_BadHouse : PySem.W.codeIn K cd_E_BadHouse "BadHouse.__init__" = true) (ki_E_BadHouse : PySem.W.keepIn K (.ref f_E_BadHouse) = true)
    (xL_E_TooMany : K.lookup E_TooMany = some (excClassObj nm_E_TooMany qq_E_TooMany E_TooMany NN_E_TooMany bs_E_TooMany bm_E_TooMany true sn_E_TooMany su_E_TooMany ab_E_TooMany co_E_TooMany dd_E_TooMany m0_E_TooMany m1_E_TooMany m2_E_TooMany m3_E_TooMany m5_E_TooMany "ValueError.__new__")) (rf_E_TooMany : PySem.HandSPX.refsVE bm_E_TooMany = true)
    (xa_E_TooMany : PySem.W.findIn K (.ref E_TooMany) "__setattr__" = some (some (.builtin "object.__setattr__"))) (xb_E_TooMany : PySem.W.subIn K (.ref E_TooMany) (.type "BaseException") = some true) (xt_E_TooMany : PySem.W.typeIn K (.ref E_TooMany) = some (.type "type")) (xk_E_TooMany : PySem.W.keepIn K (.ref E_TooMany) = true) (xn_E_TooMany : PySem.W.findIn K (.ref E_TooMany) "limit" = some none)
    (ii_E_TooMany : PySem.W.findIn K (.ref E_TooMany) "__init__" = some (some (.ref f_E_TooMany))) (ti_E_TooMany : PySem.W.typeIn K (.ref f_E_TooMany) = some (.type "function"))
    (li_E_TooMany : K.lookup f_E_TooMany = some ⟨oc_E_TooMany, od_E_TooMany, .func (PySem.W.fnOf "__init__" "TooMany.__init__" (defArgs s_TooMany___init__) (defBody s_TooMany___init__) (defScope s_TooMany___init__) .none kV_E_TooMany dc_E_TooMany pm_E_TooMany an_E_TooMany cd_E_TooMany ct_E_TooMany), sl_E_TooMany⟩)
    (ci_E_TooMany : PySem.W.codeIn K cd_E_TooMany "TooMany.__init__" = true) (ki_E_TooMany : PySem.W.keepIn K (.ref f_E_TooMany) = true)
    (nii_CH : PySem.W.kitOne K (.ref CH) (.type "int") = some false) (nib_CH : PySem.W.kitOne K (.ref CH) (.type "bool") = some false)
    (ntt_CH : PySem.W.kitOne K (.ref CH) (.type "tuple") = some false)
    (ntl_CH : PySem.W.kitOne K (.ref CH) (.type "list") = some false)
    (nts_CH : PySem.W.kitOne K (.ref CH) (.type "str") = some false)
    (nf_TooMany_limit : PySem.W.findIn K (.ref E_TooMany) "limit" = some none)
    (m_MM : PySem.W.exmOne K (.ref E_TooMany) (.ref E_TooMany) = some true)
    (m_LM : PySem.W.exmOne K (.ref E_BadLog) (.ref E_TooMany) = some false)
    (m_LL : PySem.W.exmOne K (.ref E_BadLog) (.ref E_LiftError) = some true)
    (k_LL : PySem.W.kitOne K (.ref E_BadLog) (.ref E_BadLog) = some true)
    (hn : PySem.W.specialIn K (.builtin "object.__class__") "__get__" = some (some (.builtin "getset_descriptor.__get__"))) (htk : PySem.W.takesIn K (.builtin "object.__class__") = some true)
    (q_MOST_FLOORS : PySem.W.nsIn K mainGlobals "MOST_FLOORS" = some (some (.int 40 t_MOST_FLOORS)))
    (q_MOST_ROOM : PySem.W.nsIn K mainGlobals "MOST_ROOM" = some (some (.int (10 ^ 12) t_MOST_ROOM)))
    (q_UP : PySem.W.nsIn K mainGlobals "UP" = some (some (.int 1 t_UP)))
    (q_DOWN : PySem.W.nsIn K mainGlobals "DOWN" = some (some (.int (-1) t_DOWN)))
    (q_MOST_TIMES : PySem.W.nsIn K mainGlobals "MOST_TIMES" = some (some (.int (10 ^ 30) t_MOST_TIMES)))
    (q_TIMES : PySem.W.nsIn K mainGlobals "TIMES" = some (some (.str "times" t_TIMES)))
    (q_MOST_DEPTH : PySem.W.nsIn K mainGlobals "MOST_DEPTH" = some (some (.int 3 t_MOST_DEPTH)))
    (q_MOST_WRITTEN : PySem.W.nsIn K mainGlobals "MOST_WRITTEN" = some (some (.int 200 t_MOST_WRITTEN)))
    (q_MOST_OUT : PySem.W.nsIn K mainGlobals "MOST_OUT" = some (some (.int 5000 t_MOST_OUT)))
    (z_len : PySem.W.nsIn K mainGlobals "len" = some none)
    (z_sum : PySem.W.nsIn K mainGlobals "sum" = some none)
    (z_all : PySem.W.nsIn K mainGlobals "all" = some none)
    (z_any : PySem.W.nsIn K mainGlobals "any" = some none)
    (z_max : PySem.W.nsIn K mainGlobals "max" = some none)
    (z_min : PySem.W.nsIn K mainGlobals "min" = some none)
    (z_abs : PySem.W.nsIn K mainGlobals "abs" = some none)
    (z_int : PySem.W.nsIn K mainGlobals "int" = some none)
    (z_bool : PySem.W.nsIn K mainGlobals "bool" = some none)
    (z_tuple : PySem.W.nsIn K mainGlobals "tuple" = some none)
    (z_list : PySem.W.nsIn K mainGlobals "list" = some none)
    (z_dict : PySem.W.nsIn K mainGlobals "dict" = some none)
    (z_str : PySem.W.nsIn K mainGlobals "str" = some none)
    (z_isinstance : PySem.W.nsIn K mainGlobals "isinstance" = some none)
    (z_sorted : PySem.W.nsIn K mainGlobals "sorted" = some none)
    (z_range : PySem.W.nsIn K mainGlobals "range" = some none)
    (z_zip : PySem.W.nsIn K mainGlobals "zip" = some none)
    (z_enumerate : PySem.W.nsIn K mainGlobals "enumerate" = some none)
    : ∃ fd : FuncData, (∀ (s : Shared) (v : Value), BindsTo s fd ⟨[v], []⟩ [("_law_script", v)]) ∧ ∀ base : Heap, K.In base → base.Ns mainGlobals mg → FnOk l.prog w K mg base CX0 9 fa fd ["_law_script"] (spLaw K) := by
  have e := hfa.symm.trans (PySem.W.mg_of X G a_law)
  cases e
  have B : Bi mg := ⟨PySem.W.mg_none_of X G z_len, PySem.W.mg_none_of X G z_sum, PySem.W.mg_none_of X G z_all, PySem.W.mg_none_of X G z_any, PySem.W.mg_none_of X G z_max, PySem.W.mg_none_of X G z_min, PySem.W.mg_none_of X G z_abs, PySem.W.mg_none_of X G z_int, PySem.W.mg_none_of X G z_bool, PySem.W.mg_none_of X G z_tuple, PySem.W.mg_none_of X G z_list, PySem.W.mg_none_of X G z_dict, PySem.W.mg_none_of X G z_str, PySem.W.mg_none_of X G z_isinstance, PySem.W.mg_none_of X G z_sorted, PySem.W.mg_none_of X G z_range, PySem.W.mg_none_of X G z_zip, PySem.W.mg_none_of X G z_enumerate⟩
  have R_is_integer : Raw K mg "is_integer" s_is_integer := raw_mk X G a_is_integer l_is_integer c_is_integer k_is_integer
  have R_is_within : Raw K mg "is_within" s_is_within := raw_mk X G a_is_within l_is_within c_is_within k_is_within
  have R__law_draw : Raw K mg "_law_draw" s__law_draw := raw_mk X G a__law_draw l__law_draw c__law_draw k__law_draw
  have R__law_hand : Raw K mg "_law_hand" s__law_hand := raw_mk X G a__law_hand l__law_hand c__law_hand k__law_hand
  have R__law_is_int : Raw K mg "_law_is_int" s__law_is_int := raw_mk X G a__law_is_int l__law_is_int c__law_is_int k__law_is_int
  have R_is_way : Raw K mg "is_way" s_is_way := raw_mk X G a_is_way l_is_way c_is_way k_is_way
  have R_is_aboard : Raw K mg "is_aboard" s_is_aboard := raw_mk X G a_is_aboard l_is_aboard c_is_aboard k_is_aboard
  have R_is_built_move : Raw K mg "is_built_move" s_is_built_move := raw_mk X G a_is_built_move l_is_built_move c_is_built_move k_is_built_move
  have R__law_is_built : Raw K mg "_law_is_built" s__law_is_built := raw_mk X G a__law_is_built l__law_is_built c__law_is_built k__law_is_built
  have R__law_deep : Raw K mg "_law_deep" s__law_deep := raw_mk X G a__law_deep l__law_deep c__law_deep k__law_deep
  have R__law_bent_move : Raw K mg "_law_bent_move" s__law_bent_move := raw_mk X G a__law_bent_move l__law_bent_move c__law_bent_move k__law_bent_move
  have R_is_rounds : Raw K mg "is_rounds" s_is_rounds := raw_mk X G a_is_rounds l_is_rounds c_is_rounds k_is_rounds
  have R_written_in : Raw K mg "written_in" s_written_in := raw_mk X G a_written_in l_written_in c_written_in k_written_in
  have R_check_built : Raw K mg "check_built" s_check_built := raw_mk X G a_check_built l_check_built c_check_built k_check_built
  have R_count_of : Raw K mg "count_of" s_count_of := raw_mk X G a_count_of l_count_of c_count_of k_count_of
  have R_length_of : Raw K mg "length_of" s_length_of := raw_mk X G a_length_of l_length_of c_length_of k_length_of
  have R_out_of : Raw K mg "out_of" s_out_of := raw_mk X G a_out_of l_out_of c_out_of k_out_of
  have R_written_out : Raw K mg "written_out" s_written_out := raw_mk X G a_written_out l_written_out c_written_out k_written_out
  have R__law_any_move : Raw K mg "_law_any_move" s__law_any_move := raw_mk X G a__law_any_move l__law_any_move c__law_any_move k__law_any_move
  have R_as_log : Raw K mg "as_log" s_as_log := raw_mk X G a_as_log l_as_log c_as_log k_as_log
  have R__law_moves : Raw K mg "_law_moves" s__law_moves := raw_mk X G a__law_moves l__law_moves c__law_moves k__law_moves
  have R__law_due : Raw K mg "_law_due" s__law_due := raw_mk X G a__law_due l__law_due c__law_due k__law_due
  have R__law_told : Raw K mg "_law_told" s__law_told := raw_mk X G a__law_told l__law_told c__law_told k__law_told
  have R__law_right : Raw K mg "_law_right" s__law_right := raw_mk X G a__law_right l__law_right c__law_right k__law_right
  have R_law : Raw K mg "law" s_law := raw_mk X G a_law l_law c_law k_law
  have R_House___init__ : RawC K mg "House" "House.__init__" s_House___init__ CH := rawC_mk X G a_House_i i_House_i n_House_i l_House_i c_House_i k_House_i m_House_i kc_House_i
  have i_CH : C8.InsC K CH := ⟨⟨pg_House_i, hd_House_i, po_House_i, sa_House_i⟩, ha_House_i, hn, htk, hm_House_i, me_House_i⟩
  have g_House : mg "House" = some (.ref CH) := PySem.W.mg_of X G a_House_i
  have g_BadHouse : mg "BadHouse" = some (.ref E_BadHouse) := PySem.W.mg_of X G a_E_BadHouse
  have I_BadHouse : Ab.ErrI K mg "BadHouse" "BadHouse.__init__" s_BadHouse___init__ E_BadHouse "part" := ⟨⟨⟨nm_E_BadHouse, qq_E_BadHouse, NN_E_BadHouse, bs_E_BadHouse, bm_E_BadHouse, sn_E_BadHouse, su_E_BadHouse, ab_E_BadHouse, co_E_BadHouse, dd_E_BadHouse, m0_E_BadHouse, m1_E_BadHouse, m2_E_BadHouse, m3_E_BadHouse, m5_E_BadHouse, xL_E_BadHouse, rf_E_BadHouse⟩, xa_E_BadHouse, xb_E_BadHouse, xt_E_BadHouse, xk_E_BadHouse⟩, g_BadHouse, xn_E_BadHouse, _, _, fun_mk (st := s_BadHouse___init__) li_E_BadHouse ci_E_BadHouse ki_E_BadHouse, ii_E_BadHouse, ti_E_BadHouse⟩
  have g_TooMany : mg "TooMany" = some (.ref E_TooMany) := PySem.W.mg_of X G a_E_TooMany
  have I_TooMany : Ab.ErrI K mg "TooMany" "TooMany.__init__" s_TooMany___init__ E_TooMany "limit" := ⟨⟨⟨nm_E_TooMany, qq_E_TooMany, NN_E_TooMany, bs_E_TooMany, bm_E_TooMany, sn_E_TooMany, su_E_TooMany, ab_E_TooMany, co_E_TooMany, dd_E_TooMany, m0_E_TooMany, m1_E_TooMany, m2_E_TooMany, m3_E_TooMany, m5_E_TooMany, xL_E_TooMany, rf_E_TooMany⟩, xa_E_TooMany, xb_E_TooMany, xt_E_TooMany, xk_E_TooMany⟩, g_TooMany, xn_E_TooMany, _, _, fun_mk (st := s_TooMany___init__) li_E_TooMany ci_E_TooMany ki_E_TooMany, ii_E_TooMany, ti_E_TooMany⟩
  have xf_TooMany : XfC K E_TooMany := ⟨hg_E_TooMany, hk_E_TooMany, hs_E_TooMany, hd_E_TooMany⟩
  have g_BadLog : mg "BadLog" = some (.ref E_BadLog) := PySem.W.mg_of X G a_E_BadLog
  have T_BadLog : Ab.ErrC K E_BadLog := ⟨xq_E_BadLog, kp_E_BadLog, sb_E_BadLog, ty_E_BadLog⟩
  have xc_BadLog : ExcC K E_BadLog := ⟨hg_E_BadLog, hk_E_BadLog, hs_E_BadLog, hd_E_BadLog, ha_E_BadLog, hn, htk, hm_E_BadLog⟩
  have g_LiftError : mg "LiftError" = some (.ref E_LiftError) := PySem.W.mg_of X G a_E_LiftError
  have ni_CH : NoInt K CH := ⟨nii_CH, nib_CH⟩
  have nt_CH : NoTup K CH := ⟨ntt_CH, ntl_CH, nts_CH⟩
  have c_MOST_FLOORS := PySem.W.mg_of X G q_MOST_FLOORS
  have c_MOST_ROOM := PySem.W.mg_of X G q_MOST_ROOM
  have c_UP := PySem.W.mg_of X G q_UP
  have c_DOWN := PySem.W.mg_of X G q_DOWN
  have c_MOST_TIMES := PySem.W.mg_of X G q_MOST_TIMES
  have c_TIMES := PySem.W.mg_of X G q_TIMES
  have c_MOST_DEPTH := PySem.W.mg_of X G q_MOST_DEPTH
  have c_MOST_WRITTEN := PySem.W.mg_of X G q_MOST_WRITTEN
  have c_MOST_OUT := PySem.W.mg_of X G q_MOST_OUT
  have F := fun_mk (st := s_law) l_law c_law k_law
  refine ⟨PySem.W.fnOf "law" "law" (defArgs s_law) (defBody s_law) (defScope s_law) .none kV_law dc_law pm_law an_law cd_law ct_law, fun s v => .of_eq rfl, fun base _ _ => ?_⟩

  have h0_Y_err_BadHouse := Y_err_BadHouse (P := l.prog) (w := w) (K := K) (mg := mg) (base := base) (E_BadHouse := E_BadHouse) (by with_reducible assumption)
  have h1_Y_err_TooMany := Y_err_TooMany (P := l.prog) (w := w) (K := K) (mg := mg) (base := base) (E_TooMany := E_TooMany) (by with_reducible assumption)
  have h2_X_integer := X_integer (P := l.prog) (w := w) (K := K) (mg := mg) (base := base) (by with_reducible assumption) (by with_reducible assumption)
  have h3_X_within := X_within (P := l.prog) (w := w) (K := K) (mg := mg) (base := base) (by with_reducible assumption) (by with_reducible assumption) (by with_reducible assumption)
  have h4_Y_House := Y_House (P := l.prog) (w := w) (K := K) (mg := mg) (base := base) (CH := CH) (E_BadHouse := E_BadHouse) (by with_reducible assumption) (by with_reducible assumption) (by with_reducible assumption) (by with_reducible assumption) (by with_reducible assumption) (by with_reducible assumption) (by with_reducible assumption) (by with_reducible assumption) (by with_reducible assumption)
  have h5_D__law_draw := D__law_draw (P := l.prog) (w := w) (K := K) (mg := mg) (base := base) (by with_reducible assumption) (by with_reducible assumption)
  have h6_D__law_hand := D__law_hand (P := l.prog) (w := w) (K := K) (mg := mg) (base := base) (by with_reducible assumption) (by with_reducible assumption)
  have h7_D__law_is_int := D__law_is_int (P := l.prog) (w := w) (K := K) (mg := mg) (base := base) (by with_reducible assumption) (by with_reducible assumption)
  have h8_Z_is_way := Z_is_way (P := l.prog) (w := w) (K := K) (mg := mg) (base := base) (by with_reducible assumption) (by with_reducible assumption) (by with_reducible assumption) (by with_reducible assumption) (by with_reducible assumption)
  have h9_Z_is_aboard := Z_is_aboard (P := l.prog) (w := w) (K := K) (mg := mg) (base := base) (by with_reducible assumption) (by with_reducible assumption) (by with_reducible assumption)
  have h10_Z_is_built_move := Z_is_built_move (P := l.prog) (w := w) (K := K) (mg := mg) (base := base) (by with_reducible assumption) (by with_reducible assumption) (by with_reducible assumption) (by with_reducible assumption)
  have h11_D__law_is_built := D__law_is_built (P := l.prog) (w := w) (K := K) (mg := mg) (base := base) (by with_reducible assumption) (by with_reducible assumption) (by with_reducible assumption)
  have h12_D__law_deep := D__law_deep (P := l.prog) (w := w) (K := K) (mg := mg) (base := base) (by with_reducible assumption) (by with_reducible assumption)
  have h13_D__law_bent_move := D__law_bent_move (P := l.prog) (w := w) (K := K) (mg := mg) (base := base) (CH := CH) (by with_reducible assumption) (by with_reducible assumption) (by with_reducible assumption) (by with_reducible assumption) (by with_reducible assumption) (by with_reducible assumption) (by with_reducible assumption)
  have h14_Z_is_rounds := Z_is_rounds (P := l.prog) (w := w) (K := K) (mg := mg) (base := base) (by with_reducible assumption) (by with_reducible assumption) (by with_reducible assumption) (by with_reducible assumption) (by with_reducible assumption)
  have h15_Z_written_in := Z_written_in (P := l.prog) (w := w) (K := K) (mg := mg) (base := base) (by with_reducible assumption) (by with_reducible assumption) (by with_reducible assumption) (by with_reducible assumption) (by with_reducible assumption) (by with_reducible assumption)
  have h16_Y_check_built := Y_check_built (P := l.prog) (w := w) (K := K) (mg := mg) (base := base) (E_BadLog := E_BadLog) (by with_reducible assumption) (by with_reducible assumption) (by with_reducible assumption) (by with_reducible assumption) (by with_reducible assumption)
  have h17_D_count_of0 := D_count_of0 (P := l.prog) (w := w) (K := K) (mg := mg) (base := base) (by with_reducible assumption)
  have h18_D_count_of1 := D_count_of1 (P := l.prog) (w := w) (K := K) (mg := mg) (base := base) (by with_reducible assumption) (by with_reducible assumption) (by with_reducible assumption)
  have h19_D_count_of2 := D_count_of2 (P := l.prog) (w := w) (K := K) (mg := mg) (base := base) (by with_reducible assumption) (by with_reducible assumption) (by with_reducible assumption)
  have h20_D_count_of3 := D_count_of3 (P := l.prog) (w := w) (K := K) (mg := mg) (base := base) (by with_reducible assumption) (by with_reducible assumption) (by with_reducible assumption)
  have h21_D_count_of4 := D_count_of4 (P := l.prog) (w := w) (K := K) (mg := mg) (base := base) (by with_reducible assumption) (by with_reducible assumption) (by with_reducible assumption)
  have h22_Y_length_of := Y_length_of (P := l.prog) (w := w) (K := K) (mg := mg) (base := base) (E_BadLog := E_BadLog) (by with_reducible assumption) (by with_reducible assumption) (by with_reducible assumption) (by with_reducible assumption)
  have h23_D_out_of0 := D_out_of0 (P := l.prog) (w := w) (K := K) (mg := mg) (base := base) (by with_reducible assumption)
  have h24_D_out_of1 := D_out_of1 (P := l.prog) (w := w) (K := K) (mg := mg) (base := base) (by with_reducible assumption) (by with_reducible assumption) (by with_reducible assumption)
  have h25_D_out_of2 := D_out_of2 (P := l.prog) (w := w) (K := K) (mg := mg) (base := base) (by with_reducible assumption) (by with_reducible assumption) (by with_reducible assumption)
  have h26_D_out_of3 := D_out_of3 (P := l.prog) (w := w) (K := K) (mg := mg) (base := base) (by with_reducible assumption) (by with_reducible assumption) (by with_reducible assumption)
  have h27_D_out_of4 := D_out_of4 (P := l.prog) (w := w) (K := K) (mg := mg) (base := base) (by with_reducible assumption) (by with_reducible assumption) (by with_reducible assumption)
  have h28_Y_written_out := Y_written_out (P := l.prog) (w := w) (K := K) (mg := mg) (base := base) (E_BadLog := E_BadLog) (E_TooMany := E_TooMany) (by with_reducible assumption) (by with_reducible assumption) (by with_reducible assumption) (by with_reducible assumption) (by with_reducible assumption) (by with_reducible assumption) (by with_reducible assumption)
  have h29_D__law_any_move := D__law_any_move (P := l.prog) (w := w) (K := K) (mg := mg) (base := base) (by with_reducible assumption) (by with_reducible assumption) (by with_reducible assumption)
  have h30_Y_as_log := Y_as_log (P := l.prog) (w := w) (K := K) (mg := mg) (base := base) (E_BadLog := E_BadLog) (E_TooMany := E_TooMany) (by with_reducible assumption) (by with_reducible assumption) (by with_reducible assumption) (by with_reducible assumption) (by with_reducible assumption) (by with_reducible assumption) (by with_reducible assumption) (by with_reducible assumption)
  have h31_D__law_moves := D__law_moves (P := l.prog) (w := w) (K := K) (mg := mg) (base := base) (by with_reducible assumption) (by with_reducible assumption) (by with_reducible assumption) (by with_reducible assumption)
  have h32_D__law_due := D__law_due (P := l.prog) (w := w) (K := K) (mg := mg) (base := base) (by with_reducible assumption) (by with_reducible assumption)
  have h33_D__law_told := D__law_told (P := l.prog) (w := w) (K := K) (mg := mg) (base := base) (E_BadLog := E_BadLog) (E_TooMany := E_TooMany) (E_LiftError := E_LiftError) (by with_reducible assumption) (by with_reducible assumption) (by with_reducible assumption) (by with_reducible assumption) (by with_reducible assumption) (by with_reducible assumption) (by with_reducible assumption) (by with_reducible assumption) (by with_reducible assumption) (by with_reducible assumption) (by with_reducible assumption) (by with_reducible assumption) (by with_reducible assumption)
  have h34_D__law_right := D__law_right (P := l.prog) (w := w) (K := K) (mg := mg) (base := base) (E_BadLog := E_BadLog) (E_TooMany := E_TooMany) (by with_reducible assumption) (by with_reducible assumption) (by with_reducible assumption) (by with_reducible assumption) (by with_reducible assumption) (by with_reducible assumption) (by with_reducible assumption) (by with_reducible assumption)
  exact D_law (E_BadHouse := E_BadHouse) F (by with_reducible assumption) (by with_reducible assumption) (by with_reducible assumption) (by with_reducible assumption) (by with_reducible assumption) (by with_reducible assumption) (by with_reducible assumption) (by with_reducible assumption) (by with_reducible assumption) (by with_reducible assumption) (by with_reducible assumption) (by with_reducible assumption)
theorem walk {l : PySem.W.OpenLaw} {q : Program} {loose : List Str} {XP : (Str → Option Value) → Heap → Prop} {YP : World → Heap → Prop} {d : DefRec} {K : Params → PySem.W.Frag} (hn : l.most = some 63) (hdf : d.params.defaults = [])
    (hY : ∀ (w : World) (h : Heap), YP w h → (K w.params).In h)
    (F : ∀ (w : World) (mg : Str → Option Value) (fa : Addr) (h : Heap), (K w.params).In h → h.Ns mainGlobals mg → mg d.name = some (.ref fa) →
      ∃ fd : FuncData, (∀ (s : Shared) (u : Value), BindsTo s fd ⟨[u], []⟩ [("_law_script", u)]) ∧ ∀ base : Heap, (K w.params).In base → base.Ns mainGlobals mg → FnOk l.prog w (K w.params) mg base CX0 9 fa fd ["_law_script"] (spLaw (K w.params))) :
    PySem.W.WalkO q loose XP YP l.row.toRowW d [] (fun f vs => PySem.call f vs) :=
  L2.walk_of (n := 63) (k := 9) (x := "_law_script") (CX := fun _ => CX0) (sp := fun w => spLaw (K w.params)) hn (by decide) hdf ⟨rfl, by decide, by decide⟩ hY F (fun _ _ a ns hl _ hS => ⟨a, ns, rfl, hS, hl, fun _ => rfl⟩) fun _ _ _ _ _ z => z
end Law
open PySem PySem.W PyProof.Rows
set_option maxRecDepth 100000 in
set_option maxHeartbeats 0 in
theorem PySem.Challenge.cw_willinglift_k18_whole_moves_as_logs_holds : PySem.Challenge.rw_willinglift_k18_whole_moves_as_logs.Holds := by
  w_on; o_law; k_head; (case hw => w_witness2)
  k_fill
  refine Law.walk (l := PySem.Challenge.rw_willinglift_k18_whole_moves_as_logs) rfl rfl (fun w h Y => PySem.W.kIn_of Y) ?F
  case F =>
    intro w mg fa h KX G hmg
    refine' Law.all_mk KX G hmg ?a_is_integer ?l_is_integer ?c_is_integer ?k_is_integer ?a_is_within ?l_is_within ?c_is_within ?k_is_within ?a__law_draw ?l__law_draw ?c__law_draw ?k__law_draw ?a__law_hand ?l__law_hand ?c__law_hand ?k__law_hand ?a__law_is_int ?l__law_is_int ?c__law_is_int ?k__law_is_int ?a_is_way ?l_is_way ?c_is_way ?k_is_way ?a_is_aboard ?l_is_aboard ?c_is_aboard ?k_is_aboard ?a_is_built_move ?l_is_built_move ?c_is_built_move ?k_is_built_move ?a__law_is_built ?l__law_is_built ?c__law_is_built ?k__law_is_built ?a__law_deep ?l__law_deep ?c__law_deep ?k__law_deep ?a__law_bent_move ?l__law_bent_move ?c__law_bent_move ?k__law_bent_move ?a_is_rounds ?l_is_rounds ?c_is_rounds ?k_is_rounds ?a_written_in ?l_written_in ?c_written_in ?k_written_in ?a_check_built ?l_check_built ?c_check_built ?k_check_built ?a_count_of ?l_count_of ?c_count_of ?k_count_of ?a_length_of ?l_length_of ?c_length_of ?k_length_of ?a_out_of ?l_out_of ?c_out_of ?k_out_of ?a_written_out ?l_written_out ?c_written_out ?k_written_out ?a__law_any_move ?l__law_any_move ?c__law_any_move ?k__law_any_move ?a_as_log ?l_as_log ?c_as_log ?k_as_log ?a__law_moves ?l__law_moves ?c__law_moves ?k__law_moves ?a__law_due ?l__law_due ?c__law_due ?k__law_due ?a__law_told ?l__law_told ?c__law_told ?k__law_told ?a__law_right ?l__law_right ?c__law_right ?k__law_right ?a_law ?l_law ?c_law ?k_law ?a_House_i ?i_House_i ?n_House_i ?l_House_i ?c_House_i ?k_House_i ?m_House_i ?kc_House_i ?pg_House_i ?hd_House_i ?po_House_i ?sa_House_i ?ha_House_i ?hm_House_i ?me_House_i ?na_H_floors ?na_H_room ?a_E_BadHouse ?a_E_TooMany ?hg_E_TooMany ?hk_E_TooMany ?hs_E_TooMany ?hd_E_TooMany ?a_E_BadLog ?xq_E_BadLog ?kp_E_BadLog ?sb_E_BadLog ?ty_E_BadLog ?hg_E_BadLog ?hk_E_BadLog ?hs_E_BadLog ?hd_E_BadLog ?ha_E_BadLog ?hm_E_BadLog ?a_E_LiftError ?xL_E_BadHouse ?rf_E_BadHouse ?xa_E_BadHouse ?xb_E_BadHouse ?xt_E_BadHouse ?xk_E_BadHouse ?xn_E_BadHouse ?ii_E_BadHouse ?ti_E_BadHouse ?li_E_BadHouse ?ci_E_BadHouse ?ki_E_BadHouse ?xL_E_TooMany ?rf_E_TooMany ?xa_E_TooMany ?xb_E_TooMany ?xt_E_TooMany ?xk_E_TooMany ?xn_E_TooMany ?ii_E_TooMany ?ti_E_TooMany ?li_E_TooMany ?ci_E_TooMany ?ki_E_TooMany ?nii_CH ?nib_CH ?ntt_CH ?ntl_CH ?nts_CH ?nf_TooMany_limit ?m_MM ?m_LM ?m_LL ?k_LL ?hn ?htk ?q_MOST_FLOORS ?q_MOST_ROOM ?q_UP ?q_DOWN ?q_MOST_TIMES ?q_TIMES ?q_MOST_DEPTH ?q_MOST_WRITTEN ?q_MOST_OUT ?z_len ?z_sum ?z_all ?z_any ?z_max ?z_min ?z_abs ?z_int ?z_bool ?z_tuple ?z_list ?z_dict ?z_str ?z_isinstance ?z_sorted ?z_range ?z_zip ?z_enumerate
    (case a_is_integer => first | k_is | k_exc | rfl | decide)
    (case l_is_integer => first | k_is | k_exc | rfl | decide)
    (case c_is_integer => first | k_is | k_exc | rfl | decide)
    (case k_is_integer => first | k_is | k_exc | rfl | decide)
    (case a_is_within => first | k_is | k_exc | rfl | decide)
    (case l_is_within => first | k_is | k_exc | rfl | decide)
    (case c_is_within => first | k_is | k_exc | rfl | decide)
    (case k_is_within => first | k_is | k_exc | rfl | decide)
    (case a__law_draw => first | k_is | k_exc | rfl | decide)
    (case l__law_draw => first | k_is | k_exc | rfl | decide)
    (case c__law_draw => first | k_is | k_exc | rfl | decide)
    (case k__law_draw => first | k_is | k_exc | rfl | decide)
    (case a__law_hand => first | k_is | k_exc | rfl | decide)
    (case l__law_hand => first | k_is | k_exc | rfl | decide)
    (case c__law_hand => first | k_is | k_exc | rfl | decide)
    (case k__law_hand => first | k_is | k_exc | rfl | decide)
    (case a__law_is_int => first | k_is | k_exc | rfl | decide)
    (case l__law_is_int => first | k_is | k_exc | rfl | decide)
    (case c__law_is_int => first | k_is | k_exc | rfl | decide)
    (case k__law_is_int => first | k_is | k_exc | rfl | decide)
    (case a_is_way => first | k_is | k_exc | rfl | decide)
    (case l_is_way => first | k_is | k_exc | rfl | decide)
    (case c_is_way => first | k_is | k_exc | rfl | decide)
    (case k_is_way => first | k_is | k_exc | rfl | decide)
    (case a_is_aboard => first | k_is | k_exc | rfl | decide)
    (case l_is_aboard => first | k_is | k_exc | rfl | decide)
    (case c_is_aboard => first | k_is | k_exc | rfl | decide)
    (case k_is_aboard => first | k_is | k_exc | rfl | decide)
    (case a_is_built_move => first | k_is | k_exc | rfl | decide)
    (case l_is_built_move => first | k_is | k_exc | rfl | decide)
    (case c_is_built_move => first | k_is | k_exc | rfl | decide)
    (case k_is_built_move => first | k_is | k_exc | rfl | decide)
    (case a__law_is_built => first | k_is | k_exc | rfl | decide)
    (case l__law_is_built => first | k_is | k_exc | rfl | decide)
    (case c__law_is_built => first | k_is | k_exc | rfl | decide)
    (case k__law_is_built => first | k_is | k_exc | rfl | decide)
    (case a__law_deep => first | k_is | k_exc | rfl | decide)
    (case l__law_deep => first | k_is | k_exc | rfl | decide)
    (case c__law_deep => first | k_is | k_exc | rfl | decide)
    (case k__law_deep => first | k_is | k_exc | rfl | decide)
    (case a__law_bent_move => first | k_is | k_exc | rfl | decide)
    (case l__law_bent_move => first | k_is | k_exc | rfl | decide)
    (case c__law_bent_move => first | k_is | k_exc | rfl | decide)
    (case k__law_bent_move => first | k_is | k_exc | rfl | decide)
    (case a_is_rounds => first | k_is | k_exc | rfl | decide)
    (case l_is_rounds => first | k_is | k_exc | rfl | decide)
    (case c_is_rounds => first | k_is | k_exc | rfl | decide)
    (case k_is_rounds => first | k_is | k_exc | rfl | decide)
    (case a_written_in => first | k_is | k_exc | rfl | decide)
    (case l_written_in => first | k_is | k_exc | rfl | decide)
    (case c_written_in => first | k_is | k_exc | rfl | decide)
    (case k_written_in => first | k_is | k_exc | rfl | decide)
    (case a_check_built => first | k_is | k_exc | rfl | decide)
    (case l_check_built => first | k_is | k_exc | rfl | decide)
    (case c_check_built => first | k_is | k_exc | rfl | decide)
    (case k_check_built => first | k_is | k_exc | rfl | decide)
    (case a_count_of => first | k_is | k_exc | rfl | decide)
    (case l_count_of => first | k_is | k_exc | rfl | decide)
    (case c_count_of => first | k_is | k_exc | rfl | decide)
    (case k_count_of => first | k_is | k_exc | rfl | decide)
    (case a_length_of => first | k_is | k_exc | rfl | decide)
    (case l_length_of => first | k_is | k_exc | rfl | decide)
    (case c_length_of => first | k_is | k_exc | rfl | decide)
    (case k_length_of => first | k_is | k_exc | rfl | decide)
    (case a_out_of => first | k_is | k_exc | rfl | decide)
    (case l_out_of => first | k_is | k_exc | rfl | decide)
    (case c_out_of => first | k_is | k_exc | rfl | decide)
    (case k_out_of => first | k_is | k_exc | rfl | decide)
    (case a_written_out => first | k_is | k_exc | rfl | decide)
    (case l_written_out => first | k_is | k_exc | rfl | decide)
    (case c_written_out => first | k_is | k_exc | rfl | decide)
    (case k_written_out => first | k_is | k_exc | rfl | decide)
    (case a__law_any_move => first | k_is | k_exc | rfl | decide)
    (case l__law_any_move => first | k_is | k_exc | rfl | decide)
    (case c__law_any_move => first | k_is | k_exc | rfl | decide)
    (case k__law_any_move => first | k_is | k_exc | rfl | decide)
    (case a_as_log => first | k_is | k_exc | rfl | decide)
    (case l_as_log => first | k_is | k_exc | rfl | decide)
    (case c_as_log => first | k_is | k_exc | rfl | decide)
    (case k_as_log => first | k_is | k_exc | rfl | decide)
    (case a__law_moves => first | k_is | k_exc | rfl | decide)
    (case l__law_moves => first | k_is | k_exc | rfl | decide)
    (case c__law_moves => first | k_is | k_exc | rfl | decide)
    (case k__law_moves => first | k_is | k_exc | rfl | decide)
    (case a__law_due => first | k_is | k_exc | rfl | decide)
    (case l__law_due => first | k_is | k_exc | rfl | decide)
    (case c__law_due => first | k_is | k_exc | rfl | decide)
    (case k__law_due => first | k_is | k_exc | rfl | decide)
    (case a__law_told => first | k_is | k_exc | rfl | decide)
    (case l__law_told => first | k_is | k_exc | rfl | decide)
    (case c__law_told => first | k_is | k_exc | rfl | decide)
    (case k__law_told => first | k_is | k_exc | rfl | decide)
    (case a__law_right => first | k_is | k_exc | rfl | decide)
    (case l__law_right => first | k_is | k_exc | rfl | decide)
    (case c__law_right => first | k_is | k_exc | rfl | decide)
    (case k__law_right => first | k_is | k_exc | rfl | decide)
    (case a_law => first | k_is | k_exc | rfl | decide)
    (case l_law => first | k_is | k_exc | rfl | decide)
    (case c_law => first | k_is | k_exc | rfl | decide)
    (case k_law => first | k_is | k_exc | rfl | decide)
    (case a_House_i => first | k_is | k_exc | rfl | decide)
    (case i_House_i => first | k_is | k_exc | rfl | decide)
    (case n_House_i => first | k_is | k_exc | rfl | decide)
    (case l_House_i => first | k_is | k_exc | rfl | decide)
    (case c_House_i => first | k_is | k_exc | rfl | decide)
    (case k_House_i => first | k_is | k_exc | rfl | decide)
    (case m_House_i => first | k_is | k_exc | rfl | decide)
    (case kc_House_i => first | k_is | k_exc | rfl | decide)
    (case pg_House_i => first | k_is | k_exc | rfl | decide)
    (case hd_House_i => first | k_is | k_exc | rfl | decide)
    (case po_House_i => first | k_is | k_exc | rfl | decide)
    (case sa_House_i => first | k_is | k_exc | rfl | decide)
    (case ha_House_i => first | k_is | k_exc | rfl | decide)
    (case hm_House_i => first | k_is | k_exc | rfl | decide)
    (case me_House_i => first | k_is | k_exc | rfl | decide)
    (case na_H_floors => first | k_is | k_exc | rfl | decide)
    (case na_H_room => first | k_is | k_exc | rfl | decide)
    (case a_E_BadHouse => first | k_is | k_exc | rfl | decide)
    (case a_E_TooMany => first | k_is | k_exc | rfl | decide)
    (case hg_E_TooMany => first | k_is | k_exc | rfl | decide)
    (case hk_E_TooMany => first | k_is | k_exc | rfl | decide)
    (case hs_E_TooMany => first | k_is | k_exc | rfl | decide)
    (case hd_E_TooMany => first | k_is | k_exc | rfl | decide)
    (case a_E_BadLog => first | k_is | k_exc | rfl | decide)
    (case xq_E_BadLog => first | k_is | k_exc | rfl | decide)
    (case kp_E_BadLog => first | k_is | k_exc | rfl | decide)
    (case sb_E_BadLog => first | k_is | k_exc | rfl | decide)
    (case ty_E_BadLog => first | k_is | k_exc | rfl | decide)
    (case hg_E_BadLog => first | k_is | k_exc | rfl | decide)
    (case hk_E_BadLog => first | k_is | k_exc | rfl | decide)
    (case hs_E_BadLog => first | k_is | k_exc | rfl | decide)
    (case hd_E_BadLog => first | k_is | k_exc | rfl | decide)
    (case ha_E_BadLog => first | k_is | k_exc | rfl | decide)
    (case hm_E_BadLog => first | k_is | k_exc | rfl | decide)
    (case a_E_LiftError => first | k_is | k_exc | rfl | decide)
    (case xL_E_BadHouse => first | k_is | k_exc | rfl | decide)
    (case rf_E_BadHouse => first | k_is | k_exc | rfl | decide)
    (case xa_E_BadHouse => first | k_is | k_exc | rfl | decide)
    (case xb_E_BadHouse => first | k_is | k_exc | rfl | decide)
    (case xt_E_BadHouse => first | k_is | k_exc | rfl | decide)
    (case xk_E_BadHouse => first | k_is | k_exc | rfl | decide)
    (case xn_E_BadHouse => first | k_is | k_exc | rfl | decide)
    (case ii_E_BadHouse => first | k_is | k_exc | rfl | decide)
    (case ti_E_BadHouse => first | k_is | k_exc | rfl | decide)
    (case li_E_BadHouse => first | k_is | k_exc | rfl | decide)
    (case ci_E_BadHouse => first | k_is | k_exc | rfl | decide)
    (case ki_E_BadHouse => first | k_is | k_exc | rfl | decide)
    (case xL_E_TooMany => first | k_is | k_exc | rfl | decide)
    (case rf_E_TooMany => first | k_is | k_exc | rfl | decide)
    (case xa_E_TooMany => first | k_is | k_exc | rfl | decide)
    (case xb_E_TooMany => first | k_is | k_exc | rfl | decide)
    (case xt_E_TooMany => first | k_is | k_exc | rfl | decide)
    (case xk_E_TooMany => first | k_is | k_exc | rfl | decide)
    (case xn_E_TooMany => first | k_is | k_exc | rfl | decide)
    (case ii_E_TooMany => first | k_is | k_exc | rfl | decide)
    (case ti_E_TooMany => first | k_is | k_exc | rfl | decide)
    (case li_E_TooMany => first | k_is | k_exc | rfl | decide)
    (case ci_E_TooMany => first | k_is | k_exc | rfl | decide)
    (case ki_E_TooMany => first | k_is | k_exc | rfl | decide)
    (case nii_CH => first | k_is | k_exc | rfl | decide)
    (case nib_CH => first | k_is | k_exc | rfl | decide)
    (case ntt_CH => first | k_is | k_exc | rfl | decide)
    (case ntl_CH => first | k_is | k_exc | rfl | decide)
    (case nts_CH => first | k_is | k_exc | rfl | decide)
    (case nf_TooMany_limit => first | k_is | k_exc | rfl | decide)
    (case m_MM => first | k_is | k_exc | rfl | decide)
    (case m_LM => first | k_is | k_exc | rfl | decide)
    (case m_LL => first | k_is | k_exc | rfl | decide)
    (case k_LL => first | k_is | k_exc | rfl | decide)
    (case hn => first | k_is | k_exc | rfl | decide)
    (case htk => first | k_is | k_exc | rfl | decide)
    (case q_MOST_FLOORS => first | k_is | k_exc | rfl | decide)
    (case q_MOST_ROOM => first | k_is | k_exc | rfl | decide)
    (case q_UP => first | k_is | k_exc | rfl | decide)
    (case q_DOWN => first | k_is | k_exc | rfl | decide)
    (case q_MOST_TIMES => first | k_is | k_exc | rfl | decide)
    (case q_TIMES => first | k_is | k_exc | rfl | decide)
    (case q_MOST_DEPTH => first | k_is | k_exc | rfl | decide)
    (case q_MOST_WRITTEN => first | k_is | k_exc | rfl | decide)
    (case q_MOST_OUT => first | k_is | k_exc | rfl | decide)
    (case z_len => first | k_is | k_exc | rfl | decide)
    (case z_sum => first | k_is | k_exc | rfl | decide)
    (case z_all => first | k_is | k_exc | rfl | decide)
    (case z_any => first | k_is | k_exc | rfl | decide)
    (case z_max => first | k_is | k_exc | rfl | decide)
    (case z_min => first | k_is | k_exc | rfl | decide)
    (case z_abs => first | k_is | k_exc | rfl | decide)
    (case z_int => first | k_is | k_exc | rfl | decide)
    (case z_bool => first | k_is | k_exc | rfl | decide)
    (case z_tuple => first | k_is | k_exc | rfl | decide)
    (case z_list => first | k_is | k_exc | rfl | decide)
    (case z_dict => first | k_is | k_exc | rfl | decide)
    (case z_str => first | k_is | k_exc | rfl | decide)
    (case z_isinstance => first | k_is | k_exc | rfl | decide)
    (case z_sorted => first | k_is | k_exc | rfl | decide)
    (case z_range => first | k_is | k_exc | rfl | decide)
    (case z_zip => first | k_is | k_exc | rfl | decide)
    (case z_enumerate => first | k_is | k_exc | rfl | decide)

