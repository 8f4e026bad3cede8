import PyProof.Rows.All
import Wide.All
import OpenK.AllK
import Wide.FinOn
import HandS.ForMost
import HandS.SortInts
import HandS.IsInst
import HandS.Wide
import HandS.Zip
import HandS.TupAny
import HandS.Walk
import HandS.Evl
import HandS.Style
import HandS.Small
import HandS.Codes
import HandS.Flt
import HandS.Conv
import KE.KTupSum
import HandS.OwnEq
import PyProof.InstNe
import HandS.DictComp
import KE.KDictPairs
import HandS.WordsDict
import PySem.Challenge.RW_willinglift_k08_whole_standings_behind_m
set_option Elab.async false
set_option linter.all false
set_option maxRecDepth 100000
set_option maxHeartbeats 4000000
/-! sorted(xs), xs a list of tuples of ints (of any lengths but 0), any number of them. -/
namespace MyS
open PySem PySem.Spec PyProof.Rows L2 Srt SrtO
abbrev ltL : List Int → List Int → Bool := HT.lexLt
theorem ltL_iff : ∀ {a b : List Int}, ltL a b = true ↔ a < b
  | [], [] => by simp [ltL, HT.lexLt]
  | [], _ :: _ => by simp [ltL, HT.lexLt]
  | _ :: _, [] => by simp [ltL, HT.lexLt]
  | x :: xs, y :: ys => by
    show (if x = y then ltL xs ys else decide (x < y)) = true ↔ _
    rw [List.cons_lt_cons_iff]
    by_cases e : x = y
    · rw [if_pos e, ltL_iff (a := xs) (b := ys)]
      constructor
      · intro h
        exact .inr ⟨e, h⟩
      · rintro (h | ⟨_, h⟩)
        · omega
        · exact h
    · rw [if_neg e, decide_eq_true_eq]
      constructor
      · intro h
        exact .inl h
      · rintro (h | ⟨h, _⟩)
        · exact h
        · exact absurd h e
theorem ltL_cons {x y : Int} {xs ys : List Int} : ltL (x :: xs) (y :: ys) = if x = y then ltL xs ys else decide (x < y) := rfl
theorem ltL_asym : ∀ (a b : List Int), ltL a b = true → ltL b a = false
  | [], [], h => by cases h
  | [], _ :: _, _ => rfl
  | _ :: _, [], h => by cases h
  | x :: xs, y :: ys, h => by
    rw [ltL_cons] at h ⊢
    by_cases e : x = y
    · rw [if_pos e] at h
      rw [if_pos e.symm]
      exact ltL_asym xs ys h
    · rw [if_neg e, decide_eq_true_eq] at h
      rw [if_neg (fun z => e z.symm), decide_eq_false_iff_not]
      omega
theorem ltL_neg_trans : ∀ (x y z : List Int), ltL y x = false → ltL z y = false → ltL z x = false
  | [], _, [], _, _ => rfl
  | [], _, _ :: _, _, _ => rfl
  | x :: xs, [], [], h, _ => by cases h
  | x :: xs, [], z :: zs, h, _ => by cases h
  | x :: xs, y :: ys, [], _, h => by cases h
  | x :: xs, y :: ys, z :: zs, h1, h2 => by
    rw [ltL_cons] at h1 h2 ⊢
    by_cases e1 : y = x
    · by_cases e2 : z = y
      · rw [if_pos e1] at h1
        rw [if_pos e2] at h2
        rw [if_pos (e2.trans e1)]
        exact ltL_neg_trans xs ys zs h1 h2
      · rw [if_neg e2, decide_eq_false_iff_not] at h2
        rw [if_neg (fun q => e2 (q.trans e1.symm)), decide_eq_false_iff_not]
        omega
    · rw [if_neg e1, decide_eq_false_iff_not] at h1
      by_cases e2 : z = y
      · rw [if_neg (fun q => e1 (e2.symm.trans q)), decide_eq_false_iff_not]
        omega
      · rw [if_neg e2, decide_eq_false_iff_not] at h2
        have e3 : ¬ z = x := by omega
        rw [if_neg e3, decide_eq_false_iff_not]
        omega
theorem swoL {α : Type} (k : α → List Int) : Swo fun x y => ltL (k x) (k y) :=
  ⟨fun x y h => ltL_asym _ _ h, fun x y z h1 h2 => ltL_neg_trans (k x) (k y) (k z) h1 h2⟩
/-- a tuple of ints in the raw heap -/
def IsTI (h : Heap) (v : Value) (ns : List Int) : Prop := ∃ a o its n, v = .ref a ∧ h.get? a = some o ∧ o.cls = .type "tuple" ∧ o.data = .seq (List.toArray its) n ∧ IntsAre its ns
theorem IsTI.keeps {h h' : Heap} {v : Value} {ns : List Int} (p : IsTI h v ns) (k : ∀ b o, h.get? b = some o → o.cls = .type "tuple" → h'.get? b = some o) : IsTI h' v ns := by
  obtain ⟨a, o, its, n, e, ho, hc, hd, hi⟩ := p
  exact ⟨a, o, its, n, e, k _ _ ho hc, hc, hd, hi⟩
section
variable {prog : Program} {w : World} {A : Around} {E : Value → Shared → Prop} {s : Shared}
theorem lex_run {b fin : Bool} {R : Bool} : ∀ {vs ws : List Value} {ns ms : List Int} {i : Nat}, IntsAre vs ns → IntsAre ws ms →
    (R = if ns.length ≤ ms.length ∧ ns = ms.take ns.length ∨ ms.length ≤ ns.length ∧ ms = ns.take ms.length then fin else ltL ns ms) →
    PySem.W.KatLex prog w A b fin (fun r s' => s' = s ∧ r = R) (vs.zip ws) i s
  | _, _, _, _, i, .nil, _, e => PySem.W.kat_nil ⟨rfl, by rw [e, if_pos (.inl ⟨Nat.zero_le _, rfl⟩)]⟩
  | _, _, _, _, i, .cons _ _ _, .nil, e => PySem.W.kat_nil ⟨rfl, by rw [e, if_pos (.inr ⟨Nat.zero_le _, rfl⟩)]⟩
  | _, _, _, _, i, .cons (ns := ns) x t hx, .cons (ns := ms) y u hy, e => by
    rw [List.zip_cons_cons]
    refine PySem.W.kat_cons (SeqAt.EqAt.int_int x t y u prog w _ _ ?_)
    refine PySem.W.kat_go (fun e1 => ?_) (fun e1 => ?_)
    · have ex : x = y := by simpa using e1
      subst ex
      refine PySem.W.kat_yes (lex_run hx hy (e.trans ?_))
      rw [ltL_cons, if_pos rfl]
      simp only [List.length_cons, List.take_succ_cons, List.cons.injEq, true_and, Nat.add_le_add_iff_right]
    · have ex : ¬ x = y := by simpa using e1
      have e3 : R = decide (x < y) := by
        rw [e, if_neg, ltL_cons, if_neg ex]
        rintro (⟨_, h⟩ | ⟨_, h⟩)
        · simp only [List.length_cons, List.take_succ_cons, List.cons.injEq] at h
          exact ex h.1
        · simp only [List.length_cons, List.take_succ_cons, List.cons.injEq] at h
          exact ex h.1.symm
      refine PySem.W.kat_no ?_
      by_cases hb : (b && i == 0) = true
      · rw [hb]
        exact oneLt_int ⟨rfl, e3.symm⟩
      · rw [Bool.eq_false_iff.mpr hb]
        exact PySem.W.kat_one _ _ (PyProof.Rows.lt_int (show s = s ∧ decide (x < y) = R from ⟨rfl, e3.symm⟩))
theorem pre_lex : ∀ (ns ms : List Int), (ns.length ≤ ms.length ∧ ns = ms.take ns.length ∨ ms.length ≤ ns.length ∧ ms = ns.take ms.length) → ltL ns ms = decide (ns.length < ms.length)
  | [], [], _ => rfl
  | [], y :: ys, _ => by simp [ltL, HT.lexLt]
  | x :: xs, [], _ => by simp [ltL, HT.lexLt]
  | x :: xs, y :: ys, h => by
    simp only [List.length_cons, List.take_succ_cons, List.cons.injEq, Nat.add_le_add_iff_right] at h
    have ex : x = y := by
      rcases h with ⟨_, h, _⟩ | ⟨_, h, _⟩
      · exact h
      · exact h.symm
    rw [ltL_cons, if_pos ex, pre_lex xs ys]
    · simp only [List.length_cons, Nat.add_lt_add_iff_right]
    · rcases h with ⟨h1, _, h2⟩ | ⟨h1, _, h2⟩
      · exact .inl ⟨h1, h2⟩
      · exact .inr ⟨h1, h2⟩
theorem ti_cmp {b : Bool} {vs : List Value} {k : Value → List Int} (hp : ∀ v ∈ vs, IsTI s.heap v (k v)) : Cmp prog w A s (tuples' b) (fun p => p.1 ∈ vs) (lt2 fun v u => ltL (k v) (k u)) := by
  intro p q hm hm'
  have h1 := hp _ hm
  have h2 := hp _ hm'
  show wpAny (model prog w) A (keyLt' (tuples' b) p.1 q.1) (fun r s' => s' = s ∧ r = ltL (k p.1) (k q.1)) (fun _ _ => False) s
  generalize k p.1 = ns at h1 ⊢
  generalize k q.1 = ms at h2 ⊢
  obtain ⟨a, o, its, n, e, ho, hc, hd, hi⟩ := h1
  obtain ⟨a', o', its', n', e', ho', hc', hd', hi'⟩ := h2
  rw [e, e']
  refine PySem.W.kat_lt ho hd ho' hd' ?_
  refine lex_run hi hi' ?_
  rw [List.size_toArray, List.size_toArray, hi.length, hi'.length]
  by_cases c : ns.length ≤ ms.length ∧ ns = ms.take ns.length ∨ ms.length ≤ ns.length ∧ ms = ns.take ms.length
  · rw [if_pos c, pre_lex _ _ c]
  · rw [if_neg c]
theorem ti_firsts {h : Heap} : ∀ {vs : List Value}, (∀ v ∈ vs, ∃ ns, ns ≠ [] ∧ IsTI h v ns) → ∃ fs : List Value, PySem.W.KatTups h vs fs ∧ fs.length = vs.length ∧ ∀ f ∈ fs, ∃ x t, f = Value.int x t
  | [], _ => ⟨[], PySem.W.KatTups.nil, rfl, fun _ hm => by simp at hm⟩
  | v :: vs, hp => by
    obtain ⟨fs, h1, h2, h3⟩ := ti_firsts (vs := vs) fun v' hm => hp v' (List.mem_cons_of_mem _ hm)
    obtain ⟨ns, hne, a, o, its, n, e, ho, hc, hd, hi⟩ := hp v (List.mem_cons_self ..)
    subst e
    cases hi with
    | nil => exact absurd rfl hne
    | cons x t r =>
      refine ⟨.int x t :: fs, PySem.W.KatTups.cons ho hc hd rfl h1, by rw [List.length_cons, List.length_cons, h2], fun f hm => ?_⟩
      rcases List.mem_cons.mp hm with rfl | hm
      · exact ⟨x, t, rfl⟩
      · exact h3 f hm
theorem ti_sortable {a : Addr} {vs : List Value} {k : Value → List Int} (h0 : 0 < vs.length) (hn : ∀ v ∈ vs, k v ≠ []) (hp : ∀ v ∈ vs, IsTI s.heap v (k v)) (ha : ∀ o, s.heap.get? a = some o → o.cls ≠ .type "tuple") :
    SortableO prog w A s a vs fun v u => ltL (k v) (k u) := by
  intro h' keep
  have hp' : ∀ v ∈ vs, IsTI h' v (k v) := fun v hm => (hp v hm).keeps fun b o e c => keep b o (fun z => by subst z; exact ha o e c) e
  obtain ⟨fs, h1, h2, h3⟩ := ti_firsts fun v hm => ⟨_, hn v hm, hp' v hm⟩
  refine ⟨tuples' true, fun Q E hq => ?_, ti_cmp hp'⟩
  refine PySem.W.kat_kind (T := .type "int") h1 (by omega) (fun f hm => ?_) (by rfl) ?_
  · obtain ⟨x, t, rfl⟩ := h3 f hm
    exact PySem.W.Looks.now
  · have e : (Value.type "int" != Value.type "tuple") = true := by first | decide +kernel | rfl | decide
    rw [e]
    exact hq
theorem sorted_ti {l : Addr} {vs : List Value} {k : Value → List Int} {Q : Value → Shared → Prop} (hl : s.heap.IsList l vs.toArray) (hz : vs.length ≤ sizeLine) (hn : ∀ v ∈ vs, k v ≠ []) (hp : ∀ v ∈ vs, IsTI s.heap v (k v))
    (h : ∀ (h' : Heap) (d : Addr) (out : List Value), Srtd (fun v u => ltL (k v) (k u)) out → Stb (fun v u => ltL (k v) (k u)) out vs → (∀ b o, s.heap.get? b = some o → h'.get? b = some o) → s.heap.objs.size ≤ d → (∃ n, h'.get? d = some (seqObj "list" out.toArray n)) → Q (.ref d) { s with heap := h' }) :
    wpAny (model prog w) A (call (.builtin "sorted") [.ref l]) Q E s := by
  refine sorted_ord (swoL k) hl hz (fun h2 h₁ a ha kk => ?_) fun out hs hb => ?_
  · refine ti_sortable (s := { s with heap := h₁ }) (by omega) hn (fun v hm => (hp v hm).keeps fun b o e _ => (kk b o e).2) fun o e => ?_
    have e' : some o = some (seqObj "list" vs.toArray 0) := e.symm.trans ha
    cases e'
    intro c
    exact absurd (Value.type.inj c) (by decide)
  · exact h _ _ out hs hb (fun b o e => sortedAll_old e) (Nat.le_succ _) (sortedAll_at s.heap vs out.toArray)
end
/-- sorted(xs), xs a list of tuples of ints, k what each holds -/
def rSortedTI (K : PySem.W.Frag) : List V → Hp → VK → Prop := fun vs H Q => ∃ (a : Addr) (xs : List V) (k : V → List Int), vs = [V.ref a] ∧ SqL K H a xs ∧ (∀ x ∈ xs, k x ≠ [] ∧ ∃ t, x = V.ref t ∧ H t = some (.tup ((k x).map V.int))) ∧
  ∀ ys p, ys.Pairwise (fun x y => ltL (k y) (k x) = false) → ys.Perm xs → H p = none → Q (.ref p) (upd H p (.lst ys))
theorem cr_sortedTI {X : Cx} : CallR X (.builtin "sorted") (rSortedTI X.K) := by
  intro pins s σ H vs us Q I r h
  obtain ⟨a, xs, k, rfl, hs, hx, q⟩ := h
  obtain ⟨its, rv, hl, hz⟩ := I.list hs
  obtain ⟨u, rfl, ru⟩ := vals1 r
  obtain rfl : u = Value.ref a := ru
  obtain ⟨e1, e2⟩ := refs_back rv fun x m => by
    obtain ⟨_, t, e, _⟩ := hx x m
    exact ⟨t, e⟩
  refine sorted_ti (k := fun u => k (backV u)) hl.isList (by rw [← rv.length]; exact hz) (fun v hv => ?_) (fun v hv => ?_) fun h' d out h1 h2 kp hd hn => ?_
  · obtain ⟨t, rfl⟩ := e2 v hv
    have hm : V.ref t ∈ xs := by rw [e1]; exact List.mem_map.mpr ⟨_, hv, rfl⟩
    exact (hx _ hm).1
  · obtain ⟨t, rfl⟩ := e2 v hv
    have hm : V.ref t ∈ xs := by rw [e1]; exact List.mem_map.mpr ⟨_, hv, rfl⟩
    obtain ⟨_, t', e, ht⟩ := hx _ hm
    cases e
    obtain ⟨_, its2, r2, o, ho, hc, n, hd⟩ := I.hok _ _ ht
    exact ⟨t, o, its2, n, rfl, ho, hc, hd, r2.ints⟩
  · have h3 : ∀ u ∈ out, ∃ a, u = Value.ref a := fun u hu => e2 u (h2.perm.mem_iff.mp hu)
    obtain ⟨n, hn⟩ := hn
    have hb : (out.map backV).Perm xs := by
      rw [e1]
      exact h2.perm.map backV
    refine ⟨.ref d, upd H d (.lst (out.map backV)), I.laid (t' := s.toks) kp hd ⟨?_, out, n, vals_back h3, hn⟩, rfl, q _ d (List.pairwise_map.mpr h1) hb (I.hok.fresh hd)⟩
    rw [hb.length_eq]
    exact hz
end MyS

/-! defs of the text by name, with their promises; the built-ins' names. -/
namespace MyB
open PySem PySem.Spec PyProof.Rows L2
/-- a def of the top, as the top has left it -/
def Raw (K : PySem.W.Frag) (mg : Str → Option Value) (x : Str) (st : Stmt) : Prop := ∃ f fd, Fun K x x st f fd ∧ mg x = some (.ref f)
/-- a class of the top with its __init__ -/
def RawC (K : PySem.W.Frag) (mg : Str → Option Value) (x qi : Str) (st : Stmt) (C : Addr) : Prop := ∃ f fd, Fun K "__init__" qi st f fd ∧ Mk K C f ∧ mg x = some (.ref C)
def IsDef (P : Program) (w : World) (K : PySem.W.Frag) (mg : Str → Option Value) (base : Heap) (k : Nat) (x : Str) (ps : List Str) (sp : Sp) : Prop :=
  ∃ f fd, FnOk P w K mg base CX0 k f fd ps sp ∧ mg x = some (.ref f) ∧ PySem.W.keepIn K (.ref f) = true ∧ Binds K fd ps []
def IsMake (P : Program) (w : World) (K : PySem.W.Frag) (mg : Str → Option Value) (base : Heap) (k : Nat) (x : Str) (C : Addr) (ps : List Str) (sp : Sp) : Prop :=
  ∃ f fd, Mk K C f ∧ FnOk P w K mg base CX0 k f fd ps sp ∧ mg x = some (.ref C) ∧ Binds K fd ps []
section
variable {P : Program} {w : World} {K : PySem.W.Frag} {mg : Str → Option Value} {base : Heap} {k : Nat} {x : Str} {ps : List Str} {sp : Sp} {C : Addr}
theorem IsDef.imp {sp' : Sp} (D : IsDef P w K mg base k x ps sp) (h : ∀ vs H Q E, sp' vs H Q E → sp vs H Q E) : IsDef P w K mg base k x ps sp' := by
  obtain ⟨f, fd, F, a, b, c⟩ := D
  exact ⟨f, fd, F.imp h, a, b, c⟩
theorem Raw.ok {st : Stmt} {N : List Str} (R : Raw K mg x st) (S : FnScope N ps (defScope st))
    (bind : ∀ (kV doc pm : Value) (an : Option Addr) (cdv ct : Value) (us : List Value), us.length = ps.length → bindArgs (PySem.W.fnOf x x (defArgs st) (defBody st) (defScope st) .none kV doc pm an cdv ct) ⟨us, []⟩ = pure (ps.zip us))
    (len : ∀ vs H Q E, sp vs H Q E → vs.length = ps.length)
    (hbody : ∀ (f : Addr) (cdv : Value) (A : Around) (outer : List Env) (s : Shared) (H : Hp) (vs : List V) (Q : VK) (E : XK), Room k (A.deeper (envOfC x (defScope st) s.heap.objs.size f cdv)) → sp vs H Q E →
      ∃ t, PSs (cxOf CX0 P w K mg base N x (defScope st) f cdv A outer s H E).nox (defBody st) t ∧ t { nx := fun _ H' => Q .non H', rt := Q } (start N vs) H) : IsDef P w K mg base (k + 1) x ps sp := by
  obtain ⟨f, fd, F, m⟩ := R
  exact ⟨f, fd, F.ok S len (hbody f), m, F.kp, F.binds bind⟩
theorem RawC.ok {qi : Str} {st : Stmt} {N : List Str} (R : RawC K mg x qi st C) (S : FnScope N ps (defScope st))
    (bind : ∀ (kV doc pm : Value) (an : Option Addr) (cdv ct : Value) (us : List Value), us.length = ps.length → bindArgs (PySem.W.fnOf "__init__" qi (defArgs st) (defBody st) (defScope st) .none kV doc pm an cdv ct) ⟨us, []⟩ = pure (ps.zip us))
    (len : ∀ vs H Q E, sp vs H Q E → vs.length = ps.length)
    (hbody : ∀ (f : Addr) (cdv : Value) (A : Around) (outer : List Env) (s : Shared) (H : Hp) (vs : List V) (Q : VK) (E : XK), Room k (A.deeper (envOfC qi (defScope st) s.heap.objs.size f cdv)) → sp vs H Q E →
      ∃ t, PSs (cxOf CX0 P w K mg base N qi (defScope st) f cdv A outer s H E).nox (defBody st) t ∧ t { nx := fun _ H' => Q .non H', rt := Q } (start N vs) H) : IsMake P w K mg base (k + 1) x C ps sp := by
  obtain ⟨f, fd, F, M, m⟩ := R
  exact ⟨f, fd, M, F.ok S len (hbody f), m, F.binds bind⟩
end
section
variable {X : Cx} {k : Nat} {ps : List Str} {sp : Sp} {x : Str} {p pos : Pos} {e : Expr} {es : List Expr} {t : TA} {C : Addr}
theorem pe_callD (D : IsDef X.prog X.w X.K X.mg X.base k x ps sp) (hr : Room k X.A) (hg : Gl X x) (ha : PA X (e :: es) t) (hdb : (x == ("__debug__" : Str)) = false := by decide)
    (he : starEach (e :: es) X.env = (false, eval e X.env) :: starEach es X.env := by rfl) (hpl : (backTo pos (starEach es X.env)).any (·.1) = false := by rfl) :
    PE X (.Call (.Name x p) (e :: es) [] pos) (tCall sp [] E0 t) := by
  obtain ⟨f, fd, F, m, kp, b⟩ := D
  exact pe_call F hr hg m kp b .nil pass0 ha hdb he hpl
theorem pe_callD0 (D : IsDef X.prog X.w X.K X.mg X.base k x ps sp) (hr : Room k X.A) (hg : Gl X x) (hdb : (x == ("__debug__" : Str)) = false := by decide) :
    PE X (.Call (.Name x p) [] [] pos) (tCall sp [] E0 tNil) := by
  obtain ⟨f, fd, F, m, kp, b⟩ := D
  exact pe_call0 F hr hg m kp b .nil pass0 hdb
theorem pe_makeD (D : IsMake X.prog X.w X.K X.mg X.base k x C ps sp) (hr : Room (k + 1) X.A) (hg : Gl X x) (ha : PA X (e :: es) t) (hdb : (x == ("__debug__" : Str)) = false := by decide)
    (he : starEach (e :: es) X.env = (false, eval e X.env) :: starEach es X.env := by rfl) (hpl : (backTo pos (starEach es X.env)).any (·.1) = false := by rfl) :
    PE X (.Call (.Name x p) (e :: es) [] pos) (tMake C sp [] E0 t) := by
  obtain ⟨f, fd, M, F, m, b⟩ := D
  exact pe_make M F hr hg m b .nil pass0 ha hdb he hpl
end
section
variable {X : Cx} {x : Str} {pos : Pos}
theorem pe_globI {n : Int} {t : Tok} (hg : Gl X x) (hm : X.mg x = some (.int n t)) (hd : (x == ("__debug__" : Str)) = false := by decide) : PE X (.Name x pos) (tC (.int n)) := pe_glob (v := .int n) hg hm ⟨t, rfl⟩ hd
theorem pe_globR {a : Addr} (hg : Gl X x) (hm : X.mg x = some (.ref a)) (hd : (x == ("__debug__" : Str)) = false := by decide) : PE X (.Name x pos) (tC (.ref a)) := pe_glob (v := .ref a) hg hm rfl hd
end
theorem putF_len (f : Str) (v : V) : ∀ fs : List (Str × V), (putF f v fs).length ≤ fs.length + 1
  | [] => Nat.le_refl _
  | (g, x) :: r => by
    show (if g = f then (g, v) :: r else (g, x) :: putF f v r).length ≤ r.length + 2
    have := putF_len f v r
    split
    · simp
    · rw [List.length_cons]
      omega
theorem putF_lt {f : Str} {v : V} {fs : List (Str × V)} {n : Nat} (h : fs.length ≤ n) (hn : n < 900 := by decide) : (putF f v fs).length < 1000 := by
  have := putF_len f v fs
  omega
theorem putF_le {f : Str} {v : V} {fs : List (Str × V)} {n : Nat} (h : fs.length ≤ n) : (putF f v fs).length ≤ n + 1 := by
  have := putF_len f v fs
  omega
/-- the built-ins' names are not the module's -/
structure Bi (mg : Str → Option Value) : Prop where
  len : mg "len" = none
  sum : mg "sum" = none
  all : mg "all" = none
  any : mg "any" = none
  max : mg "max" = none
  min : mg "min" = none
  abs : mg "abs" = none
  int : mg "int" = none
  bool : mg "bool" = none
  tuple : mg "tuple" = none
  list : mg "list" = none
  dict : mg "dict" = none
  str : mg "str" = none
  isinstance : mg "isinstance" = none
  sorted : mg "sorted" = none
  range : mg "range" = none
  zip : mg "zip" = none
  enumerate : mg "enumerate" = none
section
variable {K : PySem.W.Frag} {h : Heap} {mg : Str → Option Value}
theorem raw_mk (X : K.In h) (G : h.Ns mainGlobals mg) {x : Str} {st : Stmt} {f : Addr} {od an : Option Addr} {sl : Array (Option Value)} {oc kV dc pm cd ct : Value}
    (a : PySem.W.nsIn K mainGlobals x = some (some (.ref f))) (l : K.lookup f = some ⟨oc, od, .func (PySem.W.fnOf x x (defArgs st) (defBody st) (defScope st) .none kV dc pm an cd ct), sl⟩) (c : PySem.W.codeIn K cd x = true) (k : PySem.W.keepIn K (.ref f) = true) : Raw K mg x st :=
  ⟨f, _, fun_mk l c k, PySem.W.mg_of X G a⟩
theorem rawC_mk (X : K.In h) (G : h.Ns mainGlobals mg) {x qi : Str} {st : Stmt} {C f : Addr} {od an : Option Addr} {sl : Array (Option Value)} {oc kV dc pm cd ct : Value}
    (a : PySem.W.nsIn K mainGlobals x = some (some (.ref C))) (i : PySem.W.findIn K (.ref C) "__init__" = some (some (.ref f))) (n : PySem.W.isFn K (.ref f) = true)
    (l : K.lookup f = some ⟨oc, od, .func (PySem.W.fnOf "__init__" qi (defArgs st) (defBody st) (defScope st) .none kV dc pm an cd ct), sl⟩) (c : PySem.W.codeIn K cd qi = true) (k : PySem.W.keepIn K (.ref f) = true)
    (m : PySem.W.makesIn K C = true) (kc : PySem.W.keepIn K (.ref C) = true) : RawC K mg x qi st C :=
  ⟨f, _, fun_mk l c k, ⟨m, i, n, kc⟩, PySem.W.mg_of X G a⟩
end
/-! ### tests -/
theorem ite_dec {c : Prop} [Decidable c] {A B : Prop} (h1 : c → A) (h2 : ¬ c → B) : if decide c = true then A else B := by
  by_cases h : c
  · rw [if_pos (decide_eq_true h)]
    exact h1 h
  · rw [if_neg (by rw [decide_eq_true_eq]; exact h)]
    exact h2 h
theorem ite_yes {b : Bool} {A B : Prop} (h : b = true) (h1 : A) : if b = true then A else B := by
  rw [if_pos h]
  exact h1
theorem ite_no {b : Bool} {A B : Prop} (h : b = false) (h1 : B) : if b = true then A else B := by
  rw [if_neg (by rw [h]; decide)]
  exact h1
theorem ite_b {b : Bool} {A B : Prop} (h1 : b = true → A) (h2 : b = false → B) : if b = true then A else B := by
  cases b with
  | true => exact iteT (h1 rfl)
  | false => exact iteF (h2 rfl)
/-- all but what stands at a is as it was -/
def Kp (a : Addr) (H H' : Hp) : Prop := ∀ b o, b ≠ a → H b = some o → H' b = some o
theorem Kp.refl {a : Addr} (H : Hp) : Kp a H H := fun _ _ _ h => h
theorem Kp.trans {a : Addr} {H H1 H2 : Hp} (x : Kp a H H1) (y : Kp a H1 H2) : Kp a H H2 := fun b o n h => y b o n (x b o n h)
theorem Kp.of {a : Addr} {H H1 : Hp} (x : Same H H1) : Kp a H H1 := fun b o _ h => x b o h
theorem Kp.new {a p : Addr} {H H1 : Hp} {o : HO} (x : Kp a H H1) (h : H1 p = none) : Kp a H (upd H1 p o) := fun b u n e => by
  have q := x b u n e
  rw [upd_ne (ne_of_none q h)]
  exact q
theorem Same.new {H H' : Hp} {p : Addr} {o : HO} (s : Same H H') (h : H' p = none) : Same H (upd H' p o) := fun b u e => by
  have q := s b u e
  rw [upd_ne (ne_of_none q h)]
  exact q
theorem Same.new0 {H : Hp} {p : Addr} {o : HO} (h : H p = none) : Same H (upd H p o) := fun b u e => by
  rw [upd_ne (ne_of_none e h)]
  exact e
/-- an object that H does not know may change -/
theorem Same.mut {H H' : Hp} {p : Addr} {o : HO} (e : Same H H') (h : H p = none) : Same H (upd H' p o) := fun a u ha => by
  rw [upd_ne (ne_of_none ha h)]
  exact e a u ha
theorem Kp.mut {a : Addr} {H H' : Hp} {p : Addr} {o : HO} (e : Kp a H H') (h : H p = none) : Kp a H (upd H' p o) := fun b u n hb => by
  rw [upd_ne (ne_of_none hb h)]
  exact e b u n hb
theorem Kp.at {a : Addr} {H H' : Hp} {o : HO} (e : Kp a H H') : Kp a H (upd H' a o) := fun b u n hb => by
  rw [upd_ne n]
  exact e b u n hb
theorem Same.seqT {K : PySem.W.Frag} {H H' : Hp} {a : Addr} {xs : List V} (e : Same H H') (h : SqT K H a xs) : SqT K H' a xs := Evl.ex_t e h
theorem sqL {K : PySem.W.Frag} {H : Hp} {a : Addr} {xs : List V} (h : H a = some (.lst xs)) : SqL K H a xs := Or.inl (Or.inl h)
theorem sqT {K : PySem.W.Frag} {H : Hp} {a : Addr} {xs : List V} (h : H a = some (.tup xs)) : SqT K H a xs := Or.inl (Or.inl h)
theorem szl {n : Nat} (h : n ≤ 16000000) : n ≤ sizeLine := Nat.le_trans h (by decide)
theorem szlt {n : Nat} (h : n < 16000000) : n < sizeLine := Nat.lt_of_lt_of_le h (by decide)
end MyB

/-! one step of a reading, by its head. -/
namespace MyR
open PySem L2 MyB
def mkT (xs : List V) (H : Hp) (Q : VK) : Prop := xs.length ≤ sizeLine ∧ ∀ p, H p = none → Q (.ref p) (upd H p (.tup xs))
def mkL (xs : List V) (H : Hp) (Q : VK) : Prop := xs.length ≤ sizeLine ∧ ∀ p, H p = none → Q (.ref p) (upd H p (.lst xs))
section
variable {σ : St} {H : Hp} {Q : VK} {D : Ends} {ta tb tc te : TE} {t u : TS} {x y v : V} {K : PySem.W.Frag}
theorem r_var {i : Nat} (h : σ[i]? = some (some v)) (k : Q v H) : tVar i σ H Q := ⟨v, h, k⟩
theorem r_c (k : Q v H) : tC v σ H Q := k
theorem r_op {r : R2} (k : ta σ H fun x H1 => tb σ H1 fun y H2 => r x y H2 Q) : tOp r ta tb σ H Q := k
theorem r_un {r : V → Hp → VK → Prop} (k : ta σ H fun x H1 => r x H1 Q) : tUn r ta σ H Q := k
theorem r_I0 {g : Int → Int → V} {i j : Int} (k : Q (g i j) H) : rI0 g (.int i) (.int j) H Q := ⟨i, j, rfl, rfl, k⟩
theorem r_I {C : Int → Int → Prop} {g : Int → Int → V} {i j : Int} (c : C i j) (k : Q (g i j) H) : rI C g (.int i) (.int j) H Q := ⟨i, j, rfl, rfl, c, k⟩
theorem r_U {g : Int → V} {i : Int} (k : Q (g i) H) : rU g (.int i) H Q := ⟨i, rfl, k⟩
theorem r_eqI {i j : Int} (k : Q (.bl (decide (i = j))) H) : rEq (.int i) (.int j) H Q := by
  refine ⟨rfl, ?_⟩
  have e : decide (V.int i = V.int j) = decide (i = j) := by
    rw [dec_int]
    rfl
  rw [e]
  exact k
theorem r_neI {i j : Int} (k : Q (.bl (!decide (i = j))) H) : rNe (.int i) (.int j) H Q := by
  refine ⟨rfl, ?_⟩
  have e : decide (V.int i = V.int j) = decide (i = j) := by
    rw [dec_int]
    rfl
  rw [e]
  exact k
theorem r_eqB {i j : Bool} (k : Q (.bl (i == j)) H) : rEq (.bl i) (.bl j) H Q := ⟨rfl, by rw [dec_bl]; exact k⟩
theorem r_neB {i j : Bool} (k : Q (.bl (!(i == j))) H) : rNe (.bl i) (.bl j) H Q := ⟨rfl, by rw [dec_bl]; exact k⟩
theorem r_test {R : Bool → Hp → Prop} (k : te σ H fun x H1 => ∃ c, x = .bl c ∧ R c H1) : tTest te σ H R := k
theorem r_tB {R : Bool → Hp → Prop} (k : te σ H fun x H1 => ∃ c, x = .bl c ∧ R c H1) : tB te σ H R := k
theorem r_not {tt : TT} {R : Bool → Hp → Prop} (k : tt σ H fun c H1 => R (!c) H1) : tNot tt σ H R := k
theorem r_and {tt uu : TT} {R : Bool → Hp → Prop} (k : tt σ H fun c H1 => if c = true then uu σ H1 R else R false H1) : tAnd tt uu σ H R := k
theorem r_or {tt uu : TT} {R : Bool → Hp → Prop} (k : tt σ H fun c H1 => if c = true then R true H1 else uu σ H1 R) : tOr tt uu σ H R := k
theorem r_yes {R : Bool → Hp → Prop} (k : R true H) : tYes σ H R := k
theorem r_bl {c : Bool} {R : Bool → Prop} (k : R c) : ∃ d, V.bl c = V.bl d ∧ R d := ⟨c, rfl, k⟩
theorem r_andV (k : ta σ H fun x H1 => ∃ c, x = .bl c ∧ if c = true then tb σ H1 Q else Q (.bl false) H1) : tAndV ta tb σ H Q := k
theorem r_orV (k : ta σ H fun x H1 => ∃ c, x = .bl c ∧ if c = true then Q (.bl true) H1 else tb σ H1 Q) : tOrV ta tb σ H Q := k
theorem r_notV (k : ta σ H fun x H1 => ∃ c, x = .bl c ∧ Q (.bl (!c)) H1) : tNotV ta σ H Q := k
theorem r_chain {r r' : R2} (k : ta σ H fun x H1 => tb σ H1 fun y H2 => r x y H2 fun z H3 => ∃ k, z = .bl k ∧ (if k = true then tc σ H3 fun w' H4 => r' y w' H4 Q else Q (.bl false) H3)) : tChain r r' ta tb tc σ H Q := k
theorem r_if {tt : TT} (k : tt σ H fun c H1 => if c = true then ta σ H1 Q else tb σ H1 Q) : tIf tt ta tb σ H Q := k
theorem r_seq (k : t { D with nx := u D } σ H) : tSeq t u D σ H := k
theorem r_next (k : D.nx σ H) : tNext D σ H := k
theorem r_ifS {tt : TT} (k : tt σ H fun b H1 => if b = true then t D σ H1 else u D σ H1) : tIfS tt t u D σ H := k
theorem r_asg {g : TG} (k : te σ H fun x H1 => g x σ H1 D.nx) : tAsg te g D σ H := k
theorem r_ret (k : te σ H D.rt) : tRet te D σ H := k
theorem r_drop (k : te σ H fun _ H1 => D.nx σ H1) : tDrop te D σ H := k
theorem r_aug {i : Nat} {f : Int → Int → Int} {a : Int} (h : σ[i]? = some (some (.int a))) (k : te σ H fun y H1 => ∃ b, y = .int b ∧ D.nx (σ.set i (some (.int (f a b)))) H1) : tAug i te (ipI f) D σ H := by
  refine ⟨_, h, ?_⟩
  have e : (fun y H1 => ∃ b, y = V.int b ∧ D.nx (σ.set i (some (.int (f a b)))) H1) = fun y H1 => ipI f (.int a) y H1 fun z H2 => D.nx (σ.set i (some z)) H2 := by
    funext y H1
    apply propext
    constructor
    · rintro ⟨b, e, q⟩
      exact ⟨a, b, rfl, e, q⟩
    · rintro ⟨i', b, e1, e2, q⟩
      cases e1
      exact ⟨b, e2, q⟩
  rw [← e]
  exact k
theorem r_name {i : Nat} {R : St → Hp → Prop} (k : R (σ.set i (some v)) H) : gName i v σ H R := k
theorem r_sub {to ti : TE} {g : TSet} {R : St → Hp → Prop} (k : to σ H fun o H1 => ti σ H1 fun i H2 => g o i v H2 fun H3 => R σ H3) : gSub to ti g v σ H R := k
theorem r_gTup {n : Nat} {g : TGs} {R : St → Hp → Prop} {a : Addr} {xs : List V} (h : SqT K H a xs) (e : xs.length = n) (k : g xs σ H R) : gTup K n g (.ref a) σ H R := ⟨a, xs, rfl, h, e, k⟩
theorem r_gCons {g : TG} {gs : TGs} {R : St → Hp → Prop} {xs : List V} (k : g x σ H fun σ' H' => gs xs σ' H' R) : gCons g gs (x :: xs) σ H R := ⟨x, xs, rfl, k⟩
theorem r_gNil {R : St → Hp → Prop} (k : R σ H) : gNil [] σ H R := ⟨rfl, k⟩
theorem r_cons {tr : TA} {R : List V → Hp → Prop} (k : te σ H fun x H1 => tr σ H1 fun xs H2 => R (x :: xs) H2) : tCons te tr σ H R := k
theorem r_nil {R : List V → Hp → Prop} (k : R [] H) : tNil σ H R := k
theorem r_cb {r : List V → Hp → VK → Prop} {tr : TA} (k : tr σ H fun vs H1 => r vs H1 Q) : tCB r tr σ H Q := k
theorem r_call {sp : Sp} {E : XK} {tr : TA} (k : tr σ H fun vs H1 => sp vs H1 Q E) : tCall sp [] E tr σ H Q := by
  have e : (fun vs H1 => sp vs H1 Q E) = fun vs H1 => sp (vs ++ []) H1 Q E := by
    funext vs H1
    rw [List.append_nil]
  show tr σ H fun vs H1 => sp (vs ++ []) H1 Q E
  rw [← e]
  exact k
theorem r_make {C : Addr} {sp : Sp} {E : XK} {tr : TA} (k : tr σ H fun vs H1 => ∀ x dx, H1 x = none → H1 dx = none → dx ≠ x → sp (.ref x :: vs) (upd (upd H1 dx (.own x)) x (.ins C dx [])) (fun v H2 => v = .non ∧ Q (.ref x) H2) E) : tMake C sp [] E tr σ H Q := by
  have e : (fun vs H1 => ∀ x dx, H1 x = none → H1 dx = none → dx ≠ x → sp (.ref x :: vs) (upd (upd H1 dx (.own x)) x (.ins C dx [])) (fun v H2 => v = .non ∧ Q (.ref x) H2) E) =
      fun vs H1 => ∀ x dx, H1 x = none → H1 dx = none → dx ≠ x → sp (.ref x :: (vs ++ [])) (upd (upd H1 dx (.own x)) x (.ins C dx [])) (fun v H2 => v = .non ∧ Q (.ref x) H2) E := by
    funext vs H1
    rw [List.append_nil]
  show tr σ H fun vs H1 => ∀ x dx, H1 x = none → H1 dx = none → dx ≠ x → sp (.ref x :: (vs ++ [])) (upd (upd H1 dx (.own x)) x (.ins C dx [])) (fun v H2 => v = .non ∧ Q (.ref x) H2) E
  rw [← e]
  exact k
theorem r_fld {f : Str} (k : te σ H fun x H1 => ∃ a C dx fs v, x = .ref a ∧ H1 a = some (.ins C dx fs) ∧ Cls K C ∧ NoAttr K C f ∧ fs.lookup f = some v ∧ Q v H1) : tFld K te f σ H Q := k
/-- a new tuple, a new list: a heap of its own name -/
theorem r_tup {tr : TA} (k : tr σ H fun xs H1 => mkT xs H1 Q) : tTup tr σ H Q := k
theorem r_lst {tr : TA} (k : tr σ H fun xs H1 => mkL xs H1 Q) : tLst tr σ H Q := k
theorem r_mkT {xs : List V} (hl : xs.length ≤ sizeLine) (k : ∀ p H', H p = none → Same H H' → H' p = some (.tup xs) → Q (.ref p) H') : mkT xs H Q := ⟨hl, fun p hp => k p _ hp (Same.new0 hp) upd_same⟩
theorem r_mkL {xs : List V} (hl : xs.length ≤ sizeLine) (k : ∀ p H', H p = none → Same H H' → H' p = some (.lst xs) → Q (.ref p) H') : mkL xs H Q := ⟨hl, fun p hp => k p _ hp (Same.new0 hp) upd_same⟩
theorem r_ixL {p : Addr} {xs : List V} {i : Int} (h : SqL K H p xs) (a : atI xs i = some v) (k : Q v H) : rIxL K (.ref p) (.int i) H Q := ⟨p, xs, i, v, rfl, rfl, h, a, k⟩
theorem r_ixT {p : Addr} {xs : List V} {i : Int} (h : SqT K H p xs) (a : atI xs i = some v) (k : Q v H) : rIxT K (.ref p) (.int i) H Q := ⟨p, xs, i, v, rfl, rfl, h, a, k⟩
theorem r_setL {p : Addr} {xs : List V} {i : Int} {j : Nat} {R : Hp → Prop} (h : H p = some (.lst xs)) (a : ixN xs.length i = some j) (k : R (upd H p (.lst (xs.set j v)))) : rSetL (.ref p) (.int i) v H R := ⟨p, xs, i, j, rfl, rfl, h, a, k⟩
theorem r_isi {c : V} {tv uv : Value} {b : Bool} (h1 : ClsV c uv) (h2 : TyX K H x tv) (h3 : PySem.W.kitOne K tv uv = some b) (k : Q (.bl b) H) : rIsi K [x, c] H Q := ⟨x, c, tv, uv, b, rfl, h1, h2, h3, k⟩
theorem r_sum {a : Addr} {ns : List Int} (h : SqL K H a (ns.map V.int)) (k : Q (.int ns.sum) H) : rSum K [V.ref a] H Q := ⟨a, ns, rfl, h, k⟩
theorem r_all {a : Addr} {bs : List Bool} (h : SqL K H a (bs.map V.bl)) (k : Q (.bl (bs.all id)) H) : rAll K [V.ref a] H Q := ⟨a, bs, rfl, h, k⟩
theorem r_par {i j : Nat} {tr : TA} (k : tr σ H fun vs H1 => ∃ v w, vs = [v, w] ∧ D.nx ((σ.set i (some v)).set j (some w)) H1) : tPar i j tr D σ H := k
theorem r_par2 {R : V → V → Prop} (k : R x y) : ∃ v w, ([x, y] : List V) = [v, w] ∧ R v w := ⟨x, y, rfl, k⟩
theorem r_par3 {i j l : Nat} {tr : TA} (k : tr σ H fun vs H1 => ∃ u v w, vs = [u, v, w] ∧ D.nx (((σ.set i (some u)).set j (some v)).set l (some w)) H1) : tPar3 i j l tr D σ H := k
theorem r_rng1 {tr : TA} {R : It → Hp → Prop} (k : tr σ H fun vs H1 => ∃ j : Int, vs = [.int j] ∧ -(2 ^ 62) ≤ j ∧ j < 2 ^ 62 ∧ R (Itr 0 j.toNat) H1) : iRng1 tr σ H R := k
theorem r_rng2 {tr : TA} {R : It → Hp → Prop} (k : tr σ H fun vs H1 => ∃ i j : Int, vs = [.int i, .int j] ∧ (-(2 ^ 62) ≤ i ∧ i < 2 ^ 62 ∧ -(2 ^ 62) ≤ j ∧ j < 2 ^ 62) ∧ R (Itr i (j - i).toNat) H1) : iRng2 tr σ H R := k
theorem r_for {wi : TI} {g : TG} {tb : TS} (k : wi σ H fun J H1 => ∃ W : Nat → Nat → St → Hp → Prop, (∃ m, W 0 m σ H1) ∧ ∀ i m σ H, W i m σ H →
  (J.stop i H ∧ D.nx σ H) ∨ (J.go i H ∧ ∃ N : St → Hp → Prop, (∀ σ' H', N σ' H' → ∃ m', m' < m ∧ W (i + 1) m' σ' H') ∧ ∀ x H', J.yld i H x H' → g x σ H' fun σ2 H2 => tb { D with nx := N, ct := N, bk := D.nx } σ2 H2)) : tFor wi g tb D σ H := k
theorem r_iList {R : It → Hp → Prop} (k : te σ H fun x H1 => ∃ a, x = .ref a ∧ (∃ xs, SqL K H1 a xs) ∧ R (Itl K a) H1) : iList K te σ H R := k
theorem r_iTup {R : It → Hp → Prop} (k : te σ H fun x H1 => ∃ a, x = .ref a ∧ (∃ xs, SqT K H1 a xs) ∧ R (Itt K a) H1) : iTup K te σ H R := k
theorem r_fldS {f : Str} {tv : TE} (k : tv σ H fun y H1 => ta σ H1 fun x H2 => ∃ a C dx fs, x = .ref a ∧ H2 a = some (.ins C dx fs) ∧ Cls K C ∧ NoAttr K C f ∧ fs.length < 1000 ∧
  D.nx σ (upd H2 a (.ins C dx (putF f y fs)))) : sFld K ta tv f D σ H := k
theorem r_sl {r : V → Option Int → Option Int → Hp → VK → Prop} {tl th : TO} (k : te σ H fun x H1 => tl σ H1 fun l H2 => th σ H2 fun u H3 => r x l u H3 Q) : tSl r te tl th σ H Q := k
theorem r_noPart {R : Option Int → Hp → Prop} (k : R none H) : tNoPart σ H R := k
theorem r_part {R : Option Int → Hp → Prop} (k : te σ H fun x H1 => ∃ i, x = .int i ∧ R (some i) H1) : tPart te σ H R := k
theorem r_theInt {i : Int} {R : Int → Prop} (k : R i) : ∃ j, V.int i = V.int j ∧ R j := ⟨i, rfl, k⟩
theorem r_slL {a : Addr} {xs : List V} {lo hi : Option Int} (h : SqL K H a xs) (k : ∀ p H', H p = none → Same H H' → H' p = some (.lst (cutV xs lo hi)) → Q (.ref p) H') : rSlL K (.ref a) lo hi H Q := ⟨a, xs, rfl, h, fun p hp => k p _ hp (Same.new0 hp) upd_same⟩
theorem r_slT {a : Addr} {xs : List V} {lo hi : Option Int} (h : SqT K H a xs) (n : ¬ (HT.sIx xs.length 0 lo = 0 ∧ HT.sIx xs.length xs.length hi = xs.length)) (k : ∀ p H', H p = none → Same H H' → H' p = some (.tup (cutV xs lo hi)) → Q (.ref p) H') : rSlT K (.ref a) lo hi H Q := ⟨a, xs, rfl, h, n, fun p hp => k p _ hp (Same.new0 hp) upd_same⟩
theorem r_append {l : Addr} {xs : List V} (h : H l = some (.lst xs)) (z : xs.length < sizeLine) (k : Q .non (upd H l (.lst (xs ++ [v])))) : rAppend (.ref l) [v] H Q := ⟨l, xs, v, rfl, rfl, h, z, k⟩
theorem r_lc {wi : TI} {g : TG} {tt : TT} {vs : List Nat} (k : wi σ H fun J H1 => ∀ D, H1 D = none → ∃ W : Nat → Nat → Hp → Prop, (∃ m, W 0 m (upd H1 D (.lst []))) ∧ ∀ i m H, W i m H →
  (J.stop i H ∧ Q (.ref D) H) ∨ (J.go i H ∧ ∃ Nx : Hp → Prop, (∀ H', Nx H' → ∃ m', m' < m ∧ W (i + 1) m' H') ∧ ∀ x H', J.yld i H x H' → g x (wipe σ vs) H' fun σ2 H2 => wipe σ2 vs = wipe σ vs ∧ tt σ2 H2 fun b H3 =>
    if b = true then te σ2 H3 fun y H4 => ∃ acc, H4 D = some (.lst acc) ∧ acc.length < sizeLine ∧ Nx (upd H4 D (.lst (acc ++ [y]))) else Nx H3)) : tLc wi g tt te vs σ H Q := k
theorem r_list1 {a : Addr} {xs : List V} {R : Addr → Prop} (h : SqL K H a xs) (k : R a) : ∃ b, V.ref a = V.ref b ∧ (∃ xs, SqL K H b xs) ∧ R b := ⟨a, rfl, ⟨xs, h⟩, k⟩
theorem r_tup1 {a : Addr} {xs : List V} {R : Addr → Prop} (h : SqT K H a xs) (k : R a) : ∃ b, V.ref a = V.ref b ∧ (∃ xs, SqT K H b xs) ∧ R b := ⟨a, rfl, ⟨xs, h⟩, k⟩
theorem r_bm {T : String} {r : V → List V → Hp → VK → Prop} {to : TE} {tr : TA} (k : to σ H fun x H1 => tyV K T x H1 ∧ tr σ H1 fun xs H2 => r x xs H2 Q) : tBM K T r to tr σ H Q := k
theorem r_isN (k : Q (.bl (decide (x = .non))) H) : tIsN (tC x) σ H Q := k
end

/-! ### built-ins' readings by name -/
def qLen (K : PySem.W.Frag) : List V → Hp → VK → Prop := fun xs H Q => ∃ p ys, xs = [.ref p] ∧ (SqL K H p ys ∨ SqT K H p ys) ∧ Q (.int ys.length) H
def qAbs : List V → Hp → VK → Prop := fun xs H Q => ∃ i, xs = [.int i] ∧ Q (.int (if i < 0 then -i else i)) H
def qInt : List V → Hp → VK → Prop := fun xs H Q => (∃ i, xs = [.int i] ∧ Q (.int i) H) ∨ ∃ k, xs = [.bl k] ∧ Q (.int (if k = true then 1 else 0)) H
def qMax : List V → Hp → VK → Prop := fun xs H Q => ∃ i j, xs = [.int i, .int j] ∧ Q (.int (if j > i then j else i)) H
def qMin : List V → Hp → VK → Prop := fun xs H Q => ∃ i j, xs = [.int i, .int j] ∧ Q (.int (if j < i then j else i)) H
def qTup (K : PySem.W.Frag) : List V → Hp → VK → Prop := fun xs H Q => ∃ p ys, xs = [.ref p] ∧ ((SqL K H p ys ∧ ∀ l, H l = none → Q (.ref l) (upd H l (.tup ys))) ∨ (SqT K H p ys ∧ Q (.ref p) H))
section
variable {X : Cx}
theorem q_len : CallR X (.builtin "len") (qLen X.K) := call_len_seq
theorem q_abs : CallR X (.builtin "abs") qAbs := call_abs
theorem q_int : CallR X (.type "int") qInt := call_int1
theorem q_max (hc : X.calm = true) : CallR X (.builtin "max") qMax := call_max2 hc
theorem q_min (hc : X.calm = true) : CallR X (.builtin "min") qMin := call_min2 hc
theorem q_tup : CallR X (.type "tuple") (qTup X.K) := call_tuple_of
end
section
variable {H : Hp} {Q : VK} {K : PySem.W.Frag}
theorem r_lenL {p : Addr} {xs : List V} (h : SqL K H p xs) (k : Q (.int xs.length) H) : qLen K [V.ref p] H Q := ⟨p, xs, rfl, .inl h, k⟩
theorem r_lenT {p : Addr} {xs : List V} (h : SqT K H p xs) (k : Q (.int xs.length) H) : qLen K [V.ref p] H Q := ⟨p, xs, rfl, .inr h, k⟩
theorem r_abs {i : Int} (k : Q (.int (if i < 0 then -i else i)) H) : qAbs [V.int i] H Q := ⟨i, rfl, k⟩
theorem r_int {i : Int} (k : Q (.int i) H) : qInt [V.int i] H Q := .inl ⟨i, rfl, k⟩
theorem r_intB {b : Bool} (k : Q (.int (if b = true then 1 else 0)) H) : qInt [V.bl b] H Q := .inr ⟨b, rfl, k⟩
theorem r_max {i j : Int} (k : Q (.int (max i j)) H) : qMax [V.int i, V.int j] H Q := by
  refine ⟨i, j, rfl, ?_⟩
  have e : (if j > i then j else i) = max i j := by
    split <;> omega
  rw [e]
  exact k
theorem r_min {i j : Int} (k : Q (.int (min i j)) H) : qMin [V.int i, V.int j] H Q := by
  refine ⟨i, j, rfl, ?_⟩
  have e : (if j < i then j else i) = min i j := by
    split <;> omega
  rw [e]
  exact k
theorem r_tupL {p : Addr} {xs : List V} (h : SqL K H p xs) (k : ∀ q H', H q = none → Same H H' → H' q = some (.tup xs) → Q (.ref q) H') : qTup K [V.ref p] H Q := ⟨p, xs, rfl, .inl ⟨h, fun q hq => k q _ hq (Same.new0 hq) upd_same⟩⟩
theorem r_tupT {p : Addr} {xs : List V} (h : SqT K H p xs) (k : Q (.ref p) H) : qTup K [V.ref p] H Q := ⟨p, xs, rfl, .inr ⟨h, k⟩⟩
end
theorem new_same {H H1 : Hp} {p : Addr} {o : HO} (n : H p = none) (e : upd H p o = H1) : Same H H1 := by
  rw [← e]
  exact Same.new0 n
theorem new_at {H H1 : Hp} {p : Addr} {o : HO} (e : upd H p o = H1) : H1 p = some o := by
  rw [← e]
  exact upd_same
theorem tyL {K : PySem.W.Frag} {H : Hp} {p : Addr} {xs : List V} (h : SqL K H p xs) : tyV K "list" (.ref p) H := .inl ⟨rfl, xs, h⟩
theorem at_nat {α : Type} {xs : List α} {i : Int} {v : α} (h0 : 0 ≤ i) (h : xs[i.toNat]? = some v) : atI xs i = some v := by
  have e : ((i.toNat : Nat) : Int) = i := Int.toNat_of_nonneg h0
  rw [← e]
  exact atI_nat h
theorem ixN_int {n : Nat} {i : Int} (h0 : 0 ≤ i) (h1 : i < n) : ixN n i = some i.toNat := by
  unfold ixN
  rw [if_pos h0, if_pos h1]
end MyR

/-! comprehensions over any walk. -/
namespace MyR
open PySem L2 MyB
/-- tuples stay -/
def TupsK (H H' : Hp) : Prop := ∀ b xs, H b = some (.tup xs) → H' b = some (.tup xs)
theorem TupsK.refl (H : Hp) : TupsK H H := fun _ _ h => h
theorem TupsK.of {H H' : Hp} (s : Same H H') : TupsK H H' := fun b xs h => s b _ h
theorem TupsK.trans {H H1 H2 : Hp} (a : TupsK H H1) (b : TupsK H1 H2) : TupsK H H2 := fun x xs h => b x xs (a x xs h)
theorem TupsK.lst {H : Hp} {D : Addr} {acc zs : List V} (h : H D = some (.lst acc)) : TupsK H (upd H D (.lst zs)) := fun b xs e => by
  rw [upd_ne (ne_of e h (by intro z; cases z))]
  exact e
theorem TupsK.kp {a : Addr} {H H' : Hp} {xs : List V} (h : H a = some (.lst xs)) (s : Kp a H H') : TupsK H H' := fun b ys e => s b _ (ne_of e h (by intro z; cases z)) e
theorem get_snoc {α : Type} {ys : List α} {y z : α} {j : Nat} (h : (ys ++ [y])[j]? = some z) : ys[j]? = some z ∨ (j = ys.length ∧ z = y) := by
  by_cases c : j < ys.length
  · rw [List.getElem?_append_left c] at h
    exact .inl h
  · rw [List.getElem?_append_right (by omega)] at h
    have e : j - ys.length = 0 := by
      cases q : j - ys.length with
      | zero => rfl
      | succ m =>
        rw [q] at h
        cases h
    rw [e] at h
    exact .inr ⟨by omega, (Option.some.inj h).symm⟩
section
variable {J : It} {n : Nat} {G : Hp → Prop} {Y : Nat → Hp → V → Hp → Prop} {g : TG} {tt : TT} {te : TE} {vs : List Nat} {σ : St} {H1 : Hp} {D : Addr} {Qd : Hp → Prop}
theorem lc_map (w : Walk J n G Y) (hD : H1 D = none) (hn : n ≤ 16000000) (hG : ∀ H, Same H1 H → G H) (R : Nat → V → Hp → Prop) (mono : ∀ i v H H', TupsK H H' → R i v H → R i v H')
    (hs : ∀ i x H H', i < n → Same H1 H → Y i H x H' → ∀ Add : V → Hp → Prop, (∀ y H4, Same H H4 → R i y H4 → Add y H4) → g x (wipe σ vs) H' fun σ2 H2 => wipe σ2 vs = wipe σ vs ∧ te σ2 H2 Add)
    (hd : ∀ H ys, Same H1 H → H D = some (.lst ys) → ys.length = n → (∀ i y, ys[i]? = some y → R i y H) → Qd H) :
    ∃ W : Nat → Nat → Hp → Prop, (∃ m, W 0 m (upd H1 D (.lst []))) ∧ ∀ i m H, W i m H →
      (J.stop i H ∧ Qd H) ∨ (J.go i H ∧ ∃ Nx : Hp → Prop, (∀ H', Nx H' → ∃ m', m' < m ∧ W (i + 1) m' H') ∧ ∀ x H', J.yld i H x H' → g x (wipe σ vs) H' fun σ2 H2 => wipe σ2 vs = wipe σ vs ∧ tYes σ2 H2 fun b H3 =>
        if b = true then te σ2 H3 fun y H4 => ∃ acc, H4 D = some (.lst acc) ∧ acc.length < sizeLine ∧ Nx (upd H4 D (.lst (acc ++ [y]))) else Nx H3) := by
  refine lc_it w (tt := tYes) (fun i H => Same H1 H ∧ ∃ ys, H D = some (.lst ys) ∧ ys.length = i ∧ ∀ j y, ys[j]? = some y → R j y H) ⟨Same.new0 hD, [], upd_same, rfl, fun j y e => by simp at e⟩ (fun i H _ p => hG H p.1) ?_ ?_
  · rintro i x H H' hi ⟨s1, ys, e1, e2, e3⟩ hy
    have key := hs i x H H' hi s1 hy (fun y H4 => ∃ acc, H4 D = some (.lst acc) ∧ acc.length < sizeLine ∧ (Same H1 (upd H4 D (.lst (acc ++ [y]))) ∧ ∃ ys, (upd H4 D (.lst (acc ++ [y]))) D = some (.lst ys) ∧ ys.length = i + 1 ∧ ∀ j y', ys[j]? = some y' → R j y' (upd H4 D (.lst (acc ++ [y]))))) ?_
    · exact key
    · intro y H4 s4 r
      have e4 : H4 D = some (.lst ys) := s4 _ _ e1
      refine ⟨ys, e4, szlt (by omega), Same.mut (s1.trans s4) hD, ys ++ [y], upd_same, by rw [List.length_append, e2]; rfl, fun j y' h => ?_⟩
      rcases get_snoc h with h | ⟨rfl, rfl⟩
      · exact mono _ _ _ _ ((TupsK.of s4).trans (TupsK.lst e4)) (e3 j y' h)
      · rw [e2]
        exact mono _ _ _ _ (TupsK.lst e4) r
  · rintro H ⟨s1, ys, e1, e2, e3⟩
    exact hd H ys s1 e1 e2 e3
theorem lc_filter (w : Walk J n G Y) (hD : H1 D = none) (hn : n ≤ 16000000) (hG : ∀ H, Same H1 H → G H) (f : Nat → Bool) (R : Nat → V → Hp → Prop) (mono : ∀ i v H H', TupsK H H' → R i v H → R i v H')
    (hs : ∀ i x H H', i < n → Same H1 H → Y i H x H' → ∀ (Add : V → Hp → Prop) (Nx : Hp → Prop), (f i = true → ∀ y H4, Same H H4 → R i y H4 → Add y H4) → (f i = false → ∀ H4, Same H H4 → Nx H4) → g x (wipe σ vs) H' fun σ2 H2 => wipe σ2 vs = wipe σ vs ∧ tt σ2 H2 fun b H3 => if b = true then te σ2 H3 Add else Nx H3)
    (hd : ∀ H ys, Same H1 H → H D = some (.lst ys) → Paired (fun i y => R i y H) ((List.range n).filter f) ys → Qd H) :
    ∃ W : Nat → Nat → Hp → Prop, (∃ m, W 0 m (upd H1 D (.lst []))) ∧ ∀ i m H, W i m H →
      (J.stop i H ∧ Qd H) ∨ (J.go i H ∧ ∃ Nx : Hp → Prop, (∀ H', Nx H' → ∃ m', m' < m ∧ W (i + 1) m' H') ∧ ∀ x H', J.yld i H x H' → g x (wipe σ vs) H' fun σ2 H2 => wipe σ2 vs = wipe σ vs ∧ tt σ2 H2 fun b H3 =>
        if b = true then te σ2 H3 fun y H4 => ∃ acc, H4 D = some (.lst acc) ∧ acc.length < sizeLine ∧ Nx (upd H4 D (.lst (acc ++ [y]))) else Nx H3) := by
  refine lc_it w (fun i H => Same H1 H ∧ ∃ ys, H D = some (.lst ys) ∧ Paired (fun j y => R j y H) ((List.range i).filter f) ys) ⟨Same.new0 hD, [], upd_same, .nil⟩ (fun i H _ p => hG H p.1) ?_ ?_
  · rintro i x H H' hi ⟨s1, ys, e1, e3⟩ hy
    have el : ys.length ≤ i := by
      rw [← e3.length]
      have := List.length_filter_le f (List.range i)
      rw [List.length_range] at this
      exact this
    have key := hs i x H H' hi s1 hy (fun y H4 => ∃ acc, H4 D = some (.lst acc) ∧ acc.length < sizeLine ∧ (Same H1 (upd H4 D (.lst (acc ++ [y]))) ∧ ∃ ys, (upd H4 D (.lst (acc ++ [y]))) D = some (.lst ys) ∧ Paired (fun j y' => R j y' (upd H4 D (.lst (acc ++ [y])))) ((List.range (i + 1)).filter f) ys))
      (fun H3 => Same H1 H3 ∧ ∃ ys, H3 D = some (.lst ys) ∧ Paired (fun j y => R j y H3) ((List.range (i + 1)).filter f) ys) ?_ ?_
    · exact key
    · intro hf y H4 s4 r
      have e4 : H4 D = some (.lst ys) := s4 _ _ e1
      refine ⟨ys, e4, szlt (by omega), Same.mut (s1.trans s4) hD, ys ++ [y], upd_same, ?_⟩
      rw [List.range_succ, List.filter_append]
      have ef : [i].filter f = [i] := by simp [hf]
      rw [ef]
      have a1 : Paired (fun j y' => R j y' (upd H4 D (.lst (ys ++ [y])))) ((List.range i).filter f) ys := Paired.mapP e3 fun a b z => mono _ _ _ _ ((TupsK.of s4).trans (TupsK.lst e4)) z
      exact paired_snoc a1 (mono _ _ _ _ (TupsK.lst e4) r)
    · intro hf H4 s4
      refine ⟨s1.trans s4, ys, s4 _ _ e1, ?_⟩
      rw [List.range_succ, List.filter_append]
      have ef : [i].filter f = [] := by simp [hf]
      rw [ef, List.append_nil]
      exact Paired.mapP e3 fun a b z => mono _ _ _ _ (TupsK.of s4) z
  · rintro H ⟨s1, ys, e1, e3⟩
    exact hd H ys s1 e1 e3
where
  paired_snoc {α β : Type} {F : α → β → Prop} : ∀ {l : List α} {m : List β} {a : α} {b : β}, Paired F l m → F a b → Paired F (l ++ [a]) (m ++ [b])
    | _, _, _, _, .nil, h => .cons h .nil
    | _, _, _, _, .cons r t, h => .cons r (paired_snoc t h)
end
theorem walk_zipT {K : PySem.W.Frag} {a b : Addr} {xs ys : List V} {n : Nat} (hn : n = min xs.length ys.length) : Walk (RZ.ItzT K a b) n (fun H => SqT K H a xs ∧ SqT K H b ys) (YPair (fun i => xs[i]?) (fun i => ys[i]?)) := by
  subst hn
  refine ⟨fun i _ hi q => ?_, fun _ q => ⟨xs, ys, q.1, q.2, by omega⟩, fun i H v H' _ q y => ?_⟩
  · have h1 : i < xs.length := by omega
    have h2 : i < ys.length := by omega
    exact ⟨xs, ys, xs[i], ys[i], q.1, q.2, by simp [h1], by simp [h2]⟩
  · obtain ⟨T, x, z, h1, h2, h3, h4, h5⟩ := y
    exact ⟨T, x, z, h1, h2, h3, h4 xs q.1, h5 ys q.2⟩
end MyR
namespace MyR
open PySem L2 MyB
/-- all but lists stays -/
def NLK (H H' : Hp) : Prop := ∀ b o, (∀ xs, o ≠ .lst xs) → H b = some o → H' b = some o
theorem NLK.refl (H : Hp) : NLK H H := fun _ _ _ h => h
theorem NLK.of {H H' : Hp} (s : Same H H') : NLK H H' := fun b o _ h => s b o h
theorem NLK.trans {H H1 H2 : Hp} (a : NLK H H1) (b : NLK H1 H2) : NLK H H2 := fun x o n h => b x o n (a x o n h)
theorem NLK.lst {H : Hp} {D : Addr} {acc zs : List V} (h : H D = some (.lst acc)) : NLK H (upd H D (.lst zs)) := fun b o n e => by
  rw [upd_ne (ne_of e h (fun z => n acc z))]
  exact e
theorem NLK.kp {a : Addr} {H H' : Hp} {xs : List V} (h : H a = some (.lst xs)) (s : Kp a H H') : NLK H H' := fun b o n e => s b o (ne_of e h (fun z => n xs z)) e
theorem NLK.tups {H H' : Hp} (s : NLK H H') : TupsK H H' := fun b xs h => s b _ (fun _ z => by cases z) h
/-- an int (its number), or a thing that is none -/
def KindI (K : PySem.W.Frag) (H : Hp) (x : V) (r : Option Int) : Prop := (∃ n, x = .int n ∧ r = some n) ∨
  (r = none ∧ ∃ (t : Value) (b1 b2 : Bool), TyX K H x t ∧ PySem.W.kitOne K t (.type "int") = some b1 ∧ PySem.W.kitOne K t (.type "bool") = some b2 ∧ (b1 && !b2) = false)
theorem KindI.int {K : PySem.W.Frag} {H : Hp} (n : Int) : KindI K H (.int n) (some n) := .inl ⟨n, rfl, rfl⟩
def inB (r : Option Int) (l m : Int) : Bool := match r with
  | some n => decide (l ≤ n) && decide (n ≤ m)
  | none => false
theorem inB_yes {n l m : Int} (h1 : l ≤ n) (h2 : n ≤ m) : inB (some n) l m = true := by
  show (decide (l ≤ n) && decide (n ≤ m)) = true
  rw [decide_eq_true h1, decide_eq_true h2]
  rfl
end MyR

/-! the rules that name the written part, K a letter of its own (within a comprehension the readings must not lean on its block). -/
namespace MyK
open PySem L2 MyB MyR
section
variable {X : Cx} {K : PySem.W.Frag}
theorem ix_list (h : X.K = K) : IxR X (rIxL K) := by subst h; exact L2.ix_list
theorem ix_tup (h : X.K = K) : IxR X (rIxT K) := by subst h; exact L2.ix_tup
theorem sl_list (h : X.K = K) : SlR X (rSlL K) := by subst h; exact L2.sl_list
theorem sl_tup (h : X.K = K) : SlR X (rSlT K) := by subst h; exact L2.sl_tup
theorem sl_tupA (h : X.K = K) : SlR X (rSlA K) := by subst h; exact L2.sl_tupA
theorem q_len (h : X.K = K) : CallR X (.builtin "len") (qLen K) := by subst h; exact MyR.q_len
theorem q_tup (h : X.K = K) : CallR X (.type "tuple") (qTup K) := by subst h; exact MyR.q_tup
theorem cr_sum (h : X.K = K) (hc : X.calm = true) : CallR X (.builtin "sum") (rSum K) := by subst h; exact L2.cr_sum hc
theorem cr_all (h : X.K = K) (hc : X.calm = true) : CallR X (.builtin "all") (rAll K) := by subst h; exact L2.cr_all hc
theorem cr_any (h : X.K = K) (hc : X.calm = true) : CallR X (.builtin "any") (rAny K) := by subst h; exact L2.cr_any hc
theorem call_isi (h : X.K = K) : CallR X (.builtin "isinstance") (rIsi K) := by subst h; exact L2.call_isi
theorem cr_sortedTI (h : X.K = K) : CallR X (.builtin "sorted") (MyS.rSortedTI K) := by subst h; exact MyS.cr_sortedTI
theorem op_ltT (h : X.K = K) (hu : X.A.units < cLine) : OpR X (compareOp .Lt) (rLtT K) := by subst h; exact L2.op_ltT hu
theorem op_eqD (h : X.K = K) (hu : X.A.units + 64 < cLine) : OpR X (compareOp .Eq) (rEqD K) := by subst h; exact L2.op_eqD hu
theorem op_neD (h : X.K = K) (hu : X.A.units + 64 < cLine) : OpR X (compareOp .NotEq) (rNeD K) := by subst h; exact L2.op_neD hu
theorem op_catT (h : X.K = K) : OpR X (binaryOp .Add) (rCatT K) := by subst h; exact L2.op_catT
theorem op_in_seq (h : X.K = K) : OpR X (compareOp .In) (rIn K false) := by subst h; exact L2.op_in_seq
theorem pe_fld {e : Expr} {f : Str} {pos : Pos} {ta : TE} (h : X.K = K) (he : PE X e ta) (hb : attributeBase e f X.env (eval e X.env) = eval e X.env) : PE X (.Attribute e f pos) (tFld K ta f) := by subst h; exact L2.pe_fld he hb
theorem pg_tup {es : List Expr} {k : Nat} {t : TGs} {n : Nat} {pos : Pos} (h' : X.K = K) (hc : X.calm = true) (h : PGs X es t)
    (hn : (assignEach es X.env).length = n := by rfl) (hst : (assignEach es X.env).findIdx? (·.1) = none := by rfl) : PG X (.Tuple es k pos) (gTup K n t) := by subst h'; exact L2.pg_tup hc h hn hst
theorem pi_list {tg l : Expr} {tl : TE} (h : X.K = K) (hl : PE X l tl) : PI X tg l (iList K tl) := by subst h; exact L2.pi_list hl
theorem pi_tup {tg l : Expr} {tl : TE} (h : X.K = K) (hl : PE X l tl) : PI X tg l (iTup K tl) := by subst h; exact L2.pi_tup hl
theorem pi_zip {elts : List Expr} {kk : Nat} {tpos p pos : Pos} {e e2 : Expr} {ta : TA} (h : X.K = K) (hg : Gl X "zip") (hm : X.mg "zip" = none) (ha : PA X [e, e2] ta)
    (hs : starEach [e, e2] X.env = (false, eval e X.env) :: starEach [e2] X.env := by rfl) (hpl : (backTo pos (starEach [e2] X.env)).any (·.1) = false := by rfl) : PI X (.Tuple elts kk tpos) (.Call (.Name "zip" p) [e, e2] [] pos) (RZ.iZipA K ta) := by subst h; exact RZ.pi_zipA hg hm ha hs hpl
theorem pi_enum {e : Expr} {ta : TA} {p pos tpos : Pos} {elts : List Expr} {kk : Nat} (h : X.K = K) (hg : Gl X "enumerate") (hm : X.mg "enumerate" = none) (ha : PA X [e] ta) (hs : starEach [e] X.env = [(false, eval e X.env)] := by rfl) :
    PI X (.Tuple elts kk tpos) (.Call (.Name "enumerate" p) [e] [] pos) (iEnum K ta) := by subst h; exact L2.pi_enum hg hm ha hs
theorem r_enum {σ : L2.St} {H : Hp} {ta : TA} {R : It → Hp → Prop} (k : ta σ H fun vs H1 => ∃ a xs, vs = [.ref a] ∧ SqL K H1 a xs ∧ R (Ite K a) H1) : iEnum K ta σ H R := k
theorem r_zip {σ : L2.St} {H : Hp} {ta : TA} {R : It → Hp → Prop} (k : ta σ H fun vs H1 => ∃ a b xs ys, vs = [.ref a, .ref b] ∧ ((SqL K H1 a xs ∧ SqL K H1 b ys ∧ R (Itz K a b) H1) ∨ (SqT K H1 a xs ∧ SqT K H1 b ys ∧ R (RZ.ItzT K a b) H1))) : RZ.iZipA K ta σ H R := k
theorem r_slA {a : Addr} {xs : List V} {lo hi : Option Int} {Q : VK} {H : Hp} (h : H a = some (.tup xs)) (k : ∀ p H', Same H H' → H' p = some (.tup (cutV xs lo hi)) → Q (.ref p) H') : rSlA K (.ref a) lo hi H Q :=
  ⟨a, xs, rfl, sqT h, fun c => k a H (Same.refl H) (by unfold cutV; rw [c.1, c.2, List.drop_zero, Nat.sub_zero, List.take_length]; exact h), fun _ p hp => k p _ (Same.new0 hp) upd_same⟩
theorem r_ltT {a b : Addr} {ns ms : List Int} {Q : VK} {H : Hp} (h1 : SqT K H a (ns.map V.int)) (h2 : SqT K H b (ms.map V.int)) (k : Q (.bl (HT.lexLt ns ms)) H) : rLtT K (.ref a) (.ref b) H Q := ⟨a, b, ns, ms, rfl, rfl, h1, h2, k⟩
theorem r_catT {a b : Addr} {xs ys : List V} {Q : VK} {H : Hp} (h1 : SqT K H a xs) (h2 : SqT K H b ys) (nx : xs ≠ []) (ny : ys ≠ []) (hl : xs.length + ys.length ≤ sizeLine) (k : ∀ p H', H p = none → Same H H' → H' p = some (.tup (xs ++ ys)) → Q (.ref p) H') : rCatT K (.ref a) (.ref b) H Q :=
  ⟨a, b, xs, ys, rfl, rfl, h1, h2, nx, hl, fun e => absurd e ny, fun _ p hp => k p _ hp (Same.new0 hp) upd_same⟩
end
end MyK

/-! a dict from pairs of floors to numbers, as a list of groups; sorted groups. -/
namespace MyD
open PySem L2 MyB MyR MyS
abbrev Grp := Int × Int × Int
def enc (x : Grp) : List Key × V := ([.inl x.1, .inl x.2.1], .int x.2.2)
abbrev pr (x : Grp) : Int × Int := (x.1, x.2.1)
theorem enc_key {x : Grp} {s w : Int} : (enc x).1 = [.inl s, .inl w] ↔ x.1 = s ∧ x.2.1 = w := by
  simp [enc]
def hasG (L : List Grp) (s w : Int) : Bool := L.any fun x => decide (x.1 = s ∧ x.2.1 = w)
def putG (L : List Grp) (s w m : Int) : List Grp :=
  if hasG L s w = true then L.map fun x => if x.1 = s ∧ x.2.1 = w then (x.1, x.2.1, m) else x else L ++ [(s, w, m)]
theorem any_enc (s w : Int) : ∀ L : List Grp, ((L.map enc).any fun kv => decide (kv.1 = [.inl s, .inl w])) = hasG L s w
  | [] => rfl
  | x :: L => by
    rw [List.map_cons, List.any_cons]
    show _ = (decide (x.1 = s ∧ x.2.1 = w) || hasG L s w)
    rw [any_enc s w L]
    congr 1
    exact decide_eq_decide.mpr enc_key
theorem putK_enc (L : List Grp) (s w m : Int) : putK (L.map enc) [.inl s, .inl w] (.int m) = (putG L s w m).map enc := by
  unfold putK putG
  rw [any_enc]
  by_cases c : hasG L s w = true
  · rw [if_pos c, if_pos c, List.map_map, List.map_map]
    apply List.map_congr_left
    intro x _
    show (if (enc x).1 = [Sum.inl s, Sum.inl w] then ((enc x).1, V.int m) else enc x) = enc (if x.1 = s ∧ x.2.1 = w then (x.1, x.2.1, m) else x)
    by_cases e : x.1 = s ∧ x.2.1 = w
    · rw [if_pos e, if_pos (enc_key.mpr e)]
      rfl
    · rw [if_neg e, if_neg (fun q => e (enc_key.mp q))]
  · rw [if_neg c, if_neg c, List.map_append]
    rfl
theorem putG_len (L : List Grp) (s w m : Int) : (putG L s w m).length ≤ L.length + 1 := by
  unfold putG
  split
  · rw [List.length_map]
    omega
  · rw [List.length_append]
    exact Nat.le_refl _
theorem putG_all {P : Grp → Prop} {L : List Grp} {s w m : Int} (h : ∀ x ∈ L, P x) (hn : P (s, w, m)) : ∀ x ∈ putG L s w m, P x := by
  unfold putG
  intro x hx
  split at hx
  · obtain ⟨y, hy, rfl⟩ := List.mem_map.mp hx
    by_cases e : y.1 = s ∧ y.2.1 = w
    · rw [if_pos e, e.1, e.2]
      exact hn
    · rw [if_neg e]
      exact h y hy
  · rcases List.mem_append.mp hx with hx | hx
    · exact h x hx
    · rw [List.mem_singleton.mp hx]
      exact hn
theorem putG_nodup {L : List Grp} {s w m : Int} (h : (L.map pr).Nodup) : ((putG L s w m).map pr).Nodup := by
  unfold putG
  by_cases c : hasG L s w = true
  · rw [if_pos c, List.map_map]
    have e : (pr ∘ fun x : Grp => if x.1 = s ∧ x.2.1 = w then (x.1, x.2.1, m) else x) = pr := by
      funext x
      show pr (if x.1 = s ∧ x.2.1 = w then (x.1, x.2.1, m) else x) = pr x
      split <;> rfl
    rw [e]
    exact h
  · rw [if_neg c, List.map_append]
    refine List.nodup_append.mpr ⟨h, List.nodup_cons.mpr ⟨List.not_mem_nil, List.nodup_nil⟩, ?_⟩
    intro a ha b hb e
    rw [List.map_cons, List.map_nil] at hb
    have hb' := List.mem_singleton.mp hb
    obtain ⟨x, hx, rfl⟩ := List.mem_map.mp ha
    rw [hb'] at e
    refine c (List.any_eq_true.mpr ⟨x, hx, decide_eq_true ?_⟩)
    exact ⟨congrArg Prod.fst e, congrArg Prod.snd e⟩
theorem valV_enc : ∀ {L : List Grp} {i : Nat} {x : Grp}, (L.map pr).Nodup → L[i]? = some x → valV (L.map enc) [.inl x.1, .inl x.2.1] = some (.int x.2.2)
  | [], _, _, _, h => by simp at h
  | y :: L, 0, x, _, h => by
    have e : y = x := by simpa using h
    subst e
    rw [List.map_cons]
    exact valV_pos (p := enc y) rfl
  | y :: L, i + 1, x, nd, h => by
    have h' : L[i]? = some x := by simpa using h
    rw [List.map_cons] at nd
    obtain ⟨n1, n2⟩ := List.nodup_cons.mp nd
    rw [List.map_cons, valV_neg (p := enc y)]
    · exact valV_enc n2 h'
    · intro q
      obtain ⟨e1, e2⟩ := enc_key.mp q
      refine n1 (List.mem_map.mpr ⟨x, List.mem_of_getElem? h', ?_⟩)
      show (x.1, x.2.1) = (y.1, y.2.1)
      rw [e1, e2]
/-! ### what a tuple of ints holds -/
def unI : V → Int
  | .int n => n
  | _ => 0
def kH (H : Hp) : V → List Int
  | .ref t => match H t with
    | some (.tup vs) => vs.map unI
    | _ => []
  | _ => []
theorem kH_at {H : Hp} {t : Addr} {ns : List Int} (h : H t = some (.tup (ns.map V.int))) : kH H (.ref t) = ns := by
  show (match H t with | some (.tup vs) => vs.map unI | _ => []) = ns
  rw [h]
  show (ns.map V.int).map unI = ns
  rw [List.map_map]
  have e : unI ∘ V.int = id := rfl
  rw [e, List.map_id]
abbrev gl (x : Grp) : List Int := [x.1, x.2.1, x.2.2]
abbrev gv (x : Grp) : List V := (gl x).map V.int
theorem gl_inj {x y : Grp} (h : gl x = gl y) : x = y := by
  obtain ⟨a, b, c⟩ := x
  obtain ⟨a', b', c'⟩ := y
  simpa [gl] using h
def ascP (x y : Grp) : Prop := x.1 < y.1 ∨ (x.1 = y.1 ∧ x.2.1 < y.2.1)
/-- a list of refs to groups, sorted: the groups, ascending -/
theorem sorted_groups {H : Hp} {L0 : List Grp} {xs ys : List V} (hl : xs.length = L0.length) (hx : ∀ (i : Nat) (y : V), xs[i]? = some y → ∃ t x, y = V.ref t ∧ L0[i]? = some x ∧ H t = some (.tup (gv x))) (nd : (L0.map pr).Nodup)
    (hs : ys.Pairwise fun x y => ltL (kH H y) (kH H x) = false) (hp : ys.Perm xs) :
    ∃ (L : List Grp) (as : List Addr), L.Perm L0 ∧ L.Pairwise ascP ∧ ys = as.map V.ref ∧ Paired (fun a x => H a = some (.tup (gv x))) as L := by
  -- the groups of xs, by kH
  have e0 : xs.map (kH H) = L0.map gl := by
    apply List.ext_getElem?
    intro i
    rw [List.getElem?_map, List.getElem?_map]
    cases h : xs[i]? with
    | none =>
      have : L0[i]? = none := by
        rw [List.getElem?_eq_none_iff] at h ⊢
        omega
      rw [this]
      rfl
    | some y =>
      obtain ⟨t, x, rfl, e, ht⟩ := hx i y h
      rw [e]
      show some (kH H (.ref t)) = some (gl x)
      rw [kH_at (ns := gl x) ht]
  have key : ∀ (ys : List V), (∀ y ∈ ys, ∃ t x, y = V.ref t ∧ H t = some (.tup (gv x))) → ∃ (L : List Grp) (as : List Addr), ys.map (kH H) = L.map gl ∧ ys = as.map V.ref ∧ Paired (fun a x => H a = some (.tup (gv x))) as L := by
    intro ys
    induction ys with
    | nil => exact fun _ => ⟨[], [], rfl, rfl, .nil⟩
    | cons y ys ih =>
      intro h
      obtain ⟨t, x, rfl, ht⟩ := h y List.mem_cons_self
      obtain ⟨L, as, e1, rfl, q⟩ := ih fun z hz => h z (List.mem_cons_of_mem _ hz)
      refine ⟨x :: L, t :: as, ?_, rfl, .cons ht q⟩
      rw [List.map_cons, List.map_cons, e1, kH_at (ns := gl x) ht]
  obtain ⟨L, as, e1, e2, q⟩ := key ys fun y hy => by
    obtain ⟨i, hi⟩ := List.getElem?_of_mem (hp.mem_iff.mp hy)
    obtain ⟨t, x, e, _, ht⟩ := hx i y hi
    exact ⟨t, x, e, ht⟩
  have pm : (L.map gl).Perm (L0.map gl) := by
    rw [← e0, ← e1]
    exact hp.map _
  have pL : L.Perm L0 := perm_of_map L L0 pm
  refine ⟨L, as, pL, ?_, e2, q⟩
  have s1 : (L.map gl).Pairwise fun a b => ltL b a = false := by
    rw [← e1]
    exact List.pairwise_map.mpr hs
  have s2 : L.Pairwise fun x y => ltL (gl y) (gl x) = false := List.pairwise_map.mp s1
  have s3 : L.Pairwise fun x y => pr x ≠ pr y := List.pairwise_map.mp ((pL.map pr).nodup_iff.mpr nd)
  have s4 := List.Pairwise.and s2 s3
  refine s4.imp fun {x y} h => ?_
  obtain ⟨h1, h2⟩ := h
  have h1' : (if y.1 = x.1 then (if y.2.1 = x.2.1 then (if y.2.2 = x.2.2 then false else decide (y.2.2 < x.2.2)) else decide (y.2.1 < x.2.1)) else decide (y.1 < x.1)) = false := h1
  have h2' : ¬ (x.1 = y.1 ∧ x.2.1 = y.2.1) := fun z => h2 (Prod.ext z.1 z.2)
  by_cases c : y.1 = x.1
  · rw [if_pos c] at h1'
    have c2 : ¬ y.2.1 = x.2.1 := fun z => h2' ⟨c.symm, z.symm⟩
    rw [if_neg c2, decide_eq_false_iff_not] at h1'
    exact .inr ⟨c.symm, by omega⟩
  · rw [if_neg c, decide_eq_false_iff_not] at h1'
    exact .inl (by omega)
where
  perm_of_map : ∀ (L M : List Grp), (L.map gl).Perm (M.map gl) → L.Perm M := fun L M h => by
    have e : ∀ K : List Grp, (K.map gl).map (fun l => (l.getD 0 0, l.getD 1 0, l.getD 2 0)) = K := fun K => by
      rw [List.map_map]
      have q : ((fun l : List Int => (l.getD 0 0, l.getD 1 0, l.getD 2 0)) ∘ gl) = id := rfl
      rw [q, List.map_id]
    have h2 := h.map fun l => (l.getD 0 0, l.getD 1 0, l.getD 2 0)
    rw [e, e] at h2
    exact h2
end MyD

/-! equal data; lists of numbers told by a function. -/
namespace MyD
open PySem L2 MyB MyR
theorem r_eqD {K : PySem.W.Frag} {H : Hp} {Q : VK} {x y : V} {d : PyData} (h1 : Dp K H x d) (h2 : Dp K H y d) (sh : SeqAt.shaped d = true) (k : Q (.bl true) H) : rEqD K x y H Q :=
  ⟨d, d, h1, h2, sh, sh, by rw [SeqAt.eqv_refl d (SeqAt.canLay_of_shaped sh)]; exact k⟩
theorem r_neD {K : PySem.W.Frag} {H : Hp} {Q : VK} {x y : V} {d : PyData} (h1 : Dp K H x d) (h2 : Dp K H y d) (sh : SeqAt.shaped d = true) (k : Q (.bl false) H) : rNeD K x y H Q :=
  ⟨d, d, h1, h2, sh, sh, by rw [SeqAt.eqv_refl d (SeqAt.canLay_of_shaped sh)]; exact k⟩
def gD1 (x : Grp) : PyData := .tuple [.int x.1, .int x.2.1, .int x.2.2]
def gD (L : List Grp) : PyData := .tuple (L.map gD1)
theorem gD_can : ∀ L : List Grp, PyData.canLayAll0 (L.map gD1) = true
  | [] => rfl
  | x :: L => by
    rw [List.map_cons]
    show (PyData.canLay0 (gD1 x) && PyData.canLayAll0 (L.map gD1)) = true
    rw [gD_can L]
    rfl
theorem gD_depth : ∀ L : List Grp, PyData.depthAll (L.map gD1) ≤ 5
  | [] => by simp [PyData.depthAll]
  | x :: L => by
    have h := gD_depth L
    rw [List.map_cons]
    have e : PyData.depthAll (gD1 x :: L.map gD1) = max (PyData.depth (gD1 x)) (PyData.depthAll (L.map gD1)) := by rw [PyData.depthAll]
    have e2 : PyData.depth (gD1 x) ≤ 5 := by simp [gD1, PyData.depth, PyData.depthAll]
    omega
theorem gD_shaped (L : List Grp) : SeqAt.shaped (gD L) = true := by
  unfold SeqAt.shaped
  have h1 : PyData.canLay0 (gD L) = true := by
    show PyData.canLayAll0 (L.map gD1) = true
    exact gD_can L
  have h2 : PyData.depth (gD L) ≤ 64 := by
    have h := gD_depth L
    unfold gD
    rw [PyData.depth]
    omega
  rw [h1, decide_eq_true h2]
  rfl
theorem dpAll_groups {K : PySem.W.Frag} {H : Hp} {as : List Addr} {L : List Grp} (h : Paired (fun a x => H a = some (.tup (gv x))) as L) : DpAll K H (as.map V.ref) (L.map gD1) := by
  induction h with
  | nil => exact .nil
  | @cons a x as L r t ih => exact .cons (.tup (sqT r) (.cons (.int _) (.cons (.int _) (.cons (.int _) .nil)))) ih
def tD (u d : Int) (f : Bool) : PyData := .tuple [.int u, .int d, .bool f]
theorem tD_shaped (u d : Int) (f : Bool) : SeqAt.shaped (tD u d f) = true := by
  unfold SeqAt.shaped
  have h2 : PyData.depth (tD u d f) ≤ 64 := by simp [tD, PyData.depth, PyData.depthAll]
  rw [decide_eq_true h2, Bool.and_true]
  rfl
theorem dp_triple {K : PySem.W.Frag} {H : Hp} {t : Addr} {u d : Int} {f : Bool} (h : H t = some (.tup [.int u, .int d, .bl f])) : Dp K H (.ref t) (tD u d f) :=
  .tup (sqT h) (.cons (.int _) (.cons (.int _) (.cons (.bl _) .nil)))
/-! ### lists told by a function of the place -/
def fnL (n : Nat) (f : Int → V) : List V := (List.range n).map fun (i : Nat) => f (i : Int)
theorem fnL_len (n : Nat) (f : Int → V) : (fnL n f).length = n := by simp [fnL]
theorem fnL_get {n : Nat} {f : Int → V} {j : Nat} (h : j < n) : (fnL n f)[j]? = some (f (j : Int)) := by simp [fnL, h]
theorem fnL_congr {n : Nat} {f g : Int → V} (h : ∀ i : Int, 0 ≤ i → i < n → f i = g i) : fnL n f = fnL n g := by
  unfold fnL
  apply List.map_congr_left
  intro i hi
  exact h i (by omega) (by have := List.mem_range.mp hi; omega)
theorem fnL_set {n : Nat} {f : Int → V} {j : Int} {v : V} (h0 : 0 ≤ j) (h : j < n) : (fnL n f).set j.toNat v = fnL n fun i => if i = j then v else f i := by
  apply List.ext_getElem?
  intro i
  rw [List.getElem?_set]
  by_cases e : j.toNat = i
  · rw [if_pos e, if_pos (by rw [fnL_len]; omega)]
    rw [fnL_get (by omega), if_pos (by omega)]
  · rw [if_neg e]
    by_cases c : i < n
    · rw [fnL_get c, fnL_get c, if_neg (by omega)]
    · have e1 : (fnL n f)[i]? = none := by
        rw [List.getElem?_eq_none_iff, fnL_len]
        omega
      have e2 : (fnL n fun i => if i = j then v else f i)[i]? = none := by
        rw [List.getElem?_eq_none_iff, fnL_len]
        omega
      rw [e1, e2]
theorem fnL_at {n : Nat} {f : Int → V} {j : Int} (h0 : 0 ≤ j) (h : j < n) : atI (fnL n f) j = some (f j) := by
  refine at_nat h0 ?_
  rw [fnL_get (by omega)]
  congr 2
  omega
theorem fnL_rep (n : Nat) (v : V) : (List.replicate n [v]).flatten = fnL n fun _ => v := by
  unfold fnL
  rw [List.map_const', List.length_range]
  induction n with
  | zero => rfl
  | succ n ih => rw [List.replicate_succ, List.flatten_cons, ih, List.replicate_succ]; rfl
end MyD

/-! sum of a tuple, max of three, list(range(n)), any. -/
namespace MyK
open PySem L2 MyB MyR MyD
def rSumT (K : PySem.W.Frag) : List V → Hp → VK → Prop := fun vs H Q => ∃ (a : Addr) (ns : List Int), vs = [V.ref a] ∧ SqT K H a (ns.map V.int) ∧ Q (.int ns.sum) H
open PySem.Spec PySem.Calls PyProof.Rows PyProof.V in
theorem sum_rawT {prog : Program} {w : World} {A : Around} {E : Value → Shared → Prop} {s : Shared} {l : Addr} {its : List Value} {ns : List Int} {Q : Value → Shared → Prop} (hh : A.handled = none) (hl : s.heap.IsTuple l its.toArray) (hi : IntsAre its ns)
    (h : ∀ h' tk t', (∀ b o, s.heap.get? b = some o → h'.get? b = some o) → Q (.int ns.sum t') { s with heap := h', toks := tk }) : wpAny (model prog w) A (call (.builtin "sum") [.ref l]) Q E s := by
  obtain ⟨xs, e⟩ := hi.allInts.items
  have hn : numsOf (intItems xs).toList = ns := by rw [← e]; exact hi.numsOf
  rw [nums_intItems] at hn
  rw [e] at hl
  refine PySem.W.ktm_sumG hh hl fun h' tk t' hk => ?_
  have := h h' tk t' hk
  rw [preSum_eq, List.take_of_length_le (by simp), hn]
  exact this
section
variable {X : Cx} {K : PySem.W.Frag}
theorem cr_sumT (h : X.K = K) (hc : X.calm = true) : CallR X (.builtin "sum") (rSumT K) := by
  subst h
  intro pins s σ H vs us Q I r h
  obtain ⟨a, ns, rfl, hs, q⟩ := h
  obtain ⟨its, rv, hl, _⟩ := I.tuple hs
  rw [Vals.ref1 r]
  exact sum_rawT (I.ok.hd hc) hl rv.ints fun h' tk t' hk => ⟨.int _, H, I.kept hk, ⟨_, rfl⟩, q⟩
def qMax3 : List V → Hp → VK → Prop := fun xs H Q => ∃ i j k, xs = [.int i, .int j, .int k] ∧ Q (.int (max (max i j) k)) H
theorem q_max3 (hc : X.calm = true) : CallR X (.builtin "max") qMax3 := by
  intro pins s σ H vs us Q I r h
  obtain ⟨i, j, k, rfl, q⟩ := h
  refine call_max3Nu hc pins s σ H _ us Q I r ⟨.int i, .int j, .int k, .int (max (max i j) k), rfl, ?_, q⟩
  have e2 : ∀ a b : Int, nuMax2 (.int a) (.int b) = some (.int (max a b)) := fun a b => by
    show some (if decide (a < b) = true then V.int b else V.int a) = some (.int (max a b))
    by_cases c : a < b
    · rw [if_pos (decide_eq_true c)]
      congr 2
      omega
    · rw [if_neg (by simpa using c)]
      congr 2
      omega
  show (nuMax2 (.int i) (.int j)).bind (fun m => nuMax2 m (.int k)) = _
  rw [e2]
  exact e2 _ _
end
section
variable {σ : L2.St} {H : Hp} {Q : VK} {K : PySem.W.Frag}
theorem r_sumT {a : Addr} {ns : List Int} (h : SqT K H a (ns.map V.int)) (k : Q (.int ns.sum) H) : rSumT K [V.ref a] H Q := ⟨a, ns, rfl, h, k⟩
theorem r_max3 {i j k : Int} (q : Q (.int (max (max i j) k)) H) : qMax3 [V.int i, V.int j, V.int k] H Q := ⟨i, j, k, rfl, q⟩
theorem r_any {a : Addr} {bs : List Bool} (h : SqL K H a (bs.map V.bl)) (k : Q (.bl (bs.any id)) H) : rAny K [V.ref a] H Q := ⟨a, bs, rfl, h, k⟩
def kRg (n : Int) (H : Hp) (Q : VK) : Prop := RgOk 0 n ∧ ∀ q, H q = none → Q (.ref q) (upd H q (.lst (rgV 0 n)))
theorem r_listRg {ta : TE} (k : ta σ H fun x H1 => ∃ n, x = .int n ∧ kRg n H1 Q) : tLstRg (tRg1 ta) σ H Q := k
theorem rgV_fnL {n : Int} : rgV 0 n = fnL n.toNat fun i => .int i := by
  unfold rgV fnL
  rw [Int.sub_zero]
  apply List.map_congr_left
  intro i _
  rw [Int.zero_add]
theorem r_kRg {n : Int} (h0 : 0 ≤ n) (h1 : n ≤ 1000000) (k : ∀ q H', H q = none → Same H H' → H' q = some (.lst (fnL n.toNat fun i => .int i)) → Q (.ref q) H') : kRg n H Q :=
  ⟨RgOk.of_le (Int.le_refl _) (by omega) (by omega) h0, fun q hq => k q _ hq (Same.new0 hq) (by rw [upd_same, rgV_fnL])⟩
end
end MyK

/-! == and != of instances by the text's own __eq__; isinstance of a class above. -/
namespace MyO
open PySem PySem.Spec PyProof.Rows L2 MyB
open PySem.W (Frag InstAt findIn isFn Looks looks_findIn looks_subIn notFirst ifBound_K subIn)
section
variable {prog : Program} {w : World} {A : Around} {E : Value → Shared → Prop} {s : Shared} {K : Frag} {x C L f : Addr} {h₀ : Heap} {m : Str → Option Value} {ox : Obj} {od : Option Obj} {b tb : Value}
theorem ifBound_slot {M : Model} {args : List Value} {name : Str} {id : String} {Q : Option Value → Shared → Prop} (X : K.In s.heap) (I : InstAt s.heap x ox C od) (hs : findIn K (.ref C) name = some (some (.builtin id))) (hb : ∀ self, bindSpecial (.builtin id) self = pure (.builtin id, [self]))
    (h : wpAny M A (call (.builtin id) (.ref x :: args)) (fun v => Q (some v)) E s) : wpAny M A (callSpecialIfBound? (.ref x) name args) Q E s := by
  simp only [callSpecialIfBound?, bindSpecialIfBound?]
  refine wpAny_holding (wpAny_bind (wpAny_bind (wpAny_bind (I.type.here ((looks_findIn X hs).here ?_)))))
  simp only [hb]
  refine wpAny_bind (wpAny_askSetting (wpAny_ite ?_))
  have fin : wpAny M A (call (.builtin id) ([.ref x] ++ args) >>= fun v => pure (some v)) Q E s := wpAny_bind (wpAny_mono h (fun v s' h' => wpAny_pure h') fun _ _ h' => h')
  split
  · exact wpAny_bind (wpAny_pure (wpAny_pure fin))
  · exact wpAny_tryCatch (wpAny_bind (wpAny_pure (wpAny_pure fin)))
theorem chk_ne {M : Model} {Q : Unit → Shared → Prop} (X : K.In s.heap) (I : InstAt s.heap x ox C od) (hsub : subIn K (.ref C) (.type "object") = some true) (hq : Q () s) : wpAny M A (checkBuiltinCall "object.__ne__" ⟨[.ref x, b], []⟩) Q E s := by
  have ha := F.cmpArgs_ne (.ref x) b
  simp only [checkBuiltinCall, F.cmpKind_ne, F.cmpSplit_ne]
  have L : Looks M s.heap (isInstance (.ref x) (.type "object")) true := I.type.andThen (looks_subIn X hsub)
  refine wpAny_bind (L.here ?_)
  cases hsig : Manifest.signature? "object.__ne__" with
  | none => exact wpAny_pure hq
  | some sig =>
    simp only [argsOk, hsig] at ha
    have h2 : Bind.checkArgs "object.__ne__" sig ⟨[.ref x, b], []⟩ = pure () := ha
    show wpAny M A (Bind.checkArgs "object.__ne__" sig ⟨[.ref x, b], []⟩) Q E _
    rw [h2]
    exact wpAny_pure hq
theorem entry_ne {Q : Fin → Shared → Prop} (X : K.In s.heap) (I : InstAt s.heap x ox C od) (hs : findIn K (.ref C) "__eq__" = some (some (.ref f))) (hf : isFn K (.ref f) = true) (hu : A.units < cLine)
    (hcall : wpAny (model prog w) A (call (.ref f) [.ref x, b]) (fun v s' => ∃ r, v = .bool r ∧ Q (.done (.ret (.bool (!r)))) s') E s) :
    wpAny (model prog w) A (Builtin.«object.__ne__» ⟨[.ref x, b], []⟩) Q E s := by
  unfold Builtin.«object.__ne__»
  repeat (first
    | with_reducible refine wpAny_cRoomFor hu ?_
    | (refine wpAny_bind (m := callSpecialIfBound? (.ref x) (Str.ofString "__eq__") [b])
        (ifBound_K X I hs hf (wpAny_mono hcall (fun r s' hr => by
          obtain ⟨b, rfl, hq⟩ := hr
          repeat (first | exact hq | exact wpAny_pure hq | exact wpAny_truthy_bool hq | (refine wpAny_bind (m := truthy (.bool _)) (wpAny_truthy_bool ?_)) | wp_step)) fun _ _ e => e)))
    | wp_step)
theorem cmp_ne {Q : Value → Shared → Prop} (hu : A.units + 1 < cLine) (FF : Fr h₀ L s.heap m) (X₀ : K.In h₀) (I : InstAt s.heap x ox C od) (hb : Looks (model prog w) s.heap (typeOf b) tb) (hn : notFirst K C tb = true)
    (hne : findIn K (.ref C) "__ne__" = some (some (.builtin "object.__ne__"))) (hsub : subIn K (.ref C) (.type "object") = some true) (hs : findIn K (.ref C) "__eq__" = some (some (.ref f))) (hf : isFn K (.ref f) = true)
    (h : wpAny (model prog w) A.in1 (call (.ref f) [.ref x, b]) (fun v s' => ∃ r, v = .bool r ∧ Q (.bool (!r)) s') E s) : wpAny (model prog w) A (richCompare .NotEq (.ref x) b) Q E s := by
  have X := X₀.keeps FF.keep
  have one : wpAny (model prog w) A (tryCompare (.ref x) (cmpInfo .NotEq).2.1 b) (fun r s' => ∃ v, r = some v ∧ Q v s') E s := by
    unfold tryCompare
    refine wpAny_bind (ifBound_slot X I hne F.cmp_object.ne.bind (wpAny_call (codeAny_call_builtin F.cmp_object.ne.plain F.cmpEntry_ne (chk_ne X I hsub
      (entry_ne (A := A.in1) X I hs hf hu (wpAny_mono h (fun v s' hv => ?_) fun _ _ e => e))))))
    obtain ⟨r, rfl, hq⟩ := hv
    first | exact ⟨r, rfl, wpAny_pure ⟨_, rfl, hq⟩⟩ | exact ⟨r, rfl, wpAny_pure (wpAny_pure ⟨_, rfl, hq⟩)⟩
  unfold richCompare
  simp only [oneThing_ref]
  refine wpAny_holding (wpAny_bind (wpAny_cRoomFor (Nat.lt_of_succ_lt hu) ?_))
  refine wpAny_bind (I.type.here (wpAny_bind (hb.here ?_)))
  split
  · rename_i q
    have e : subIn K tb (.ref C) = some false := by
      rcases Bool.or_eq_true_iff.mp hn with e | e
      · rw [beq_iff_eq.mp e] at q; simp at q
      · exact beq_iff_eq.mp e
    refine wpAny_bind ((looks_subIn X e).here ?_)
    simp only [Bool.false_eq_true, if_false]
    refine wpAny_bind (wpAny_mono one (fun r s' z => ?_) fun _ _ e => e)
    obtain ⟨v, rfl, hq⟩ := z
    exact wpAny_pure hq
  · refine wpAny_bind (wpAny_pure ?_)
    simp only [Bool.false_eq_true, if_false]
    refine wpAny_bind (wpAny_mono one (fun r s' z => ?_) fun _ _ e => e)
    obtain ⟨v, rfl, hq⟩ := z
    exact wpAny_pure hq
end
/-- the class at C (or one above it) has its own __eq__, and no own __ne__ -/
def EqOf (P : Program) (w : World) (K : Frag) (mg : Str → Option Value) (base : Heap) (k : Nat) (C : Addr) (sp : Sp) : Prop :=
  ∃ f fd, FnOk P w K mg base CX0 k f fd ["self", "other"] sp ∧ findIn K (.ref C) "__eq__" = some (some (.ref f)) ∧ isFn K (.ref f) = true ∧ Binds K fd ["self", "other"] [] ∧
    findIn K (.ref C) "__ne__" = some (some (.builtin "object.__ne__")) ∧ subIn K (.ref C) (.type "object") = some true
/-- x == y or x != y: the own __eq__ says r -/
def rOwnB (K : Frag) (C : Addr) (sp : Sp) (g : Bool → Bool) : R2 := fun x y H Q => ∃ a dx fs b C' dy gs, x = .ref a ∧ y = .ref b ∧ H a = some (.ins C dx fs) ∧ H b = some (.ins C' dy gs) ∧ notFirst K C (.ref C') = true ∧
  sp [.ref a, .ref b] H (fun v H' => ∃ r, v = .bl r ∧ Q (.bl (g r)) H') E0
section
variable {X : Cx} {k : Nat} {C f : Addr} {fd : FuncData} {sp : Sp}
theorem call_own {A : Around} {pins : List (Addr × Obj)} {σ : L2.St} {H : Hp} {s : Shared} {a b : Addr} {Q : VK} (F : FnOk X.prog X.w X.K X.mg X.base CX0 k f fd ["self", "other"] sp) (hb : Binds X.K fd ["self", "other"] []) (hr : Room k A) (hfr : A.frames = X.A.frames) (I : Inv X pins σ H s)
    (hsp : sp [.ref a, .ref b] H Q E0) : wpAny (model X.prog X.w) A (call (.ref f) [.ref a, .ref b]) (fun v s' => ∃ z H', Inv X pins σ H' s' ∧ RelV z v ∧ Q z H') X.xe s := by
  have e0 : Env0 X.prog X.w X.K X.mg X.base A X.stack s H := by
    have e := I.env0
    exact ⟨by rw [hfr]; exact e.frames, e.mod, e.bs, e.bsz, e.funs, e.frf, e.hok, e.bare⟩
  have hl := F.len _ _ _ _ hsp
  have r2 : Vals [V.ref a, V.ref b] [Value.ref a, Value.ref b] := .cons rfl (.cons rfl .nil)
  refine wpAny_call (codeAny_mono (F.run A X.stack s H ⟨[.ref a, .ref b], []⟩ [.ref a, .ref b] [.ref a, .ref b] _ E0 hr e0 (by
    have := hb s [.ref a, .ref b] I.kIn (by simpa using hl)
    simpa using this) r2 hsp) fun r s' hq => ?_)
  cases r with
  | error e => exact pass0 pins σ H s e s' I hq
  | ok fl =>
    cases fl with
    | ret w =>
      obtain ⟨z, H', I', rz, q⟩ := I.after hq
      exact ⟨z, H', I', rz, q⟩
    | next => exact False.elim hq
    | brk => exact False.elim hq
    | cont => exact False.elim hq
theorem op_eqO (D : EqOf X.prog X.w X.K X.mg X.base k C sp) (hr : Room k X.A) : OpR X (compareOp .Eq) (rOwnB X.K C sp id) := by
  intro pins s σ H x y v u Q I rx ry h
  obtain ⟨f, fd, F, hs, hf, hb, hne, hsub⟩ := D
  obtain ⟨a, dx, fs, b, C', dy, gs, rfl, rfl, ha, hb', hn, q⟩ := h
  cases (show v = Value.ref a from rx)
  cases (show u = Value.ref b from ry)
  obtain ⟨mA, J, _⟩ := ins_get I.hok ha
  obtain ⟨mB, J', _⟩ := ins_get I.hok hb'
  obtain ⟨od, J, _⟩ := J.look
  obtain ⟨od', J', _⟩ := J'.look
  obtain ⟨m, hF⟩ := I.fr
  show wpAny (model X.prog X.w) X.A (richCompare .Eq (.ref a) (.ref b)) (EP X pins σ Q) X.xe s
  refine PySem.W.cmp_K (op := .Eq) (tb := .ref C') hr.units0 hF I.ok.mod.kin J J'.type hn hs hf ?_
  refine wpAny_mono (call_own F hb hr rfl I q) (fun w' s' z => ?_) fun _ _ x => x
  obtain ⟨z, H', I', rz, r, rfl, q⟩ := z
  cases rz
  exact ⟨.bl r, H', I', rfl, q⟩
theorem op_neO (D : EqOf X.prog X.w X.K X.mg X.base k C sp) (hr : Room (k + 1) X.A) : OpR X (compareOp .NotEq) (rOwnB X.K C sp not) := by
  intro pins s σ H x y v u Q I rx ry h
  obtain ⟨f, fd, F, hs, hf, hb, hne, hsub⟩ := D
  obtain ⟨a, dx, fs, b, C', dy, gs, rfl, rfl, ha, hb', hn, q⟩ := h
  cases (show v = Value.ref a from rx)
  cases (show u = Value.ref b from ry)
  obtain ⟨mA, J, _⟩ := ins_get I.hok ha
  obtain ⟨mB, J', _⟩ := ins_get I.hok hb'
  obtain ⟨od, J, _⟩ := J.look
  obtain ⟨od', J', _⟩ := J'.look
  obtain ⟨m, hF⟩ := I.fr
  show wpAny (model X.prog X.w) X.A (richCompare .NotEq (.ref a) (.ref b)) (EP X pins σ Q) X.xe s
  refine cmp_ne (tb := .ref C') (by have := hr.units; omega) hF I.ok.mod.kin J J'.type hn hne hsub hs hf ?_
  refine wpAny_mono (call_own F hb hr.in1 rfl I q) (fun w' s' z => ?_) fun _ _ x => x
  obtain ⟨z, H', I', rz, r, rfl, q⟩ := z
  cases rz
  exact ⟨r, rfl, .bl (!r), H', I', rfl, q⟩
/-- isinstance(x, C') of an instance of C -/
theorem call_isCC {C C' : Addr} {b : Bool} (c : C8.InsC X.K C) (me : PySem.W.kitOne X.K (.ref C) (.ref C') = some b) : CallR X (.builtin "isinstance") (fun xs H Q => ∃ a dx fs, xs = [.ref a, .ref C'] ∧ H a = some (.ins C dx fs) ∧ Q (.bl b) H) := by
  intro pins s σ H xs us Q I r h
  obtain ⟨a, dx, fs, rfl, ha, q⟩ := h
  obtain ⟨u, w', rfl, ru, rw'⟩ := vals2 r
  cases rw'
  exact isinst_ok I ru (TyOf.ins ha c.cl c.ha c.hn c.htk c.hm) me fun tk => ⟨.bl b, H, I.tok _, rfl, q⟩
/-- isinstance(x, C') of an instance of any class of the text -/
theorem call_isX {K : Frag} (hK : X.K = K) : CallR X (.builtin "isinstance") (fun xs H Q => ∃ a C C' dx fs b, xs = [.ref a, .ref C'] ∧ H a = some (.ins C dx fs) ∧ C8.InsC K C ∧ PySem.W.kitOne K (.ref C) (.ref C') = some b ∧ Q (.bl b) H) := by
  subst hK
  intro pins s σ H xs us Q I r h
  obtain ⟨a, C, C', dx, fs, b, rfl, ha, c, me, q⟩ := h
  exact call_isCC c me pins s σ H _ us Q I r ⟨a, dx, fs, rfl, ha, q⟩
end
/-- the text's own __eq__, as the top has left it -/
def RawE (K : Frag) (qi : Str) (st : Stmt) (C : Addr) : Prop := ∃ f fd, Fun K "__eq__" qi st f fd ∧ findIn K (.ref C) "__eq__" = some (some (.ref f)) ∧ isFn K (.ref f) = true ∧
  findIn K (.ref C) "__ne__" = some (some (.builtin "object.__ne__")) ∧ subIn K (.ref C) (.type "object") = some true
theorem rawE_mk {K : Frag} {qi : Str} {st : Stmt} {C f : Addr} {od an : Option Addr} {sl : Array (Option Value)} {oc kV dc pm cd ct : Value}
    (i : findIn K (.ref C) "__eq__" = some (some (.ref f))) (n : isFn K (.ref f) = true)
    (l : K.lookup f = some ⟨oc, od, .func (PySem.W.fnOf "__eq__" qi (defArgs st) (defBody st) (defScope st) .none kV dc pm an cd ct), sl⟩) (c : PySem.W.codeIn K cd qi = true) (k : PySem.W.keepIn K (.ref f) = true)
    (e : findIn K (.ref C) "__ne__" = some (some (.builtin "object.__ne__"))) (b : subIn K (.ref C) (.type "object") = some true) : RawE K qi st C := ⟨f, _, fun_mk l c k, i, n, e, b⟩
theorem RawE.ok {P : Program} {w : World} {K : Frag} {mg : Str → Option Value} {base : Heap} {k : Nat} {C : Addr} {qi : Str} {st : Stmt} {N : List Str} {sp : Sp} (R : RawE K qi st C) (S : FnScope N ["self", "other"] (defScope st))
    (bind : ∀ (kV doc pm : Value) (an : Option Addr) (cdv ct : Value) (us : List Value), us.length = 2 → bindArgs (PySem.W.fnOf "__eq__" qi (defArgs st) (defBody st) (defScope st) .none kV doc pm an cdv ct) ⟨us, []⟩ = pure ((["self", "other"] : List Str).zip us))
    (len : ∀ vs H Q E, sp vs H Q E → vs.length = 2)
    (hbody : ∀ (f : Addr) (cdv : Value) (A : Around) (outer : List Env) (s : Shared) (H : Hp) (vs : List V) (Q : VK) (E : XK), Room k (A.deeper (envOfC qi (defScope st) s.heap.objs.size f cdv)) → sp vs H Q E →
      ∃ t, PSs (cxOf CX0 P w K mg base N qi (defScope st) f cdv A outer s H E).nox (defBody st) t ∧ t { nx := fun _ H' => Q .non H', rt := Q } (start N vs) H) : EqOf P w K mg base (k + 1) C sp := by
  obtain ⟨f, fd, F, i, n, e, b⟩ := R
  exact ⟨f, fd, F.ok S len (hbody f), i, n, F.binds bind, e, b⟩
end MyO

/-! == and != by an own __eq__ with a thing of any type; the class below asked first. -/
namespace MyO
open PySem PySem.Spec PyProof.Rows L2 MyB
open PySem.W (Frag InstAt findIn isFn Looks looks_findIn looks_subIn notFirst ifBound_K subIn)
/-- things whose type is looked up: ints, texts, tuples, instances -/
inductive TyS (K : Frag) (H : Hp) : V → Value → Prop where
  | int (i : Int) : TyS K H (.int i) (.type "int")
  | str (x : Str) : TyS K H (.str x) (.type "str")
  | tup {a : Addr} {xs : List V} (e : H a = some (.tup xs)) : TyS K H (.ref a) (.type "tuple")
  | ins {a C dx : Addr} {fs : List (Str × V)} (e : H a = some (.ins C dx fs)) (c : C8.InsC K C) : TyS K H (.ref a) (.ref C)
theorem TyS.ty {K : Frag} {H : Hp} {y : V} {t : Value} (h : TyS K H y t) : TyOf K H y t := by
  cases h with
  | int i => exact .int i
  | str x => exact .str x
  | tup e => exact .tup e
  | ins e c => exact .ins e c.cl c.ha c.hn c.htk c.hm
section
variable {X : Cx} {pins : List (Addr × Obj)} {σ : L2.St} {H : Hp} {s : Shared}
theorem looks_ty {y : V} {u t : Value} (I : Inv X pins σ H s) (ry : RelV y u) (h : TyS X.K H y t) : Looks (model X.prog X.w) s.heap (typeOf u) t := by
  cases h with
  | int i =>
    obtain ⟨tk, e⟩ := (show ∃ t, u = Value.int i t from ry)
    cases e
    exact Looks.of_pure rfl
  | str x =>
    obtain ⟨tk, e⟩ := (show ∃ t, u = Value.str x t from ry)
    cases e
    exact Looks.of_pure rfl
  | @tup a xs e =>
    cases (show u = Value.ref a from ry)
    obtain ⟨_, _, _, o, h1, h2, _⟩ := (show ObjOk X.prog X.w H s.heap a (.tup xs) from I.hok a _ e)
    exact fun A Q E s k q => wpAny_typeOf_ref (k _ _ h1) (by rw [h2]; exact q)
  | @ins a C dx fs e c =>
    cases (show u = Value.ref a from ry)
    obtain ⟨mA, J, _⟩ := ins_get I.hok e
    obtain ⟨od, J, _⟩ := J.look
    exact J.type
end
section
variable {prog : Program} {w : World} {A : Around} {E : Value → Shared → Prop} {s : Shared} {K : Frag} {x y C C' L f : Addr} {h₀ : Heap} {m : Str → Option Value} {ox oy : Obj} {od oe : Option Obj}
/-- x == y, y of a class below x's: y's __eq__ is asked first -/
theorem cmp_refl {Q : Value → Shared → Prop} (hu : A.units < cLine) (FF : Fr h₀ L s.heap m) (X₀ : K.In h₀) (I : InstAt s.heap x ox C od) (J : InstAt s.heap y oy C' oe) (hne : C' ≠ C) (hsub : subIn K (.ref C') (.ref C) = some true)
    (hs : findIn K (.ref C') "__eq__" = some (some (.ref f))) (hf : isFn K (.ref f) = true)
    (h : wpAny (model prog w) A (call (.ref f) [.ref y, .ref x]) (fun v s' => ∃ r, v = .bool r ∧ Q (.bool r) s') E s) : wpAny (model prog w) A (richCompare .Eq (.ref x) (.ref y)) Q E s := by
  have X := X₀.keeps FF.keep
  have one : wpAny (model prog w) A (tryCompare (.ref y) (cmpInfo .Eq).2.2 (.ref x)) (fun r s' => ∃ v, r = some v ∧ Q v s') E s := by
    unfold tryCompare
    refine wpAny_bind (ifBound_K X J hs hf (wpAny_mono h (fun v s' hv => ?_) fun _ _ e => e))
    obtain ⟨r, rfl, hq⟩ := hv
    exact wpAny_pure ⟨_, rfl, hq⟩
  unfold richCompare
  simp only [oneThing_ref]
  refine wpAny_holding (wpAny_bind (wpAny_cRoomFor hu ?_))
  refine wpAny_bind (I.type.here (wpAny_bind (J.type.here ?_)))
  split
  · refine wpAny_bind ((looks_subIn X hsub).here ?_)
    simp only [if_true]
    refine wpAny_bind (wpAny_mono one (fun r s' z => ?_) fun _ _ e => e)
    obtain ⟨v, rfl, hq⟩ := z
    exact wpAny_bind (wpAny_rule (wpAny_pure hq))
  · rename_i q
    exact absurd (by simpa using q) (fun z : C = C' => hne z.symm)
end
/-- x == y or x != y, y of any type that TyS tells: the own __eq__ says r -/
def rOwnG (K : Frag) (C : Addr) (sp : Sp) (g : Bool → Bool) : R2 := fun x y H Q => ∃ a dx fs t, x = .ref a ∧ H a = some (.ins C dx fs) ∧ TyS K H y t ∧ notFirst K C t = true ∧
  sp [.ref a, y] H (fun v H' => ∃ r, v = .bl r ∧ Q (.bl (g r)) H') E0
/-- x == y, y of the class C' below x's -/
def rOwnR (K : Frag) (C' : Addr) (sp : Sp) : R2 := fun x y H Q => ∃ a dx fs b C dy gs, x = .ref a ∧ y = .ref b ∧ H a = some (.ins C dx fs) ∧ H b = some (.ins C' dy gs) ∧ C' ≠ C ∧ subIn K (.ref C') (.ref C) = some true ∧
  sp [.ref b, .ref a] H (fun v H' => ∃ r, v = .bl r ∧ Q (.bl r) H') E0
section
variable {X : Cx} {k : Nat} {C f : Addr} {fd : FuncData} {sp : Sp}
theorem call_ownV {A : Around} {pins : List (Addr × Obj)} {σ : L2.St} {H : Hp} {s : Shared} {a : Addr} {y : V} {u : Value} {Q : VK} (F : FnOk X.prog X.w X.K X.mg X.base CX0 k f fd ["self", "other"] sp) (hb : Binds X.K fd ["self", "other"] []) (hr : Room k A) (hfr : A.frames = X.A.frames) (I : Inv X pins σ H s)
    (ry : RelV y u) (hsp : sp [.ref a, y] H Q E0) : wpAny (model X.prog X.w) A (call (.ref f) [.ref a, u]) (fun v s' => ∃ z H', Inv X pins σ H' s' ∧ RelV z v ∧ Q z H') X.xe s := by
  have e0 : Env0 X.prog X.w X.K X.mg X.base A X.stack s H := by
    have e := I.env0
    exact ⟨by rw [hfr]; exact e.frames, e.mod, e.bs, e.bsz, e.funs, e.frf, e.hok, e.bare⟩
  have hl := F.len _ _ _ _ hsp
  have r2 : Vals [V.ref a, y] [Value.ref a, u] := .cons rfl (.cons ry .nil)
  refine wpAny_call (codeAny_mono (F.run A X.stack s H ⟨[.ref a, u], []⟩ [.ref a, u] [.ref a, y] _ E0 hr e0 (by
    have := hb s [.ref a, u] I.kIn (by simpa using hl)
    simpa using this) r2 hsp) fun r s' hq => ?_)
  cases r with
  | error e => exact pass0 pins σ H s e s' I hq
  | ok fl =>
    cases fl with
    | ret w =>
      obtain ⟨z, H', I', rz, q⟩ := I.after hq
      exact ⟨z, H', I', rz, q⟩
    | next => exact False.elim hq
    | brk => exact False.elim hq
    | cont => exact False.elim hq
theorem op_eqG2 {K : Frag} (hK : X.K = K) (D : EqOf X.prog X.w X.K X.mg X.base k C sp) (hr : Room k X.A) : OpR X (compareOp .Eq) (rOwnG K C sp id) := by
  subst hK
  intro pins s σ H x y v u Q I rx ry h
  obtain ⟨f, fd, F, hs, hf, hb, hne, hsub⟩ := D
  obtain ⟨a, dx, fs, t, rfl, ha, ty, hn, q⟩ := h
  cases (show v = Value.ref a from rx)
  obtain ⟨mA, J, _⟩ := ins_get I.hok ha
  obtain ⟨od, J, _⟩ := J.look
  obtain ⟨m, hF⟩ := I.fr
  show wpAny (model X.prog X.w) X.A (richCompare .Eq (.ref a) u) (EP X pins σ Q) X.xe s
  refine PySem.W.cmp_K (op := .Eq) (tb := t) hr.units0 hF I.ok.mod.kin J (looks_ty I ry ty) hn hs hf ?_
  refine wpAny_mono (call_ownV F hb hr rfl I ry q) (fun w' s' z => ?_) fun _ _ x => x
  obtain ⟨z, H', I', rz, r, rfl, q⟩ := z
  cases rz
  exact ⟨.bl r, H', I', rfl, q⟩
theorem op_neG2 {K : Frag} (hK : X.K = K) (D : EqOf X.prog X.w X.K X.mg X.base k C sp) (hr : Room (k + 1) X.A) : OpR X (compareOp .NotEq) (rOwnG K C sp not) := by
  subst hK
  intro pins s σ H x y v u Q I rx ry h
  obtain ⟨f, fd, F, hs, hf, hb, hne, hsub⟩ := D
  obtain ⟨a, dx, fs, t, rfl, ha, ty, hn, q⟩ := h
  cases (show v = Value.ref a from rx)
  obtain ⟨mA, J, _⟩ := ins_get I.hok ha
  obtain ⟨od, J, _⟩ := J.look
  obtain ⟨m, hF⟩ := I.fr
  show wpAny (model X.prog X.w) X.A (richCompare .NotEq (.ref a) u) (EP X pins σ Q) X.xe s
  refine cmp_ne (tb := t) (by have := hr.units; omega) hF I.ok.mod.kin J (looks_ty I ry ty) hn hne hsub hs hf ?_
  refine wpAny_mono (call_ownV F hb hr.in1 rfl I ry q) (fun w' s' z => ?_) fun _ _ x => x
  obtain ⟨z, H', I', rz, r, rfl, q⟩ := z
  cases rz
  exact ⟨r, rfl, .bl (!r), H', I', rfl, q⟩
theorem op_eqR {K : Frag} (hK : X.K = K) (D : EqOf X.prog X.w X.K X.mg X.base k C sp) (hr : Room k X.A) : OpR X (compareOp .Eq) (rOwnR K C sp) := by
  subst hK
  intro pins s σ H x y v u Q I rx ry h
  obtain ⟨f, fd, F, hs, hf, hb, hne, hsub⟩ := D
  obtain ⟨a, dx, fs, b, C0, dy, gs, rfl, rfl, ha, hb', hnC, hsC, q⟩ := h
  cases (show v = Value.ref a from rx)
  cases (show u = Value.ref b from ry)
  obtain ⟨mA, J, _⟩ := ins_get I.hok ha
  obtain ⟨mB, J', _⟩ := ins_get I.hok hb'
  obtain ⟨od, J, _⟩ := J.look
  obtain ⟨od', J', _⟩ := J'.look
  obtain ⟨m, hF⟩ := I.fr
  show wpAny (model X.prog X.w) X.A (richCompare .Eq (.ref a) (.ref b)) (EP X pins σ Q) X.xe s
  refine cmp_refl hr.units0 hF I.ok.mod.kin J J' hnC hsC hs hf ?_
  refine wpAny_mono (call_ownV F hb hr rfl I (show RelV (V.ref a) (Value.ref a) from rfl) q) (fun w' s' z => ?_) fun _ _ x => x
  obtain ⟨z, H', I', rz, r, rfl, q⟩ := z
  cases rz
  exact ⟨r, rfl, .bl r, H', I', rfl, q⟩
/-- isinstance(x, C') of anything whose type is told -/
theorem call_isV {K : Frag} (hK : X.K = K) : CallR X (.builtin "isinstance") (fun xs H Q => ∃ x C' t b, xs = [x, .ref C'] ∧ TyOf K H x t ∧ PySem.W.kitOne K t (.ref C') = some b ∧ Q (.bl b) H) := by
  subst hK
  intro pins s σ H xs us Q I r h
  obtain ⟨x, C', t, b, rfl, ty, me, q⟩ := h
  obtain ⟨u, w', rfl, ru, rw'⟩ := vals2 r
  cases rw'
  exact isinst_ok I ru ty me fun tk => ⟨.bl b, H, I.tok _, rfl, q⟩
end
end MyO

/-! {k: v for ..} whose keys are tuples (or ints, texts): the new dict filled by DPut. -/
namespace MyC
open PySem PySem.Spec PyProof.Rows L2 MyB
theorem set_put {X : Cx} {pins : List (Addr × Obj)} {σ : L2.St} {H H' : Hp} {s : Shared} {E : Value → Shared → Prop} {D : Addr} {y v : V} {u r : Value} {Q : Unit → Shared → Prop} (hu : X.A.units + 1 < cLine) (I : Inv X pins σ H s) (g : DPut H D y v H')
    (ry : RelV y u) (rv : RelV v r) (h : ∀ s', Inv X pins σ H' s' → Q () s') : wpAny (model X.prog X.w) X.A (dictSet D u r) Q E s := by
  rcases g with ⟨kvs, k, e, rfl, l, rfl⟩ | ⟨kvs, k, b, e, rfl, eb, l, rfl⟩
  · exact d_dictSet I e l ry rv h
  · cases (show u = Value.ref b from ry)
    obtain ⟨z, hd, xs, rel, dd⟩ := dt_of I.hok e
    have room : (tupleKind (mixKind X.prog X.w)).room X.A := show X.A.units < cLine by omega
    have hz : xs.length ≤ sizeLine := by rw [← Paired.length rel]; exact z
    have hl : (putK kvs k v).length ≤ sizeLine := by have := length_putK kvs k v; omega
    refine wpAny_dictSet_heap (hsz := hz) room (key_of I.hok eb) dd fun h' new sb => h _ ?_
    obtain ⟨q, es, ep, hq, h2, h3, h4, _, h5⟩ := new
    refine d_write I (by rw [e]; exact True.intro) sb ⟨q, hq⟩ ⟨hl, hd, _, (rel.put k eb rv).keeps fun c ys ec => ?_, q, es, ep, hq, h2, h3, h4, h5⟩
    rw [upd_ne (ne_of ec e (fun z => nomatch z))]
    exact ec
section
variable {X : Cx}
/-- the reading of such a comprehension -/
def tDcT (wi : TI) (g : TG) (tt : TT) (tk tv : TE) (vs : List Nat) : TE := fun σ H Q => wi σ H fun J H1 => ∀ D, H1 D = none → ∃ W : Nat → Nat → Hp → Prop, (∃ m, W 0 m (upd H1 D (.dT []))) ∧ ∀ i m H, W i m H →
  (J.stop i H ∧ Q (.ref D) H) ∨ (J.go i H ∧ ∃ Nx : Hp → Prop, (∀ H', Nx H' → ∃ m', m' < m ∧ W (i + 1) m' H') ∧ ∀ x H', J.yld i H x H' → g x (wipe σ vs) H' fun σ2 H2 => wipe σ2 vs = wipe σ vs ∧ tt σ2 H2 fun b H3 =>
    if b = true then tk σ2 H3 fun y H4 => tv σ2 H4 fun z H5 => ∃ H6, DPut H5 D y z H6 ∧ Nx H6 else Nx H3)
variable {kx vx tg iter : Expr} {ifs : List Expr} {scope : Scope} {own : List (Str × Nat)} {pos : Pos} {wi : TI} {g : TG} {tt : TT} {tk tv : TE}
theorem pe_dcT (hu : X.A.units + 1 < cLine) (hc : X.calm = true) (hN : X.N.Nodup) (hi : PI X tg iter wi) (ok : BlkOk X.N X.env.scope scope own)
    (hg : ∀ (s : Shared) (H : Hp) (C : Addr) (cl : List (Str × Addr)) (fp : List Addr), PG (X.blk s H scope (compEnvC scope cl C X.env) fp) tg g) (ht : ∀ (s : Shared) (H : Hp) (C : Addr) (cl : List (Str × Addr)) (fp : List Addr), PTs (X.blk s H scope (compEnvC scope cl C X.env) fp) ifs tt)
    (hk : ∀ (s : Shared) (H : Hp) (C : Addr) (cl : List (Str × Addr)) (fp : List Addr), PE (X.blk s H scope (compEnvC scope cl C X.env) fp) kx tk)
    (he : ∀ (s : Shared) (H : Hp) (C : Addr) (cl : List (Str × Addr)) (fp : List Addr), PE (X.blk s H scope (compEnvC scope cl C X.env) fp) vx tv) (hs : ∀ x, foldedSetIterable iter X.env x = pure x := by intro _; rfl) :
    PE X (.DictComp kx vx [⟨tg, iter, ifs, 0⟩] scope pos) (tDcT wi g tt tk tv (own.map (·.2))) := by
  refine ⟨fun pins s σ H Q I h => ?_⟩
  rw [arm_eval_DictComp]
  have closed : ∀ y ∈ scope.names, y.2 = .free → ∃ c, X.env.cells.lookup y.1 = some c := fun y hy e => (ok.free y hy e).elim (fun k => I.ok.has _ (.inl k)) fun k => I.ok.has _ (.inr k)
  refine wpAny_comprehension_free rfl hs (closure_ok closed) ok.kind (fun y hy e => by rw [ok.uniq y hy, e]) (thn (hi.run pins s σ H _ I h) fun _ _ hx => thn hx fun itv sA hA => ?_)
  obtain ⟨it, fp, tn, J, HA, rfl, IA, T, stA, fpA, q⟩ := hA
  refine wpAny_newObj_type (newEnv_comp ?_)
  -- the new dict stands at the heap's end
  obtain ⟨D, hD⟩ : ∃ D, sA.heap.objs.size = D := ⟨_, rfl⟩
  rw [hD]
  have fresh : HA D = none := IA.hok.fresh (Nat.le_of_eq hD)
  obtain ⟨W, ⟨m0, w0⟩, turn⟩ := q D fresh
  obtain ⟨sB, eB⟩ : ∃ sB : Shared, ({ sA with heap := sA.heap.push { cls := .type "dict", data := .dict #[] } } : Shared) = sB := ⟨_, rfl⟩
  have hB : sB.heap = sA.heap.push { cls := .type "dict", data := .dict #[] } := by rw [← eB]
  have IB : Inv X pins σ (upd HA D (.dT [])) sB := by
    subst eB
    refine IA.laid (t' := sA.toks) (fun b o e => Heap.get?_push_of_some _ e) (Nat.le_of_eq hD) ?_
    subst hD
    exact dt_empty sA.heap IA.big
  have fpB : ∀ b ∈ fp, FpOk X pins (upd HA D (.dT [])) b ∧ b < sB.heap.objs.size := fun b hb => by
    obtain ⟨o, e, _⟩ := T.obj _ _ stA b hb
    have lt := Heap.lt_size e
    refine ⟨⟨?_, (fpA b hb).2⟩, ?_⟩
    · rw [upd_ne (by rw [← hD]; exact Nat.ne_of_lt lt)]
      exact (fpA b hb).1
    · rw [hB, Heap.size_push]
      exact Nat.lt_succ_of_lt lt
  have stB : tn 0 sB.heap := T.keep _ _ _ stA fun b _ o e => by rw [hB]; exact Heap.get?_push_of_some _ e
  have start := block_start IB ok hN fpB
  have pG := hg sB (upd HA D (.dT [])) sB.heap.objs.size (cellsFrom (sB.heap.objs.size + 1) scope.names (cloFrom X.env.cells scope.names [])) fp
  have pT := ht sB (upd HA D (.dT [])) sB.heap.objs.size (cellsFrom (sB.heap.objs.size + 1) scope.names (cloFrom X.env.cells scope.names [])) fp
  have pK := hk sB (upd HA D (.dT [])) sB.heap.objs.size (cellsFrom (sB.heap.objs.size + 1) scope.names (cloFrom X.env.cells scope.names [])) fp
  have pV := he sB (upd HA D (.dT [])) sB.heap.objs.size (cellsFrom (sB.heap.objs.size + 1) scope.names (cloFrom X.env.cells scope.names [])) fp
  rw [eB]
  obtain ⟨ce, hce⟩ : ∃ ce, compEnvC scope (cellsFrom (sB.heap.objs.size + 1) scope.names (cloFrom X.env.cells scope.names [])) sB.heap.objs.size X.env = ce := ⟨_, rfl⟩
  show codeAny _ _ (.compStart (.DictComp kx vx [⟨tg, iter, ifs, 0⟩] scope pos) 0 (.ref it) (.ref D) (compEnvC scope (cellsFrom (sB.heap.objs.size + 1) scope.names (cloFrom X.env.cells scope.names [])) sB.heap.objs.size X.env)) (compPost (model X.prog X.w) X.A X.xe none (EP X pins σ Q) (.ref D) sB.heap.objs.size) { sB with heap := pushCells (sB.heap.push { cls := .type "dict", data := .dict #[] }) scope.names }
  rw [hce] at start pG pT pK pV ⊢
  have locs : ce.locals = sB.heap.objs.size := by
    rw [← hce]
    rfl
  have none0 : ∀ b ∈ fp, (upd HA D (.dT [])) b = none := fun b hb => (fpB b hb).1.1
  obtain ⟨HB, eHB⟩ : ∃ HB, upd HA D (.dT []) = HB := ⟨_, rfl⟩
  rw [eHB] at IB start pG pT pK pV w0 none0 fpB
  obtain ⟨sC, eC⟩ : ∃ sC : Shared, ({ sB with heap := pushCells (sB.heap.push { cls := .type "dict", data := .dict #[] }) scope.names } : Shared) = sC := ⟨_, rfl⟩
  rw [eC] at start ⊢
  have stC : tn 0 sC.heap := T.keep _ _ _ stB fun b _ o e => by
    rw [← eC]
    exact pushCells_keeps _ _ _ _ (Heap.get?_push_of_some _ e)
  -- what walks the iterator in the block's context
  have held : ∀ {σ' : L2.St} {H' : Hp} {s' : Shared}, Inv (X.blk sB HB scope ce fp) [] σ' H' s' → (∀ b ∈ fp, H' b = none) → ∀ b ∈ fp, FpOk (X.blk sB HB scope ce fp) [] H' b := fun {σ' H' s'} J hn b hb =>
    ⟨hn b hb, (J.ok.exf b hb).1, J.ok.exfs b hb, .inl hb, fun x c e => (J.ok.exf b hb).2 x c e, fun p hp => absurd (show p ∈ ([] : List (Addr × Obj)) ++ [] from hp) (by simp)⟩
  refine codeAny_compStart_dict ?loop (T.self X.A 0 _ _ _ stC ?loop)
  refine compLoop_anyD (fun n s' => ∃ i H', Inv (X.blk sB HB scope ce fp) [] (wipe σ (own.map (·.2))) H' s' ∧ tn i s'.heap ∧ (∀ b ∈ fp, H' b = none) ∧ W i n H') ?_ m0 ⟨0, HB, start, stC, none0, w0⟩
  rintro n s5 ⟨i, H5, I5, st5, n5, w5⟩
  rcases turn i n H5 w5 with ⟨stop, qq⟩ | ⟨go, Nx, hNx, step⟩
  · -- the iterator is through
    refine thnF (T.done (X.blk sB HB scope ce fp) rfl rfl rfl hc i [] s5 _ H5 (fun _ _ => False) I5 (held I5 n5) st5 stop) fun r s6 z => ?_
    obtain ⟨rfl, I6⟩ := z
    have I7 : Inv X pins σ H5 s6 := IB.call' (ch := fp) I6.os I6.base I6.hok I6.bare fun b hb => ⟨(fpB b hb).1.2.2.2.1, (fpB b hb).1.2.1, (fpB b hb).1.2.2.2.2.1, (fpB b hb).1.2.2.2.2.2⟩
    have free : H5 sB.heap.objs.size = none := by
      have z : H5 ce.locals = none := I6.free
      rwa [locs] at z
    obtain ⟨m, hn, _⟩ := I6.loc
    have hn : s6.heap.Ns ce.locals m := hn
    rw [locs] at hn
    obtain ⟨f0, f1, f2, f3, f4, f5⟩ := IB.fpOk (Nat.le_refl _) free
    exact ⟨m, hn, fun h2 sb => ⟨.ref D, H5, I7.turned (t' := s6.toks) (fun b o hb e => (sb.2 b hb).trans e) f0 f1 f3 f4 f5, rfl, qq⟩⟩
  · -- one more item
    refine thnF (T.item (X.blk sB HB scope ce fp) rfl rfl rfl hc i [] s5 _ H5 (fun _ _ => False) I5 (held I5 n5) st5 go) fun r s6 z => ?_
    obtain ⟨u, rfl, z⟩ := z
    refine thnF z fun _ s7 z7 => ?_
    obtain ⟨x, H7, I7, r7, y7, st7, n7⟩ := z7
    refine thnF (pG.run _ s7 _ H7 x u _ (I7.pinned (held I7 n7) (T.obj _ _ st7)) r7 (step x H7 y7)) fun _ s8 z8 => ?_
    obtain ⟨σ8, H8, I8, w8, q8⟩ := z8
    have close : ∀ {s' : Shared} {H' : Hp}, Inv (X.blk sB HB scope ce fp) ([] ++ pinsAt fp s7.heap) σ8 H' s' → Nx H' → ∃ m, m < n ∧ ∃ i H', Inv (X.blk sB HB scope ce fp) [] (wipe σ (own.map (·.2))) H' s' ∧ tn i s'.heap ∧ (∀ b ∈ fp, H' b = none) ∧ W i m H' := fun {s' H'} J nx => by
      obtain ⟨m', lt, w'⟩ := hNx H' nx
      have pinned : ∀ b ∈ fp, ∀ o, s7.heap.get? b = some o → s'.heap.get? b = some o ∧ H' b = none := fun b hb o e =>
        have z := J.pin (b, o) (List.mem_append_right _ (List.mem_append_right _ (mem_pinsAt hb e)))
        ⟨z.1, z.2.1⟩
      refine ⟨m', lt, i + 1, H', (J.unpinned (pins := [])).weak (by rw [← w8, wipe_length]) (fun j v e => (wipe_some (w8 ▸ e)).1), T.keep _ _ _ st7 fun b hb o e => (pinned b hb o e).1, fun b hb => ?_, w'⟩
      obtain ⟨o, e, _⟩ := T.obj _ _ st7 b hb
      exact (pinned b hb o e).2
    refine thnF (pT.run _ s8 σ8 H8 _ I8 q8) fun b s9 z9 => ?_
    obtain ⟨H9, I9, q9⟩ := z9
    cases b with
    | false => exact close I9 (by simpa using q9)
    | true =>
      simp only [if_true] at q9 ⊢
      refine thnF (pK.run _ s9 σ8 H9 _ I9 q9) fun kv s10 z10 => ?_
      obtain ⟨yk, H10, I10, r10, q10⟩ := z10
      refine thnF (pV.run _ s10 σ8 H10 _ I10 q10) fun vv s11 z11 => ?_
      obtain ⟨yv, H11, I11, r11, H12, put, nx⟩ := z11
      exact set_put (X := X.blk sB HB scope ce fp) hu I11 put r10 r11 fun s12 I12 => close I12 nx
end
end MyC

/-! dicts of pairs of floors: pairs that are apart; a dict comprehension over a tuple. -/
namespace MyD
open PySem PySem.Spec PyProof.Rows L2 MyB
theorem hasG_no {L : List Grp} {s w : Int} (h : ∀ x ∈ L, pr x ≠ (s, w)) : hasG L s w = false := by
  unfold hasG
  rw [List.any_eq_false]
  intro x hx
  have := h x hx
  simp only [decide_eq_true_eq]
  exact fun z => this (Prod.ext z.1 z.2)
theorem putG_no {L : List Grp} {s w m : Int} (h : ∀ x ∈ L, pr x ≠ (s, w)) : putG L s w m = L ++ [(s, w, m)] := by
  unfold putG
  rw [hasG_no h, if_neg (by decide)]
theorem valV_no {L : List Grp} {s w : Int} (h : ∀ x ∈ L, pr x ≠ (s, w)) : valV (L.map enc) [.inl s, .inl w] = none := by
  have e := valV_any (κ := List Key) [Sum.inl s, Sum.inl w] (L.map enc)
  rw [any_enc, hasG_no h] at e
  cases c : valV (L.map enc) [.inl s, .inl w] with
  | none => rfl
  | some v =>
    rw [c] at e
    cases e
theorem apart {M : List Grp} (nd : (M.map pr).Nodup) {i : Nat} {x : Grp} (h : M[i]? = some x) : ∀ y ∈ M.take i, pr y ≠ pr x := by
  intro y hy e
  obtain ⟨j, hj⟩ := List.getElem?_of_mem hy
  have hji : j < i := by
    have := (List.getElem?_eq_some_iff.mp hj).1
    rw [List.length_take] at this
    omega
  rw [List.getElem?_take, if_pos hji] at hj
  have e1 : (M.map pr)[j]? = some (pr y) := by rw [List.getElem?_map, hj]; rfl
  have e2 : (M.map pr)[i]? = some (pr x) := by rw [List.getElem?_map, h]; rfl
  rw [e] at e1
  exact List.pairwise_iff_getElem.mp nd j i (List.getElem?_eq_some_iff.mp e1).1 (List.getElem?_eq_some_iff.mp e2).1 hji ((List.getElem?_eq_some_iff.mp e1).2.trans (List.getElem?_eq_some_iff.mp e2).2.symm)
/-- the number under a pair, 0 where there is none -/
def getG (L : List Grp) (s w : Int) : Int := ((L.find? fun x => decide (x.1 = s ∧ x.2.1 = w)).map fun x => x.2.2).getD 0
theorem valV_find (s w : Int) : ∀ L : List Grp, valV (L.map enc) [.inl s, .inl w] = (L.find? fun x => decide (x.1 = s ∧ x.2.1 = w)).map fun x => V.int x.2.2
  | [] => rfl
  | x :: L => by
    rw [List.map_cons, List.find?_cons]
    by_cases c : x.1 = s ∧ x.2.1 = w
    · rw [valV_pos (enc_key.mpr c), decide_eq_true c]
      rfl
    · rw [valV_neg (fun z => c (enc_key.mp z)), decide_eq_false c, valV_find s w L]
theorem valV_has {L : List Grp} {s w : Int} (h : hasG L s w = true) : valV (L.map enc) [.inl s, .inl w] = some (.int (getG L s w)) := by
  rw [valV_find]
  unfold hasG at h
  unfold getG
  cases c : L.find? fun x => decide (x.1 = s ∧ x.2.1 = w) with
  | none =>
    rw [List.find?_eq_none] at c
    obtain ⟨x, hx, e⟩ := List.any_eq_true.mp h
    exact absurd e (c x hx)
  | some x => rfl
theorem valV_or (L : List Grp) (s w : Int) : (valV (L.map enc) [.inl s, .inl w]).getD (.int 0) = .int (getG L s w) := by
  rw [valV_find]
  unfold getG
  cases L.find? fun x => decide (x.1 = s ∧ x.2.1 = w) <;> rfl
theorem hasG_put {L : List Grp} {s w m a b : Int} (h : hasG L a b = true) : hasG (putG L s w m) a b = true := by
  unfold hasG at h ⊢
  obtain ⟨x, hx, e⟩ := List.any_eq_true.mp h
  have e : x.1 = a ∧ x.2.1 = b := by simpa using e
  refine List.any_eq_true.mpr ?_
  unfold putG
  split
  · by_cases c : x.1 = s ∧ x.2.1 = w
    · exact ⟨(x.1, x.2.1, m), List.mem_map.mpr ⟨x, hx, if_pos c⟩, by simpa using e⟩
    · exact ⟨x, List.mem_map.mpr ⟨x, hx, if_neg c⟩, by simpa using e⟩
  · exact ⟨x, List.mem_append_left _ hx, by simpa using e⟩
/-- one pair of a move: want, many go from floor a to floor b -/
def mvG (L : List Grp) (a b : Int) (x : Int × Int) : List Grp := putG (putG L a x.1 (getG L a x.1 - x.2)) b x.1 (getG (putG L a x.1 (getG L a x.1 - x.2)) b x.1 + x.2)
def mvAll (L : List Grp) (a b : Int) (A : List (Int × Int)) : List Grp := A.foldl (fun L x => mvG L a b x) L
theorem mvAll_snoc {L : List Grp} {a b : Int} {A : List (Int × Int)} {x : Int × Int} : mvAll L a b (A ++ [x]) = mvG (mvAll L a b A) a b x := by
  unfold mvAll
  rw [List.foldl_append]
  rfl
theorem mvAll_has {L : List Grp} {a b s w : Int} : ∀ {A : List (Int × Int)}, hasG L s w = true → hasG (mvAll L a b A) s w = true := by
  intro A
  induction A generalizing L with
  | nil => exact fun h => h
  | cons x A ih => exact fun h => ih (L := mvG L a b x) (hasG_put (hasG_put h))
theorem mvAll_len {L : List Grp} {a b : Int} : ∀ {A : List (Int × Int)}, (mvAll L a b A).length ≤ L.length + 2 * A.length := by
  intro A
  induction A generalizing L with
  | nil => exact Nat.le_refl _
  | cons x A ih =>
    have h := ih (L := mvG L a b x)
    have h1 := putG_len L a x.1 (getG L a x.1 - x.2)
    have h2 := putG_len (putG L a x.1 (getG L a x.1 - x.2)) b x.1 (getG (putG L a x.1 (getG L a x.1 - x.2)) b x.1 + x.2)
    have h3 : (mvG L a b x).length ≤ L.length + 2 := Nat.le_trans h2 (by omega)
    show (mvAll (mvG L a b x) a b A).length ≤ _
    rw [List.length_cons]
    omega
theorem mvAll_nodup {L : List Grp} {a b : Int} : ∀ {A : List (Int × Int)}, (L.map pr).Nodup → ((mvAll L a b A).map pr).Nodup := by
  intro A
  induction A generalizing L with
  | nil => exact fun h => h
  | cons x A ih => exact fun h => ih (L := mvG L a b x) (putG_nodup (putG_nodup h))
/-- a dict comprehension with tuple keys over a tuple that stays -/
theorem dcT_tup {K : PySem.W.Frag} {a : Addr} {xs : List V} {g : TG} {tt : TT} {tk tv : TE} {vs : List Nat} {σ : L2.St} {H1 : Hp} {D : Addr} {Qd : Hp → Prop} (Pv : Nat → Hp → Prop) (h0 : Pv 0 (upd H1 D (.dT []))) (hl : ∀ i H, i ≤ xs.length → Pv i H → SqT K H a xs)
    (hs : ∀ i x H, xs[i]? = some x → Pv i H → g x (wipe σ vs) H fun σ2 H2 => wipe σ2 vs = wipe σ vs ∧ tt σ2 H2 fun b H3 =>
      if b = true then tk σ2 H3 fun y H4 => tv σ2 H4 fun z H5 => ∃ H6, DPut H5 D y z H6 ∧ Pv (i + 1) H6 else Pv (i + 1) H3) (hd : ∀ H, Pv xs.length H → Qd H) :
    ∃ W : Nat → Nat → Hp → Prop, (∃ m, W 0 m (upd H1 D (.dT []))) ∧ ∀ i m H, W i m H →
      ((Itt K a).stop i H ∧ Qd H) ∨ ((Itt K a).go i H ∧ ∃ Nx : Hp → Prop, (∀ H', Nx H' → ∃ m', m' < m ∧ W (i + 1) m' H') ∧ ∀ x H', (Itt K a).yld i H x H' → g x (wipe σ vs) H' fun σ2 H2 => wipe σ2 vs = wipe σ vs ∧ tt σ2 H2 fun b H3 =>
        if b = true then tk σ2 H3 fun y H4 => tv σ2 H4 fun z H5 => ∃ H6, DPut H5 D y z H6 ∧ Nx H6 else Nx H3) := by
  refine ⟨fun i m H => m = xs.length - i ∧ i ≤ xs.length ∧ Pv i H, ⟨_, rfl, Nat.zero_le _, h0⟩, ?_⟩
  rintro i m H ⟨rfl, hi, p⟩
  have q := hl i H hi p
  rcases Nat.lt_or_ge i xs.length with lt | ge
  · refine .inr ⟨⟨xs, xs[i], q, by simp [lt]⟩, Pv (i + 1), fun H' p' => ⟨xs.length - (i + 1), by omega, rfl, lt, p'⟩, fun x H' y => ?_⟩
    obtain ⟨rfl, y⟩ := y
    exact hs i x _ (y xs q) p
  · obtain rfl : i = xs.length := by omega
    exact .inl ⟨⟨xs, q, Nat.le_refl _⟩, hd H p⟩
end MyD

/-! dict(xs) of a list of pairs ((a, b), n), no (a, b) twice. -/
namespace MyC
open PySem PySem.Spec PyProof.Rows L2 MyB MyD
abbrev Ent := List Key × Addr × Value
theorem entries_of {X : Cx} {pins : List (Addr × Obj)} {σ : L2.St} {H : Hp} {s : Shared} (I : Inv X pins σ H s) {ts : List Addr} {L : List Grp} (h : Paired (fun t (x : Grp) => ∃ q, H t = some (.tup [.ref q, .int x.2.2]) ∧ H q = some (.tup [.int x.1, .int x.2.1])) ts L) :
    ∃ ps : List Ent, KT H (L.map enc) ps ∧ ps.length = ts.length ∧ ∀ (j : Nat) (p : Ent), ps[j]? = some p → ∃ t, ts[j]? = some t ∧ IsTup s.heap t #[.ref p.2.1, p.2.2] := by
  induction h with
  | nil => exact ⟨[], .nil, rfl, fun j p e => by simp at e⟩
  | @cons t x ts L r rest ih =>
    obtain ⟨ps, kt, hl, hp⟩ := ih
    obtain ⟨q, h1, h2⟩ := r
    obtain ⟨its, rv, ht, _⟩ := I.tuple (sqT h1)
    obtain ⟨u, y, ei, ru, ry⟩ := vals2 rv
    subst ei
    cases (show u = Value.ref q from ru)
    refine ⟨([.inl x.1, .inl x.2.1], q, y) :: ps, .cons ⟨rfl, h2, ry⟩ kt, by rw [List.length_cons, List.length_cons, hl], fun j p e => ?_⟩
    cases j with
    | zero =>
      have e' := Option.some.inj (show some (([.inl x.1, .inl x.2.1], q, y) : Ent) = some p from e)
      subst e'
      exact ⟨t, rfl, ht⟩
    | succ j =>
      obtain ⟨t', e1, e2⟩ := hp j p (by simpa using e)
      exact ⟨t', by simpa using e1, e2⟩
theorem storedAll_nd : ∀ {ps acc : List Ent}, ((acc ++ ps).map (·.1)).Nodup → storedAllH acc ps = acc ++ ps
  | [], acc, _ => by
    rw [List.append_nil]
    rfl
  | p :: ps, acc, h => by
    have hn : atKey acc p.1 = none := by
      unfold atKey
      have : acc.find? (fun x => decide (x.1 = p.1)) = none := by
        rw [List.find?_eq_none]
        intro x hx e
        have e : x.1 = p.1 := by simpa using e
        rw [List.map_append, List.nodup_append] at h
        exact h.2.2 x.1 (List.mem_map_of_mem hx) p.1 (List.mem_map_of_mem List.mem_cons_self) e
      rw [this]
      rfl
    show storedAllH (storedH acc p.1 p.2.1 p.2.2) ps = _
    rw [storedH_new hn, storedAll_nd (by simpa using h)]
    simp
theorem kt_mem {H : Hp} {kvs : List (List Key × V)} {ps : List Ent} (h : KT H kvs ps) : ∀ p ∈ ps, H p.2.1 = some (.tup (p.1.map kV)) := by
  unfold KT at h
  induction h with
  | nil => exact fun p hp => (List.not_mem_nil hp).elim
  | cons r t ih =>
    intro p hp
    rcases List.mem_cons.mp hp with rfl | hp
    · obtain ⟨e1, e2, _⟩ := r
      rw [← e1]
      exact e2
    · exact ih p hp
theorem kt_keys {H : Hp} {kvs : List (List Key × V)} {ps : List Ent} (h : KT H kvs ps) : ps.map (·.1) = kvs.map (·.1) := by
  unfold KT at h
  induction h with
  | nil => rfl
  | cons r t ih => rw [List.map_cons, List.map_cons, ih, r.1]
theorem enc_keys_nd {L : List Grp} (h : (L.map pr).Nodup) : ((L.map enc).map (·.1)).Nodup := by
  rw [List.map_map]
  refine List.pairwise_map.mpr ((List.pairwise_map.mp h).imp fun {x y} n e => n ?_)
  have e : [Sum.inl x.1, Sum.inl x.2.1] = ([Sum.inl y.1, Sum.inl y.2.1] : List Key) := e
  simp at e
  exact Prod.ext e.1 e.2
theorem call_dictL {X : Cx} {K : PySem.W.Frag} (hK : X.K = K) (hcalm : X.calm = true) (hu : X.A.units + 2 < cLine) : CallR X (.type "dict") (fun xs H Q => ∃ (a : Addr) (ts : List Addr) (L : List Grp), xs = [.ref a] ∧ H a = some (.lst (ts.map V.ref)) ∧
    Paired (fun t (x : Grp) => ∃ q, H t = some (.tup [.ref q, .int x.2.2]) ∧ H q = some (.tup [.int x.1, .int x.2.1])) ts L ∧ (L.map pr).Nodup ∧ ∀ p, H p = none → Q (.ref p) (upd H p (.dT (L.map enc)))) := by
  subst hK
  intro pins s σ H xs us Q I r q
  obtain ⟨a, ts, L, rfl, hq, hp, nd, q⟩ := q
  obtain ⟨u, rfl, rx⟩ := vals1 r
  cases rx
  obtain ⟨its, rv, pl, hz⟩ := I.list (sqL hq)
  have ei := refs_at rv
  subst ei
  rw [List.length_map] at hz
  obtain ⟨ps, kt, hl, hps⟩ := entries_of I hp
  obtain ⟨o, n, ho, hc, hd, hdat⟩ := pl
  have size : ∀ {b : Addr} {ob : Obj}, s.heap.get? b = some ob → b ≠ s.heap.objs.size := fun e => Nat.ne_of_lt (Heap.lt_size e)
  have items : PairItems s.heap (ts.map Value.ref).toArray (fun j => ts.getD j 0) (ps.map fun p => (Value.ref p.2.1, p.2.2)) := by
    refine ⟨by simp [hl], fun j k v e => ?_⟩
    rw [List.getElem?_map] at e
    obtain ⟨p, hp, e⟩ := Option.map_eq_some_iff.mp e
    obtain ⟨t, ht, tup⟩ := hps j p hp
    injection e with e1 e2
    subst e1 e2
    have eg : ts.getD j 0 = t := by rw [List.getD_eq_getElem?_getD, ht]; rfl
    show (ts.map Value.ref).toArray[j]? = some (.ref (ts.getD j 0)) ∧ PairAt s.heap (ts.getD j 0) _ _
    rw [eg]
    exact ⟨by simp [ht], .inl tup⟩
  refine call_dict_pairsH (knd := tupleKind (mixKind X.prog X.w)) (ps := ps) (PairArg.list a (ts.map Value.ref).toArray (fun j => ts.getD j 0) (ps.map fun p => (Value.ref p.2.1, p.2.2))) (I.ok.hd hcalm) (show X.A.in1.in1.units < cLine from hu) ⟨⟨o, n, ho, hc, hd, hdat⟩, items⟩
    ⟨by simp, fun i key v e => ?_⟩ (fun h' hk x hx => ?_) (by simp [hl]; exact hz) fun h' tk hd' hk => ?_
  · have e : (ps.map fun p => (Value.ref p.2.1, p.2.2))[i]? = some (key, v) := e
    rw [List.getElem?_map] at e
    obtain ⟨p, hp, e⟩ := Option.map_eq_some_iff.mp e
    injection e with e1 e2
    subst e1 e2
    exact ⟨p.1, p.2.1, hp, rfl⟩
  · obtain ⟨ob, it, n, h1, h2, h3, h4⟩ := key_of I.hok (kt_mem kt x hx)
    exact ⟨ob, it, n, hk _ _ (size h1) (by simp) h1, h2, h3, h4⟩
  · have e : storedAllH [] ps = ps := by
      rw [storedAll_nd (by rw [List.nil_append, kt_keys kt]; exact enc_keys_nd nd), List.nil_append]
    rw [e] at hd'
    obtain ⟨ob, es, ep, g1, g2, g3, g4, _, g5⟩ := hd'
    have hm : (s.heap.objs.size == sysModules) = false := beq_eq_false_iff_ne.mpr (Nat.ne_of_gt I.big)
    have fresh := I.hok.fresh (Nat.le_refl s.heap.objs.size)
    have hlen : (L.map enc).length ≤ sizeLine := by
      have := Paired.length hp
      rw [List.length_map]
      omega
    exact ⟨.ref s.heap.objs.size, upd H s.heap.objs.size (.dT (L.map enc)), I.laid (t' := tk) (fun b ob e => hk b ob (by simp) e) (Nat.le_refl _)
      (show ObjOk X.prog X.w _ _ _ (.dT (L.map enc)) from ⟨hlen, hm, ps, kt.keeps fun c ys ec => by rw [upd_ne (ne_of_none ec fresh)]; exact ec, ob, es, ep, g1, g2, g3, g4, g5⟩), rfl, q _ fresh⟩
end MyC

namespace Law
open PySem L2
def top (i : Nat) : Stmt := PySem.Challenge.pw_willinglift_k08_whole_standings_behind_m.main.body.getD i (.Pass ⟨0, 0, 0, 0⟩)
abbrev s_BadHouse___init__ : Stmt := inClass (top 2) 0
abbrev N_BadHouse___init__ : List Str := ["self", "part"]
abbrev s_BadStanding___init__ : Stmt := inClass (top 3) 0
abbrev N_BadStanding___init__ : List Str := ["self", "part"]
abbrev s_is_integer : Stmt := top 10
abbrev N_is_integer : List Str := ["thing"]
theorem sc_is_integer : FnScope ["thing"] ["thing"] (defScope s_is_integer) := ⟨rfl, rfl, rfl, by decide +kernel, rfl, by decide +kernel, by decide +kernel⟩
abbrev s_is_within : Stmt := top 11
abbrev N_is_within : List Str := ["thing", "least", "most"]
theorem sc_is_within : FnScope ["thing", "least", "most"] ["thing", "least", "most"] (defScope s_is_within) := ⟨rfl, rfl, rfl, by decide +kernel, rfl, by decide +kernel, by decide +kernel⟩
abbrev s_House___init__ : Stmt := inClass (top 12) 0
abbrev N_House___init__ : List Str := ["self", "floors", "room"]
theorem sc_House___init__ : FnScope ["self", "floors", "room"] ["self", "floors", "room"] (defScope s_House___init__) := ⟨rfl, rfl, rfl, by decide +kernel, rfl, by decide +kernel, by decide +kernel⟩
abbrev s_House___eq__ : Stmt := inClass (top 12) 1
abbrev N_House___eq__ : List Str := ["self", "other"]
theorem sc_House___eq__ : FnScope ["self", "other"] ["self", "other"] (defScope s_House___eq__) := ⟨rfl, rfl, rfl, by decide +kernel, rfl, by decide +kernel, by decide +kernel⟩
abbrev s_is_floor : Stmt := top 13
abbrev N_is_floor : List Str := ["house", "thing"]
theorem sc_is_floor : FnScope ["house", "thing"] ["house", "thing"] (defScope s_is_floor) := ⟨rfl, rfl, rfl, by decide +kernel, rfl, by decide +kernel, by decide +kernel⟩
abbrev s_is_group : Stmt := top 14
abbrev N_is_group : List Str := ["house", "thing"]
theorem sc_is_group : FnScope ["house", "thing"] ["house", "thing"] (defScope s_is_group) := ⟨rfl, rfl, rfl, by decide +kernel, rfl, by decide +kernel, by decide +kernel⟩
abbrev s_is_groups : Stmt := top 15
abbrev N_is_groups : List Str := ["house", "thing", "group", "one", "other"]
theorem sc_is_groups : FnScope ["house", "thing", "group", "one", "other"] ["house", "thing"] (defScope s_is_groups) := ⟨rfl, rfl, rfl, by decide +kernel, rfl, by decide +kernel, by decide +kernel⟩
abbrev s_Standing___init__ : Stmt := inClass (top 16) 0
abbrev N_Standing___init__ : List Str := ["self", "house", "lift", "groups"]
theorem sc_Standing___init__ : FnScope ["self", "house", "lift", "groups"] ["self", "house", "lift", "groups"] (defScope s_Standing___init__) := ⟨rfl, rfl, rfl, by decide +kernel, rfl, by decide +kernel, by decide +kernel⟩
abbrev s_Standing___eq__ : Stmt := inClass (top 16) 1
abbrev N_Standing___eq__ : List Str := ["self", "other"]
theorem sc_Standing___eq__ : FnScope ["self", "other"] ["self", "other"] (defScope s_Standing___eq__) := ⟨rfl, rfl, rfl, by decide +kernel, rfl, by decide +kernel, by decide +kernel⟩
abbrev s_RawStanding___init__ : Stmt := inClass (top 17) 0
abbrev N_RawStanding___init__ : List Str := ["self", "house", "lift", "groups"]
theorem sc_RawStanding___init__ : FnScope ["self", "house", "lift", "groups"] ["self", "house", "lift", "groups"] (defScope s_RawStanding___init__) := ⟨rfl, rfl, rfl, by decide +kernel, rfl, by decide +kernel, by decide +kernel⟩
abbrev s_raw_standing : Stmt := top 18
abbrev N_raw_standing : List Str := ["house", "lift", "known", "rows", "pair"]
theorem sc_raw_standing : FnScope ["house", "lift", "known", "rows", "pair"] ["house", "lift", "known"] (defScope s_raw_standing) := ⟨rfl, rfl, rfl, by decide +kernel, rfl, by decide +kernel, by decide +kernel⟩
abbrev s_known_of : Stmt := top 19
abbrev N_known_of : List Str := ["standing", "stand", "want", "many"]
theorem sc_known_of : FnScope ["standing", "stand", "want", "many"] ["standing"] (defScope s_known_of) := ⟨rfl, rfl, rfl, by decide +kernel, rfl, by decide +kernel, by decide +kernel⟩
abbrev s_people : Stmt := top 20
abbrev N_people : List Str := ["standing", "stand", "want", "many"]
theorem sc_people : FnScope ["standing", "stand", "want", "many"] ["standing"] (defScope s_people) := ⟨rfl, rfl, rfl, by decide +kernel, rfl, by decide +kernel, by decide +kernel⟩
abbrev s_wants_at : Stmt := top 21
abbrev N_wants_at : List Str := ["standing", "floor", "stand", "want", "many"]
theorem sc_wants_at : FnScope ["standing", "floor", "stand", "want", "many"] ["standing", "floor"] (defScope s_wants_at) := ⟨rfl, rfl, rfl, by decide +kernel, rfl, by decide +kernel, by decide +kernel⟩
abbrev s_is_way : Stmt := top 25
abbrev N_is_way : List Str := ["thing"]
theorem sc_is_way : FnScope ["thing"] ["thing"] (defScope s_is_way) := ⟨rfl, rfl, rfl, by decide +kernel, rfl, by decide +kernel, by decide +kernel⟩
abbrev s_is_aboard : Stmt := top 26
abbrev N_is_aboard : List Str := ["thing", "pair", "one", "other"]
theorem sc_is_aboard : FnScope ["thing", "pair", "one", "other"] ["thing"] (defScope s_is_aboard) := ⟨rfl, rfl, rfl, by decide +kernel, rfl, by decide +kernel, by decide +kernel⟩
abbrev s_is_built_move : Stmt := top 27
abbrev N_is_built_move : List Str := ["thing"]
theorem sc_is_built_move : FnScope ["thing"] ["thing"] (defScope s_is_built_move) := ⟨rfl, rfl, rfl, by decide +kernel, rfl, by decide +kernel, by decide +kernel⟩
abbrev s_can_go : Stmt := top 28
abbrev N_can_go : List Str := ["standing", "way"]
theorem sc_can_go : FnScope ["standing", "way"] ["standing", "way"] (defScope s_can_go) := ⟨rfl, rfl, rfl, by decide +kernel, rfl, by decide +kernel, by decide +kernel⟩
abbrev s_is_move : Stmt := top 29
abbrev N_is_move : List Str := ["standing", "thing", "here", "want", "many"]
theorem sc_is_move : FnScope ["standing", "thing", "here", "want", "many"] ["standing", "thing"] (defScope s_is_move) := ⟨rfl, rfl, rfl, by decide +kernel, rfl, by decide +kernel, by decide +kernel⟩
abbrev s_behind_move : Stmt := top 30
abbrev N_behind_move : List Str := ["standing", "move", "way", "aboard", "known", "here", "there", "want", "many"]
theorem sc_behind_move : FnScope ["standing", "move", "way", "aboard", "known", "here", "there", "want", "many"] ["standing", "move"] (defScope s_behind_move) := ⟨rfl, rfl, rfl, by decide +kernel, rfl, by decide +kernel, by decide +kernel⟩
abbrev s_moved : Stmt := top 31
abbrev N_moved : List Str := ["standing", "move"]
theorem sc_moved : FnScope ["standing", "move"] ["standing", "move"] (defScope s_moved) := ⟨rfl, rfl, rfl, by decide +kernel, rfl, by decide +kernel, by decide +kernel⟩
abbrev s__law_hand : Stmt := top 33
abbrev N__law_hand : List Str := ["_law_script", "_law_cells", "_law_cell"]
theorem sc__law_hand : FnScope ["_law_script", "_law_cells", "_law_cell"] ["_law_script"] (defScope s__law_hand) := ⟨rfl, rfl, rfl, by decide +kernel, rfl, by decide +kernel, by decide +kernel⟩
abbrev s__law_draw : Stmt := top 34
abbrev N__law_draw : List Str := ["_law_hand_here", "_law_many", "_law_cell", "_law_digit", "_law_number"]
theorem sc__law_draw : FnScope ["_law_hand_here", "_law_many", "_law_cell", "_law_digit", "_law_number"] ["_law_hand_here", "_law_many"] (defScope s__law_draw) := ⟨rfl, rfl, rfl, by decide +kernel, rfl, by decide +kernel, by decide +kernel⟩
abbrev s__law_great : Stmt := top 35
abbrev N__law_great : List Str := ["_law_hand_here", "_law_most", "_law_found", "_law_turn"]
theorem sc__law_great : FnScope ["_law_hand_here", "_law_most", "_law_found", "_law_turn"] ["_law_hand_here", "_law_most"] (defScope s__law_great) := ⟨rfl, rfl, rfl, by decide +kernel, rfl, by decide +kernel, by decide +kernel⟩
abbrev s__law_groups : Stmt := top 36
abbrev N__law_groups : List Str := ["_law_hand_here", "_law_floors", "_law_many", "_law_most", "_law_known", "_law_turn", "_law_pair"]
theorem sc__law_groups : FnScope ["_law_hand_here", "_law_floors", "_law_many", "_law_most", "_law_known", "_law_turn", "_law_pair"] ["_law_hand_here", "_law_floors", "_law_many", "_law_most"] (defScope s__law_groups) := ⟨rfl, rfl, rfl, by decide +kernel, rfl, by decide +kernel, by decide +kernel⟩
abbrev s__law_great_groups : Stmt := top 37
abbrev N__law_great_groups : List Str := ["_law_hand_here", "_law_floors", "_law_start", "_law_stride", "_law_most", "_law_base", "_law_known", "_law_k", "_law_at", "_law_pair"]
theorem sc__law_great_groups : FnScope ["_law_hand_here", "_law_floors", "_law_start", "_law_stride", "_law_most", "_law_base", "_law_known", "_law_k", "_law_at", "_law_pair"] ["_law_hand_here", "_law_floors"] (defScope s__law_great_groups) := ⟨rfl, rfl, rfl, by decide +kernel, rfl, by decide +kernel, by decide +kernel⟩
abbrev s__law_world : Stmt := top 38
abbrev N__law_world : List Str := ["_law_hand_here", "_law_kind", "_law_floors", "_law_room", "_law_groups_here"]
theorem sc__law_world : FnScope ["_law_hand_here", "_law_kind", "_law_floors", "_law_room", "_law_groups_here"] ["_law_hand_here"] (defScope s__law_world) := ⟨rfl, rfl, rfl, by decide +kernel, rfl, by decide +kernel, by decide +kernel⟩
abbrev s__law_here : Stmt := top 39
abbrev N__law_here : List Str := ["_law_state", "_law_stand", "_law_want", "_law_many"]
theorem sc__law_here : FnScope ["_law_state", "_law_stand", "_law_want", "_law_many"] ["_law_state"] (defScope s__law_here) := ⟨rfl, rfl, rfl, by decide +kernel, rfl, by decide +kernel, by decide +kernel⟩
abbrev s__law_made : Stmt := top 40
abbrev N__law_made : List Str := ["_law_state", "_law_move_here", "_law_lift", "_law_groups_here", "_law_known", "_law_stand", "_law_want", "_law_many", "_law_rows", "_law_pair"]
theorem sc__law_made : FnScope ["_law_state", "_law_move_here", "_law_lift", "_law_groups_here", "_law_known", "_law_stand", "_law_want", "_law_many", "_law_rows", "_law_pair"] ["_law_state", "_law_move_here"] (defScope s__law_made) := ⟨rfl, rfl, rfl, by decide +kernel, rfl, by decide +kernel, by decide +kernel⟩
abbrev s__law_move : Stmt := top 41
abbrev N__law_move : List Str := ["_law_hand_here", "_law_floors", "_law_room", "_law_state", "_law_left", "_law_aboard", "_law_greedy", "_law_want", "_law_many", "_law_most", "_law_some", "_law_options", "_law_way"]
theorem sc__law_move : FnScope ["_law_hand_here", "_law_floors", "_law_room", "_law_state", "_law_left", "_law_aboard", "_law_greedy", "_law_want", "_law_many", "_law_most", "_law_some", "_law_options", "_law_way"] ["_law_hand_here", "_law_floors", "_law_room", "_law_state"] (defScope s__law_move) := ⟨rfl, rfl, rfl, by decide +kernel, rfl, by decide +kernel, by decide +kernel⟩
abbrev s__law_is_told : Stmt := top 42
abbrev N__law_is_told : List Str := ["_law_told", "_law_house", "_law_state"]
theorem sc__law_is_told : FnScope ["_law_told", "_law_house", "_law_state"] ["_law_told", "_law_house", "_law_state"] (defScope s__law_is_told) := ⟨rfl, rfl, rfl, by decide +kernel, rfl, by decide +kernel, by decide +kernel⟩
abbrev s_law : Stmt := top 43
abbrev N_law : List Str := ["_law_script", "_law_hand_here", "_law_turn", "_law_floors", "_law_room", "_law_lift", "_law_groups_here", "_law_house", "_law_state", "_law_standing", "_law_many", "_law_again", "_law_move_here", "_law_later", "_law_told"]
theorem sc_law : FnScope ["_law_script", "_law_hand_here", "_law_turn", "_law_floors", "_law_room", "_law_lift", "_law_groups_here", "_law_house", "_law_state", "_law_standing", "_law_many", "_law_again", "_law_move_here", "_law_later", "_law_told"] ["_law_script"] (defScope s_law) := ⟨rfl, rfl, rfl, by decide +kernel, rfl, by decide +kernel, by decide +kernel⟩
end Law

namespace Law
open PySem L2 MyB MyR MyD
local macro_rules | `(tactic| walk_at "hp") => `(tactic| first | assumption | exact upd_same | ((repeat rw [upd_ne (by assumption)]); assumption))
local macro_rules | `(tactic| walk_at "sq") => `(tactic| first | assumption | exact sqL (by assumption) | exact sqT (by assumption) | exact sqL upd_same | exact sqT upd_same | exact sqL (by walk_at "hp") | exact sqT (by walk_at "hp"))
local macro_rules | `(tactic| walk_at "rd") => `(tactic| with_reducible (first
  | refine r_seq ?_ | refine r_asg ?_ | refine r_op ?_ | refine r_un ?_
  | (refine' r_var ?rdh ?_; (case rdh => (with_unfolding_all rfl)))
  | refine r_c ?_ | refine r_I0 ?_ | refine r_U ?_ | refine r_eqI ?_ | refine r_neI ?_ | refine r_eqB ?_ | refine r_neB ?_
  | refine r_test ?_ | refine r_tB ?_ | refine r_not ?_ | refine r_and ?_ | refine r_or ?_ | refine r_yes ?_
  | refine r_andV ?_ | refine r_orV ?_ | refine r_notV ?_ | refine r_chain ?_ | refine r_if ?_ | refine r_next ?_ | refine r_ifS ?_
  | refine r_ret ?_ | refine r_drop ?_ | refine r_name ?_ | refine r_sub ?_ | refine r_gCons ?_ | refine r_gNil ?_
  | refine r_cons ?_ | refine r_nil ?_ | refine r_cb ?_ | refine r_call ?_ | refine r_make ?_ | refine r_fld ?_ | refine r_tup ?_ | refine r_lst ?_
  | refine r_par ?_ | refine r_par3 ?_ | refine r_rng1 ?_ | refine r_rng2 ?_ | refine r_for ?_ | refine r_iList ?_ | refine r_iTup ?_ | refine r_lc ?_ | refine r_bm ?_ | refine MyK.r_zip ?_ | refine MyK.r_enum ?_ | refine MyK.r_listRg ?_ | refine MyK.r_max3 ?_ | refine r_fldS ?_
  | refine r_sl ?_ | refine r_noPart ?_ | refine r_part ?_ | refine r_abs ?_ | refine r_int ?_ | refine r_intB ?_ | refine r_max ?_ | refine r_min ?_ | refine r_bl ?_ | refine r_theInt ?_ | refine r_par2 ?_
  | (refine' r_ixL ?rdh ?rdi ?_; (case rdh => (with_unfolding_all (walk_at "sq"))); (case rdi => (with_unfolding_all rfl)))
  | (refine' r_ixT ?rdh ?rdi ?_; (case rdh => (with_unfolding_all (walk_at "sq"))); (case rdi => (with_unfolding_all rfl)))
  | (refine' r_setL ?rdh ?rdi ?_; (case rdh => (with_unfolding_all (walk_at "hp"))); (case rdi => (with_unfolding_all rfl)))
  | (refine' r_lenL ?rdh ?_; (case rdh => (with_unfolding_all (walk_at "sq"))))
  | (refine' r_lenT ?rdh ?_; (case rdh => (with_unfolding_all (walk_at "sq"))))
  | (refine' r_gTup ?rdh ?rdi ?_; (case rdh => (with_unfolding_all (walk_at "sq"))); (case rdi => (with_unfolding_all rfl)))
  | (refine' r_I ?rdh ?_; (case rdh => (with_unfolding_all (first | assumption | decide | exact ⟨by decide, by decide⟩ | exact .inr ⟨by decide, by decide⟩ | exact ⟨by decide, by decide, by decide⟩ | exact ⟨by omega, by omega⟩ | exact .inl ⟨by omega, by omega⟩ | exact .inr ⟨by omega, by omega⟩))))
  | (refine' r_aug ?rdh ?_; (case rdh => (with_unfolding_all rfl)))))
local macro_rules | `(tactic| walk_at "rd*") => `(tactic| (repeat (walk_at "rd")))

section
variable {P : Program} {w : World} {K : PySem.W.Frag} {mg : Str → Option Value} {base : Heap}
/-- the law's hand stands at a: its cells at c -/
structure Hand (H : Hp) (a c : Addr) : Prop where
  ex : ∃ (p q s t : Int) (cells : List Int), H a = some (.lst [.ref c, .int p, .int q, .int s, .int t]) ∧ H c = some (.lst (cells.map V.int)) ∧ 0 ≤ p ∧ 0 ≤ q ∧ cells.length ≤ 63 ∧ (∀ n ∈ cells, 0 ≤ n) ∧ c ≠ a
/-- draw(hand, many): a number from 0 below many -/
def spDraw : Sp := fun vs H Q _ => ∃ (a c : Addr) (m : Int), vs = [.ref a, .int m] ∧ Hand H a c ∧ 0 < m ∧ m < 1073741824 ∧ ∀ (n : Int) (H' : Hp), 0 ≤ n → n < m → Hand H' a c → Kp a H H' → Q (.int n) H'
theorem D__law_draw (B : Bi mg) (R__law_draw : Raw K mg "_law_draw" s__law_draw) : IsDef P w K mg base 2 "_law_draw" ["_law_hand_here", "_law_many"] spDraw := by
  refine R__law_draw.ok (N := N__law_draw) (ps := ["_law_hand_here", "_law_many"]) sc__law_draw (fun _ _ _ _ _ _ us hl => match us, hl with | [_, _], _ => rfl) (fun vs H Q E h => ?_) (fun f cdv A outer s H vs Q E hr h => ?_)
  · obtain ⟨a, c, m, rfl, _⟩ := h
    rfl
  · obtain ⟨a, c, m, rfl, ⟨p, q, z, t, cells, hA, hC, hp, hq, hl, hpos, nca⟩, m0, m1, k⟩ := h
    have hu := hu_of hr
    refine ⟨_, (Evl.pss_cut (ps_if (PW.pt (pw_and (pt_cmpR op_eq (pe_ix (MyK.ix_list (K := K) rfl) (pv 0) pe_int (fun _ _ => rfl)) pe_int (nomark _)) (pw_and1 (pt_cmpR op_lt (pe_ix (MyK.ix_list (K := K) rfl) (pv 0) pe_int (fun _ _ => rfl)) (pe_callB (MyK.q_len (K := K) rfl) (by rfl) B.len (by decide +kernel) (pa_cons (pe_ix (MyK.ix_list (K := K) rfl) (pv 0) pe_int (fun _ _ => rfl)) pa_nil)) (nomark _)))))
    (pss_cons (ps_set (i := 2) sc__law_draw.nd rfl (Or.inl rfl) (pe_ix (MyK.ix_list (K := K) rfl) (pe_ix (MyK.ix_list (K := K) rfl) (pv 0) pe_int (fun _ _ => rfl)) (pe_ix (MyK.ix_list (K := K) rfl) (pv 0) pe_int (fun _ _ => rfl)) (fun _ _ => rfl)))
      (pss_cons (ps_asg (pe_op op_add (pe_ix (MyK.ix_list (K := K) rfl) (pv 0) pe_int (fun _ _ => rfl)) pe_int) (pg_sub (pv 0) pe_int set_list))
      (pss_cons (ps_asg (pe_op op_mod (pe_callTy q_int (by rfl) B.int (by decide +kernel) (pa_cons (pe_op op_add (pe_op op_add (pe_op op_mul (pe_ix (MyK.ix_list (K := K) rfl) (pv 0) pe_int (fun _ _ => rfl)) pe_int) (pv 2)) pe_int) pa_nil)) pe_int) (pg_sub (pv 0) pe_int set_list))
      (pss_one (ps_if (pt_cmpR op_ge (pv 2) (pe_op op_pow pe_int pe_int) (nomark _))
        (pss_one (ps_asg (pv 2) (pg_sub (pv 0) pe_int set_list)))
        pss_nil)))))
    pss_nil)
  (pss_cons (ps_if (pt_cmpR op_gt (pe_ix (MyK.ix_list (K := K) rfl) (pv 0) pe_int (fun _ _ => rfl)) pe_int (nomark _))
    (pss_cons (ps_set (i := 3) sc__law_draw.nd rfl (Or.inl rfl) (pe_op op_mod (pe_callTy q_int (by rfl) B.int (by decide +kernel) (pa_cons (pe_ix (MyK.ix_list (K := K) rfl) (pv 0) pe_int (fun _ _ => rfl)) pa_nil)) (pv 1)))
      (pss_cons (ps_asg (pe_op op_fdiv (pe_ix (MyK.ix_list (K := K) rfl) (pv 0) pe_int (fun _ _ => rfl)) (pv 1)) (pg_sub (pv 0) pe_int set_list))
      (pss_one (ps_ret (pv 3)))))
    pss_nil)
  (pss_cons (ps_asg (pe_op op_add (pe_ix (MyK.ix_list (K := K) rfl) (pv 0) pe_int (fun _ _ => rfl)) pe_int) (pg_sub (pv 0) pe_int set_list))
  (pss_cons (ps_set (i := 4) sc__law_draw.nd rfl (Or.inl rfl) (pe_op op_mod (pe_callTy q_int (by rfl) B.int (by decide +kernel) (pa_cons (pe_op op_mul (pe_callTy q_int (by rfl) B.int (by decide +kernel) (pa_cons (pe_op op_add (pe_ix (MyK.ix_list (K := K) rfl) (pv 0) pe_int (fun _ _ => rfl)) (pe_op op_mul pe_int (pe_ix (MyK.ix_list (K := K) rfl) (pv 0) pe_int (fun _ _ => rfl)))) pa_nil)) pe_int) pa_nil)) pe_int))
  (pss_cons (ps_set (i := 4) sc__law_draw.nd rfl (Or.inl rfl) (pe_op op_mod (pe_callTy q_int (by rfl) B.int (by decide +kernel) (pa_cons (pe_op op_mul (pv 4) (pe_op op_add (pe_op op_fdiv (pv 4) pe_int) pe_int)) pa_nil)) pe_int))
  (pss_cons (ps_set (i := 4) sc__law_draw.nd rfl (Or.inl rfl) (pe_op op_mod (pe_callTy q_int (by rfl) B.int (by decide +kernel) (pa_cons (pe_op op_mul (pv 4) (pe_op op_add (pe_op op_fdiv (pv 4) pe_int) pe_int)) pa_nil)) pe_int))
  (pss_one (ps_ret (pe_op op_mod (pe_callTy q_int (by rfl) B.int (by decide +kernel) (pa_cons (pe_op op_fdiv (pv 4) pe_int) pa_nil)) (pv 1)))))))))), ?_⟩
    refine ⟨fun σ' H' => ∃ (p q z : Int) (v : Option V), σ' = [some (.ref a), some (.int m), v, none, none] ∧ H' a = some (.lst [.ref c, .int p, .int q, .int z, .int t]) ∧ H' c = some (.lst (cells.map V.int)) ∧ 0 ≤ p ∧ 0 ≤ q ∧ Kp a H H', ?_, ?_⟩
    · walk_at "rd*"
      refine ite_dec (fun h0 => ?_) (fun h0 => ?_)
      · walk_at "rd*"
        refine ite_dec (fun h1 => ?_) (fun h1 => ?_)
        · rw [List.length_map] at h1
          walk_at "rd*"
          have hx : p.toNat < cells.length := by omega
          have h9 : 0 ≤ cells[p.toNat] := hpos _ (List.getElem_mem hx)
          refine r_ixL (v := .int cells[p.toNat]) (sqL hC) (at_nat hp (by rw [List.getElem?_map, List.getElem?_eq_getElem hx]; rfl)) ?_
          walk_at "rd*"
          refine ite_dec (fun h2 => ?_) (fun h2 => ?_)
          · walk_at "rd*"
            exact ⟨p + 1, _, _, _, rfl, by rw [upd_upd, upd_upd]; exact upd_same, by rw [upd_ne nca, upd_ne nca, upd_ne nca]; exact hC, by omega, h9, ((Kp.refl H).at.at.at)⟩
          · walk_at "rd*"
            exact ⟨p + 1, _, _, _, rfl, by rw [upd_upd]; exact upd_same, by rw [upd_ne nca, upd_ne nca]; exact hC, by omega, hq, ((Kp.refl H).at.at)⟩
        · walk_at "rd*"
          exact ⟨p, q, z, _, rfl, hA, hC, hp, hq, Kp.refl H⟩
      · refine iteF ?_
        walk_at "rd*"
        exact ⟨p, q, z, _, rfl, hA, hC, hp, hq, Kp.refl H⟩
    · rintro σ' H' ⟨p, q, z, v, rfl, hA, hC, hp, hq, k1⟩
      walk_at "rd*"
      refine ite_dec (fun h0 => ?_) (fun h0 => ?_)
      · walk_at "rd*"
        exact k _ _ (Int.emod_nonneg _ (by omega)) (Int.emod_lt_of_pos _ m0) ⟨p, q / m, z, t, cells, upd_same, by rw [upd_ne nca]; exact hC, hp, Int.ediv_nonneg hq (by omega), hl, hpos, nca⟩ k1.at
      · walk_at "rd*"
        exact k _ _ (Int.emod_nonneg _ (by omega)) (Int.emod_lt_of_pos _ m0) ⟨p, q, z, t + 1, cells, upd_same, by rw [upd_ne nca]; exact hC, hp, hq, hl, hpos, nca⟩ k1.at
theorem ints_of : ∀ (ys : List V), (∀ y ∈ ys, ∃ n, y = V.int n ∧ 0 ≤ n) → ∃ ns : List Int, ys = ns.map V.int ∧ ∀ n ∈ ns, 0 ≤ n
  | [], _ => ⟨[], rfl, fun _ h => by simp at h⟩
  | y :: ys, h => by
    obtain ⟨n, rfl, h0⟩ := h y List.mem_cons_self
    obtain ⟨ns, rfl, h1⟩ := ints_of ys fun z hz => h z (List.mem_cons_of_mem _ hz)
    exact ⟨n :: ns, rfl, fun m hm => by
      rcases List.mem_cons.mp hm with rfl | hm
      · exact h0
      · exact h1 m hm⟩
/-- hand(script): a hand of the law -/
def spHand (K : PySem.W.Frag) : Sp := fun vs H Q _ => ∃ (a : Addr) (ns : List Int), vs = [.ref a] ∧ SqL K H a (ns.map V.int) ∧ ns.length ≤ 63 ∧ ∀ (p c : Addr) (H' : Hp), Same H H' → Hand H' p c → H p = none → H c = none → Q (.ref p) H'
theorem D__law_hand (B : Bi mg) (R__law_hand : Raw K mg "_law_hand" s__law_hand) : IsDef P w K mg base 2 "_law_hand" ["_law_script"] (spHand K) := by
  refine R__law_hand.ok (N := N__law_hand) (ps := ["_law_script"]) sc__law_hand (fun _ _ _ _ _ _ us hl => match us, hl with | [_], _ => rfl) (fun vs H Q E h => ?_) (fun f cdv A outer s H vs Q E hr h => ?_)
  · obtain ⟨a, ns, rfl, _⟩ := h
    rfl
  · obtain ⟨a, ns, rfl, hS, hl, k⟩ := h
    refine ⟨_, (pss_cons (ps_setLc (i := 1) (own := [("_law_cell", 2)]) rfl sc__law_hand.nd rfl rfl (sw_true rfl rfl rfl (by decide +kernel)) (MyK.pi_list (K := K) rfl (pe_slice (MyK.sl_list (K := K) rfl) (pv 0) po_none (po_some pe_int))) (blkOk_by (own := [("_law_cell", 2)]) (N := N__law_hand) (sc := defScope s__law_hand) (by decide +kernel)) (fun _ _ _ _ _ => (pg_name (i := 2) sc__law_hand.nd rfl (Or.inl rfl))) (fun _ _ _ _ _ => pts_nil) (fun _ _ _ _ _ => (pe_callB q_abs (by rfl) B.abs (by decide +kernel) (pa_cons (pe_callTy q_int (by rfl) B.int (by decide +kernel) (pa_cons (pv 2) pa_nil)) pa_nil))))
  (pss_one (ps_ret (pe_lst (pa_cons (pv 1) (pa_cons pe_int (pa_cons pe_int (pa_cons (pe_op op_add pe_int (pe_callB (MyK.q_len (K := K) rfl) (by rfl) B.len (by decide +kernel) (pa_cons (pv 1) pa_nil))) (pa_cons pe_int pa_nil))))))))), ?_⟩
    walk_at "rd*"
    refine r_slL hS fun p1 H1 n1 s1 h1 => ?_
    have el : (cutV (ns.map V.int) none (some 63)) = ns.map V.int := by
      unfold cutV
      have e2 : HT.sIx (ns.map V.int).length (ns.map V.int).length (some 63) = (ns.map V.int).length := by
        have := HT.sIx_nat (ns.map V.int).length (ns.map V.int).length 63
        rw [show ((63 : Nat) : Int) = 63 from rfl] at this
        rw [this, List.length_map]
        omega
      rw [e2, HT.sIx_none, List.drop_zero, Nat.sub_zero, List.take_length]
    rw [el] at h1
    refine r_list1 (sqL h1) ?_
    intro D hD
    refine lc_map walk_list hD (by rw [List.length_map]; omega) (fun H' s => s.seq (sqL h1)) (fun i v _ => ∃ n, v = V.int n ∧ 0 ≤ n) (fun _ _ _ _ _ h => h) ?_ ?_
    · rintro i x H2 H3 hi s2 ⟨rfl, hx⟩ Add hAdd
      rw [List.getElem?_map] at hx
      obtain ⟨z, _, rfl⟩ := Option.map_eq_some_iff.mp hx
      walk_at "rd*"
      refine ⟨rfl, ?_⟩
      walk_at "rd*"
      exact hAdd _ _ (Same.refl _) ⟨_, rfl, by split <;> omega⟩
    · intro H2 ys s2 h2 hl2 hR
      obtain ⟨cells, rfl, hc⟩ := ints_of ys fun y hy => by
        obtain ⟨j, hj⟩ := List.getElem?_of_mem hy
        exact hR j y hj
      walk_at "rd*"
      refine r_mkL (szl (by simp)) fun p2 H3 n2 s3 h3 => ?_
      refine k p2 D H3 (s1.trans (s2.trans s3)) ⟨0, 0, _, 0, cells, h3, s3 _ _ h2, Int.le_refl _, Int.le_refl _, by rw [List.length_map, List.length_map] at hl2; omega, hc, ne_of_none h2 n2⟩ ((s1.trans s2).free n2) (s1.free hD)
def spGreat : Sp := fun vs H Q _ => ∃ (a c : Addr) (m : Int), vs = [.ref a, .int m] ∧ Hand H a c ∧ 0 < m ∧ ∀ (n : Int) (H' : Hp), 1 ≤ n → n ≤ m → Hand H' a c → Kp a H H' → Q (.int n) H'
theorem D__law_great (B : Bi mg) (R__law_great : Raw K mg "_law_great" s__law_great) (D__law_draw : IsDef P w K mg base 2 "_law_draw" ["_law_hand_here", "_law_many"] spDraw) : IsDef P w K mg base 3 "_law_great" ["_law_hand_here", "_law_most"] spGreat := by
  refine R__law_great.ok (N := N__law_great) (ps := ["_law_hand_here", "_law_most"]) sc__law_great (fun _ _ _ _ _ _ us hl => match us, hl with | [_, _], _ => rfl) (fun vs H Q E h => ?_) (fun f cdv A outer s H vs Q E hr h => ?_)
  · obtain ⟨a, c, m, rfl, _⟩ := h
    rfl
  · obtain ⟨a, c, m, rfl, hh, m0, k⟩ := h
    refine ⟨_, (pss_cons (ps_set (i := 2) sc__law_great.nd rfl (Or.inl rfl) pe_int)
  (pss_cons (ps_for PassesOwn.never rfl (pi_range1 (by rfl) B.range (pa_cons pe_int pa_nil)) (pg_name (i := 3) sc__law_great.nd rfl (Or.inl rfl))
    (pss_one (ps_set (i := 2) sc__law_great.nd rfl (Or.inl rfl) (pe_op op_add (pe_op op_mul (pv 2) (pe_op op_pow pe_int pe_int)) (pe_callD D__law_draw (hr.mono (by decide)) rfl (pa_cons (pv 0) (pa_cons (pe_op op_pow pe_int pe_int) pa_nil)))))))
  (pss_one (ps_ret (pe_op op_add pe_int (pe_op op_mod (pe_callTy q_int (by rfl) B.int (by decide +kernel) (pa_cons (pv 2) pa_nil)) (pv 1))))))), ?_⟩
    walk_at "rd*"
    refine ⟨4, rfl, by decide, by decide, ?_⟩
    refine for_range (n := 4) (fun i σ' H' => ∃ (n : Int) (v : Option V), σ' = [some (.ref a), some (.int m), some (.int n), v] ∧ Hand H' a c ∧ Kp a H H' ∧ 0 ≤ n) ⟨0, none, rfl, hh, Kp.refl H, Int.le_refl _⟩ ?_ ?_
    · rintro i σ' H' hi ⟨n, v, rfl, hh', k1, n0⟩
      walk_at "rd*"
      refine ⟨a, c, _, rfl, hh', by decide, by decide, fun n2 H2 b0 b1 hh2 k2 => ?_⟩
      walk_at "rd*"
      exact ⟨_, _, rfl, hh2, k1.trans k2, by
        have : (0 : Int) ≤ n * 10 ^ Int.toNat 8 := Int.mul_nonneg n0 (by decide)
        omega⟩
    · rintro σ' H' ⟨n, v, rfl, hh', k1, n0⟩
      walk_at "rd*"
      have e1 := Int.emod_nonneg n (show m ≠ 0 by omega)
      have e2 := Int.emod_lt_of_pos n m0
      exact k _ _ (by omega) (by omega) hh' k1
end
end Law

namespace Law
open PySem L2 MyB MyR MyD
local macro_rules | `(tactic| walk_at "hp") => `(tactic| first | assumption | exact upd_same | ((repeat rw [upd_ne (by assumption)]); assumption))
local macro_rules | `(tactic| walk_at "sq") => `(tactic| first | assumption | exact sqL (by assumption) | exact sqT (by assumption) | exact sqL upd_same | exact sqT upd_same | exact sqL (by walk_at "hp") | exact sqT (by walk_at "hp"))
local macro_rules | `(tactic| walk_at "rd") => `(tactic| with_reducible (first
  | refine r_seq ?_ | refine r_asg ?_ | refine r_op ?_ | refine r_un ?_
  | (refine' r_var ?rdh ?_; (case rdh => (with_unfolding_all rfl)))
  | refine r_c ?_ | refine r_I0 ?_ | refine r_U ?_ | refine r_eqI ?_ | refine r_neI ?_ | refine r_eqB ?_ | refine r_neB ?_
  | refine r_test ?_ | refine r_tB ?_ | refine r_not ?_ | refine r_and ?_ | refine r_or ?_ | refine r_yes ?_
  | refine r_andV ?_ | refine r_orV ?_ | refine r_notV ?_ | refine r_chain ?_ | refine r_if ?_ | refine r_next ?_ | refine r_ifS ?_
  | refine r_ret ?_ | refine r_drop ?_ | refine r_name ?_ | refine r_sub ?_ | refine r_gCons ?_ | refine r_gNil ?_
  | refine r_cons ?_ | refine r_nil ?_ | refine r_cb ?_ | refine r_call ?_ | refine r_make ?_ | refine r_fld ?_ | refine r_tup ?_ | refine r_lst ?_
  | refine r_par ?_ | refine r_par3 ?_ | refine r_rng1 ?_ | refine r_rng2 ?_ | refine r_for ?_ | refine r_iList ?_ | refine r_iTup ?_ | refine r_lc ?_ | refine r_bm ?_ | refine MyK.r_zip ?_ | refine MyK.r_enum ?_ | refine MyK.r_listRg ?_ | refine MyK.r_max3 ?_ | refine r_fldS ?_
  | refine r_sl ?_ | refine r_noPart ?_ | refine r_part ?_ | refine r_abs ?_ | refine r_int ?_ | refine r_intB ?_ | refine r_max ?_ | refine r_min ?_ | refine r_bl ?_ | refine r_theInt ?_ | refine r_par2 ?_
  | (refine' r_ixL ?rdh ?rdi ?_; (case rdh => (with_unfolding_all (walk_at "sq"))); (case rdi => (with_unfolding_all rfl)))
  | (refine' r_ixT ?rdh ?rdi ?_; (case rdh => (with_unfolding_all (walk_at "sq"))); (case rdi => (with_unfolding_all rfl)))
  | (refine' r_setL ?rdh ?rdi ?_; (case rdh => (with_unfolding_all (walk_at "hp"))); (case rdi => (with_unfolding_all rfl)))
  | (refine' r_lenL ?rdh ?_; (case rdh => (with_unfolding_all (walk_at "sq"))))
  | (refine' r_lenT ?rdh ?_; (case rdh => (with_unfolding_all (walk_at "sq"))))
  | (refine' r_gTup ?rdh ?rdi ?_; (case rdh => (with_unfolding_all (walk_at "sq"))); (case rdi => (with_unfolding_all rfl)))
  | (refine' r_I ?rdh ?_; (case rdh => (with_unfolding_all (first | assumption | decide | exact ⟨by decide, by decide⟩ | exact .inr ⟨by decide, by decide⟩ | exact ⟨by decide, by decide, by decide⟩ | exact ⟨by omega, by omega⟩ | exact .inl ⟨by omega, by omega⟩ | exact .inr ⟨by omega, by omega⟩))))
  | (refine' r_aug ?rdh ?_; (case rdh => (with_unfolding_all rfl)))))
local macro_rules | `(tactic| walk_at "rd*") => `(tactic| (repeat (walk_at "rd")))

/-- what the walk asks of the classes -/
structure Txt (K : PySem.W.Frag) (mg : Str → Option Value) (CH CS CR : Addr) : Prop where
  iH : C8.InsC K CH
  iS : C8.InsC K CS
  iR : C8.InsC K CR
  hF : NoAttr K CH "floors"
  hR : NoAttr K CH "room"
  sH : NoAttr K CS "house"
  sL : NoAttr K CS "lift"
  sG : NoAttr K CS "groups"
  rH : NoAttr K CR "house"
  rL : NoAttr K CR "lift"
  rG : NoAttr K CR "groups"
structure HouseAt (K : PySem.W.Frag) (CH : Addr) (H : Hp) (p : Addr) (fl rm : Int) : Prop where
  ex : ∃ dx fs, H p = some (.ins CH dx fs) ∧ fs.lookup ("floors" : Str) = some (.int fl) ∧ fs.lookup ("room" : Str) = some (.int rm)
  cl : Cls K CH
  nF : NoAttr K CH "floors"
  nR : NoAttr K CH "room"
theorem HouseAt.mono {K : PySem.W.Frag} {CH : Addr} {H H' : Hp} {p : Addr} {fl rm : Int} (h : HouseAt K CH H p fl rm) (s : NLK H H') : HouseAt K CH H' p fl rm := by
  obtain ⟨⟨dx, fs, e, l1, l2⟩, b, c, d⟩ := h
  exact ⟨⟨dx, fs, s _ _ (fun _ z => by cases z) e, l1, l2⟩, b, c, d⟩
/-- a standing: its house at hp, its groups at g -/
structure StAt (K : PySem.W.Frag) (CH : Addr) (H : Hp) (p hp : Addr) (fl rm lift : Int) (g : Addr) : Prop where
  ex : ∃ C dx fs, H p = some (.ins C dx fs) ∧ fs.lookup ("house" : Str) = some (.ref hp) ∧ fs.lookup ("lift" : Str) = some (.int lift) ∧ fs.lookup ("groups" : Str) = some (.ref g) ∧ Cls K C ∧ NoAttr K C "house" ∧ NoAttr K C "lift" ∧ NoAttr K C "groups"
  ho : HouseAt K CH H hp fl rm
theorem StAt.mono {K : PySem.W.Frag} {CH : Addr} {H H' : Hp} {p hp : Addr} {fl rm lift : Int} {g : Addr} (h : StAt K CH H p hp fl rm lift g) (s : NLK H H') : StAt K CH H' p hp fl rm lift g := by
  obtain ⟨⟨C, dx, fs, e, r⟩, b⟩ := h
  exact ⟨⟨C, dx, fs, s _ _ (fun _ z => by cases z) e, r⟩, b.mono s⟩
/-- a tuple of groups -/
def GrpsAt (H : Hp) (p : Addr) (L : List Grp) : Prop := ∃ as : List Addr, H p = some (.tup (as.map V.ref)) ∧ Paired (fun a x => H a = some (.tup (gv x))) as L
theorem GrpsAt.mono {H H' : Hp} {p : Addr} {L : List Grp} (h : GrpsAt H p L) (s : TupsK H H') : GrpsAt H' p L := by
  obtain ⟨as, e, r⟩ := h
  exact ⟨as, s _ _ e, Paired.mapP r fun a x q => s _ _ q⟩
/-- groups as a Standing takes them -/
structure Right (fl : Int) (L : List Grp) : Prop where
  len : L.length ≤ 400
  ok : ∀ x ∈ L, 0 ≤ x.1 ∧ x.1 < fl ∧ 0 ≤ x.2.1 ∧ x.2.1 < fl ∧ 1 ≤ x.2.2 ∧ x.2.2 ≤ 10 ^ 30
  asc : L.Pairwise ascP
theorem Right.filter {fl : Int} {L : List Grp} (h : Right fl L) (f : Grp → Bool) : Right fl (L.filter f) :=
  ⟨Nat.le_trans (List.length_filter_le _ _) h.len, fun x hx => h.ok x (List.mem_filter.mp hx).1, h.asc.sublist List.filter_sublist⟩
section
variable {P : Program} {w : World} {K : PySem.W.Frag} {mg : Str → Option Value} {base : Heap} {CH CS CR : Addr}
def spIsInt (K : PySem.W.Frag) : Sp := fun vs H Q _ => ∃ x r, vs = [x] ∧ KindI K H x r ∧ Q (.bl r.isSome) H
theorem D_is_integer (B : Bi mg) (R_is_integer : Raw K mg "is_integer" s_is_integer) : IsDef P w K mg base 2 "is_integer" ["thing"] (spIsInt K) := by
  refine R_is_integer.ok (N := N_is_integer) (ps := ["thing"]) sc_is_integer (fun _ _ _ _ _ _ us hl => match us, hl with | [_], _ => rfl) (fun vs H Q E h => ?_) (fun f cdv A outer s H vs Q E hr h => ?_)
  · obtain ⟨x, r, rfl, _⟩ := h
    rfl
  · obtain ⟨x, r, rfl, hk, k⟩ := h
    refine ⟨_, (pss_one (ps_ret (pe_and (pe_callB (MyK.call_isi (K := K) rfl) (by rfl) B.isinstance (by decide +kernel) (pa_cons (pv 0) (pa_cons (pe_bltn (v := .ty "int") (by rfl) B.int (by decide +kernel) rfl) pa_nil))) (pe_one (pe_not (pe_callB (MyK.call_isi (K := K) rfl) (by rfl) B.isinstance (by decide +kernel) (pa_cons (pv 0) (pa_cons (pe_bltn (v := .ty "bool") (by rfl) B.bool (by decide +kernel) rfl) pa_nil)))))))), ?_⟩
    walk_at "rd*"
    rcases hk with ⟨n, rfl, rfl⟩ | ⟨rfl, t, b1, b2, h1, h2, h3, h4⟩
    · refine r_isi (.ty "int") (.base (.int n)) (kit_ty (b := "int") (r := true) (by decide +kernel)) ?_
      walk_at "rd*"
      refine iteT ?_
      walk_at "rd*"
      refine r_isi (.ty "bool") (.base (.int n)) (kit_ty (b := "bool") (r := false) (by decide +kernel)) ?_
      walk_at "rd*"
      exact k
    · refine r_isi (.ty "int") h1 h2 ?_
      walk_at "rd*"
      refine ite_b (fun e => ?_) (fun e => k)
      walk_at "rd*"
      refine r_isi (.ty "bool") h1 h3 ?_
      walk_at "rd*"
      rw [e] at h4
      have e2 : (!b2) = false := h4
      rw [e2]
      exact k
def spWithin (K : PySem.W.Frag) : Sp := fun vs H Q _ => ∃ x l m r, vs = [x, .int l, .int m] ∧ KindI K H x r ∧ Q (.bl (inB r l m)) H
theorem D_is_within (B : Bi mg) (R_is_within : Raw K mg "is_within" s_is_within) (D_is_integer : IsDef P w K mg base 2 "is_integer" ["thing"] (spIsInt K)) : IsDef P w K mg base 3 "is_within" ["thing", "least", "most"] (spWithin K) := by
  refine R_is_within.ok (N := N_is_within) (ps := ["thing", "least", "most"]) sc_is_within (fun _ _ _ _ _ _ us hl => match us, hl with | [_, _, _], _ => rfl) (fun vs H Q E h => ?_) (fun f cdv A outer s H vs Q E hr h => ?_)
  · obtain ⟨x, l, m, r, rfl, _⟩ := h
    rfl
  · obtain ⟨x, l, m, r, rfl, hk, k⟩ := h
    refine ⟨_, (pss_one (ps_ret (pe_and (pe_callD D_is_integer (hr.mono (by decide)) rfl (pa_cons (pv 0) pa_nil)) (pe_one (pe_chain op_le op_le (pv 1) (pv 0) (pv 2)))))), ?_⟩
    walk_at "rd*"
    refine ⟨x, r, rfl, hk, ?_⟩
    walk_at "rd*"
    rcases hk with ⟨n, rfl, rfl⟩ | ⟨rfl, _⟩
    · refine iteT ?_
      walk_at "rd*"
      refine ite_dec (fun e => ?_) (fun e => ?_)
      · walk_at "rd*"
        have q : (decide (n ≤ m)) = inB (some n) l m := by
          show _ = (decide (l ≤ n) && decide (n ≤ m))
          rw [decide_eq_true e, Bool.true_and]
        rw [q]
        exact k
      · have q : false = inB (some n) l m := by
          show _ = (decide (l ≤ n) && decide (n ≤ m))
          rw [decide_eq_false e, Bool.false_and]
        rw [q]
        exact k
    · exact iteF k
/-- House(floors, room), right ones -/
def spHouse (K : PySem.W.Frag) (CH : Addr) : Sp := fun vs H Q _ => ∃ (p dx : Addr) (fl rm : Int), vs = [.ref p, .int fl, .int rm] ∧ H p = some (.ins CH dx []) ∧ 2 ≤ fl ∧ fl ≤ 40 ∧ 1 ≤ rm ∧ rm ≤ 10 ^ 12 ∧
  ∀ H', HouseAt K CH H' p fl rm → Kp p H H' → Q .non H'
theorem D_House (B : Bi mg) (T : Txt K mg CH CS CR) {t1 t2 : Tok} (c_MOST_FLOORS : mg "MOST_FLOORS" = some (.int 40 t1)) (c_MOST_ROOM : mg "MOST_ROOM" = some (.int (10 ^ 12) t2)) (R_House___init__ : RawC K mg "House" "House.__init__" s_House___init__ CH) (D_is_within : IsDef P w K mg base 3 "is_within" ["thing", "least", "most"] (spWithin K)) :
    IsMake P w K mg base 4 "House" CH ["self", "floors", "room"] (spHouse K CH) := by
  refine R_House___init__.ok (N := N_House___init__) (ps := ["self", "floors", "room"]) sc_House___init__ (fun _ _ _ _ _ _ us hl => match us, hl with | [_, _, _], _ => rfl) (fun vs H Q E h => ?_) (fun f cdv A outer s H vs Q E hr h => ?_)
  · obtain ⟨p, dx, fl, rm, rfl, _⟩ := h
    rfl
  · obtain ⟨p, dx, fl, rm, rfl, hp, b1, b2, b3, b4, k⟩ := h
    refine ⟨_, (pss_cons (ps_if (pt_not (pt_val (pe_callD D_is_within (hr.mono (by decide)) rfl (pa_cons (pv 1) (pa_cons pe_int (pa_cons (pe_globI rfl c_MOST_FLOORS) pa_nil))))))
    (pss_one ps_never)
    pss_nil)
  (pss_cons (ps_if (pt_not (pt_val (pe_callD D_is_within (hr.mono (by decide)) rfl (pa_cons (pv 2) (pa_cons pe_int (pa_cons (pe_globI rfl c_MOST_ROOM) pa_nil))))))
    (pss_one ps_never)
    pss_nil)
  (pss_cons (ps_fld (pv 0) (pv 1) rfl)
  (pss_one (ps_fld (pv 0) (pv 2) rfl))))), ?_⟩
    walk_at "rd*"
    refine ⟨_, _, _, _, rfl, .int fl, ?_⟩
    rw [inB_yes b1 b2]
    walk_at "rd*"
    refine iteF ?_
    walk_at "rd*"
    refine ⟨_, _, _, _, rfl, .int rm, ?_⟩
    rw [inB_yes b3 b4]
    walk_at "rd*"
    refine iteF ?_
    walk_at "rd*"
    refine ⟨p, CH, dx, [], rfl, hp, T.iH.cl, T.hF, by decide, ?_⟩
    walk_at "rd*"
    refine ⟨p, CH, dx, _, rfl, upd_same, T.iH.cl, T.hR, putF_lt (n := 0) (Nat.le_refl _), ?_⟩
    refine k _ ⟨⟨dx, _, upd_same, ?_, ?_⟩, T.iH.cl, T.hF, T.hR⟩ (Kp.refl H).at.at
    · rw [lookup_putF, if_neg (by decide +kernel), lookup_putF, if_pos rfl]
    · rw [lookup_putF, if_pos rfl]
/-- is_floor(house, x) -/
def spFloor (K : PySem.W.Frag) (CH : Addr) : Sp := fun vs H Q _ => ∃ (p : Addr) (fl rm : Int) (x : V) (r : Option Int), vs = [.ref p, x] ∧ HouseAt K CH H p fl rm ∧ KindI K H x r ∧ Q (.bl (inB r 0 (fl - 1))) H
theorem D_is_floor (B : Bi mg) (R_is_floor : Raw K mg "is_floor" s_is_floor) (D_is_within : IsDef P w K mg base 3 "is_within" ["thing", "least", "most"] (spWithin K)) : IsDef P w K mg base 4 "is_floor" ["house", "thing"] (spFloor K CH) := by
  refine R_is_floor.ok (N := N_is_floor) (ps := ["house", "thing"]) sc_is_floor (fun _ _ _ _ _ _ us hl => match us, hl with | [_, _], _ => rfl) (fun vs H Q E h => ?_) (fun f cdv A outer s H vs Q E hr h => ?_)
  · obtain ⟨p, fl, rm, x, r, rfl, _⟩ := h
    rfl
  · obtain ⟨p, fl, rm, x, r, rfl, ⟨⟨dx, fs, e, l1, l2⟩, cl, nF, nR⟩, hk, k⟩ := h
    refine ⟨_, (pss_one (ps_ret (pe_callD D_is_within (hr.mono (by decide)) rfl (pa_cons (pv 1) (pa_cons pe_int (pa_cons (pe_op op_sub (MyK.pe_fld (K := K) rfl (pv 0) rfl) pe_int) pa_nil)))))), ?_⟩
    walk_at "rd*"
    refine ⟨p, CH, dx, fs, _, rfl, e, cl, nF, l1, ?_⟩
    walk_at "rd*"
    exact ⟨_, _, _, _, rfl, hk, k⟩
/-- is_group(house, group), of ints -/
def spGroup (K : PySem.W.Frag) (CH : Addr) : Sp := fun vs H Q _ => ∃ (p a : Addr) (fl rm : Int) (x : Grp), vs = [.ref p, .ref a] ∧ HouseAt K CH H p fl rm ∧ H a = some (.tup (gv x)) ∧
  Q (.bl (decide (0 ≤ x.1 ∧ x.1 < fl ∧ 0 ≤ x.2.1 ∧ x.2.1 < fl ∧ 1 ≤ x.2.2))) H
theorem D_is_group (B : Bi mg) (R_is_group : Raw K mg "is_group" s_is_group) (D_is_integer : IsDef P w K mg base 2 "is_integer" ["thing"] (spIsInt K)) (D_is_floor : IsDef P w K mg base 4 "is_floor" ["house", "thing"] (spFloor K CH)) : IsDef P w K mg base 5 "is_group" ["house", "thing"] (spGroup K CH) := by
  refine R_is_group.ok (N := N_is_group) (ps := ["house", "thing"]) sc_is_group (fun _ _ _ _ _ _ us hl => match us, hl with | [_, _], _ => rfl) (fun vs H Q E h => ?_) (fun f cdv A outer s H vs Q E hr h => ?_)
  · obtain ⟨p, a, fl, rm, x, rfl, _⟩ := h
    rfl
  · obtain ⟨p, a, fl, rm, x, rfl, hh, ha, k⟩ := h
    refine ⟨_, (pss_cons (ps_if (PW.pt (pw_or (pt_not (pt_val (pe_callB (MyK.call_isi (K := K) rfl) (by rfl) B.isinstance (by decide +kernel) (pa_cons (pv 1) (pa_cons (pe_bltn (v := .ty "tuple") (by rfl) B.tuple (by decide +kernel) rfl) pa_nil))))) (pw_or1 (pt_cmpR op_ne (pe_callB (MyK.q_len (K := K) rfl) (by rfl) B.len (by decide +kernel) (pa_cons (pv 1) pa_nil)) pe_int (nomark _)))))
    (pss_one (ps_ret pe_bl))
    pss_nil)
  (pss_cons (ps_if (PW.pt (pw_or (pt_not (pt_val (pe_callD D_is_floor (hr.mono (by decide)) rfl (pa_cons (pv 0) (pa_cons (pe_ix (MyK.ix_tup (K := K) rfl) (pv 1) pe_int (fun _ _ => rfl)) pa_nil))))) (pw_or1 (pt_not (pt_val (pe_callD D_is_floor (hr.mono (by decide)) rfl (pa_cons (pv 0) (pa_cons (pe_ix (MyK.ix_tup (K := K) rfl) (pv 1) pe_int (fun _ _ => rfl)) pa_nil))))))))
    (pss_one (ps_ret pe_bl))
    pss_nil)
  (pss_one (ps_ret (pe_and (pe_callD D_is_integer (hr.mono (by decide)) rfl (pa_cons (pe_ix (MyK.ix_tup (K := K) rfl) (pv 1) pe_int (fun _ _ => rfl)) pa_nil)) (pe_one (pe_cmpR op_ge (pe_ix (MyK.ix_tup (K := K) rfl) (pv 1) pe_int (fun _ _ => rfl)) pe_int (nomark _)))))))), ?_⟩
    walk_at "rd*"
    refine r_isi (.ty "tuple") (.base (.tup ha)) (kit_ty (b := "tuple") (r := true) (by decide +kernel)) ?_
    walk_at "rd*"
    refine iteF ?_
    walk_at "rd*"
    refine ite_no (by simp) ?_
    walk_at "rd*"
    refine ⟨p, fl, rm, _, _, rfl, hh, .int x.1, ?_⟩
    walk_at "rd*"
    by_cases c1 : 0 ≤ x.1 ∧ x.1 < fl
    · rw [inB_yes c1.1 (by omega)]
      walk_at "rd*"
      refine iteF ?_
      walk_at "rd*"
      refine ⟨p, fl, rm, _, _, rfl, hh, .int x.2.1, ?_⟩
      walk_at "rd*"
      by_cases c2 : 0 ≤ x.2.1 ∧ x.2.1 < fl
      · rw [inB_yes c2.1 (by omega)]
        walk_at "rd*"
        refine iteF ?_
        walk_at "rd*"
        refine ⟨_, _, rfl, .int x.2.2, ?_⟩
        walk_at "rd*"
        refine iteT ?_
        walk_at "rd*"
        have e : decide (1 ≤ x.2.2) = decide (0 ≤ x.1 ∧ x.1 < fl ∧ 0 ≤ x.2.1 ∧ x.2.1 < fl ∧ 1 ≤ x.2.2) := by
          apply decide_eq_decide.mpr
          omega
        rw [e]
        exact k
      · have e : inB (some x.2.1) 0 (fl - 1) = false := by
          show (decide (0 ≤ x.2.1) && decide (x.2.1 ≤ fl - 1)) = false
          rw [Bool.and_eq_false_iff, decide_eq_false_iff_not, decide_eq_false_iff_not]
          omega
        rw [e]
        walk_at "rd*"
        refine iteT ?_
        walk_at "rd*"
        rw [decide_eq_false (by omega)] at k
        exact k
    · have e : inB (some x.1) 0 (fl - 1) = false := by
        show (decide (0 ≤ x.1) && decide (x.1 ≤ fl - 1)) = false
        rw [Bool.and_eq_false_iff, decide_eq_false_iff_not, decide_eq_false_iff_not]
        omega
      rw [e]
      walk_at "rd*"
      refine iteT ?_
      refine iteT ?_
      walk_at "rd*"
      rw [decide_eq_false (by omega)] at k
      exact k
theorem paired_at {α β : Type} {F : α → β → Prop} : ∀ {l : List α} {m : List β} {i : Nat} {a : α}, Paired F l m → l[i]? = some a → ∃ b, m[i]? = some b ∧ F a b
  | _, _, _, _, .nil, h => by simp at h
  | _, _, 0, _, .cons r t, h => by
    cases h
    exact ⟨_, rfl, r⟩
  | _, _, i + 1, _, .cons r t, h => paired_at (i := i) t (by simpa using h)
theorem GrpsAt.at {H : Hp} {p : Addr} {L : List Grp} {as : List Addr} {i : Nat} {y : V} (r : Paired (fun a x => H a = some (.tup (gv x))) as L) (h : (as.map V.ref)[i]? = some y) : ∃ a x, y = .ref a ∧ L[i]? = some x ∧ H a = some (.tup (gv x)) := by
  rw [List.getElem?_map] at h
  obtain ⟨a, ha, rfl⟩ := Option.map_eq_some_iff.mp h
  obtain ⟨x, hx, q⟩ := paired_at r ha
  exact ⟨a, x, rfl, hx, q⟩
theorem all_true : ∀ n : Nat, (List.replicate n true).all id = true
  | 0 => rfl
  | n + 1 => by rw [List.replicate_succ, List.all_cons, all_true n]; rfl
theorem bools_of {ys : List V} {n : Nat} (hl : ys.length = n) (h : ∀ (i : Nat) (y : V), ys[i]? = some y → y = V.bl true) : ys = (List.replicate n true).map V.bl := by
  rw [List.map_replicate]
  refine List.eq_replicate_iff.mpr ⟨hl, fun y hy => ?_⟩
  obtain ⟨j, hj⟩ := List.getElem?_of_mem hy
  exact h j y hj
theorem cut1 (as : List Addr) : cutV (as.map V.ref) (some 1) none = (as.drop 1).map V.ref := by
  unfold cutV
  rw [HT.sIx_none]
  have e : HT.sIx (as.map V.ref).length 0 (some 1) = min 1 (as.map V.ref).length := HT.sIx_nat _ 0 1
  rw [e]
  cases as with
  | nil => rfl
  | cons a r =>
    have e2 : min 1 (List.map V.ref (a :: r)).length = 1 := by
      rw [List.map_cons, List.length_cons]
      omega
    rw [e2, List.map_cons, List.drop_one, List.drop_one, List.tail_cons, List.tail_cons, List.length_cons, Nat.add_sub_cancel, List.take_length]
/-- is_groups(house, groups), right ones -/
def spGroups (K : PySem.W.Frag) (CH : Addr) : Sp := fun vs H Q _ => ∃ (p g : Addr) (fl rm : Int) (L : List Grp), vs = [.ref p, .ref g] ∧ HouseAt K CH H p fl rm ∧ GrpsAt H g L ∧ Right fl L ∧ ∀ H', Same H H' → Q (.bl true) H'
theorem D_is_groups (B : Bi mg) {t1 t2 : Tok} (c_MOST_GROUPS : mg "MOST_GROUPS" = some (.int 400 t1)) (c_MOST_PEOPLE : mg "MOST_PEOPLE" = some (.int (10 ^ 30) t2)) (R_is_groups : Raw K mg "is_groups" s_is_groups)
    (D_is_group : IsDef P w K mg base 5 "is_group" ["house", "thing"] (spGroup K CH)) : IsDef P w K mg base 6 "is_groups" ["house", "thing"] (spGroups K CH) := by
  refine R_is_groups.ok (N := N_is_groups) (ps := ["house", "thing"]) sc_is_groups (fun _ _ _ _ _ _ us hl => match us, hl with | [_, _], _ => rfl) (fun vs H Q E h => ?_) (fun f cdv A outer s H vs Q E hr h => ?_)
  · obtain ⟨p, g, fl, rm, L, rfl, _⟩ := h
    rfl
  · obtain ⟨p, g, fl, rm, L, rfl, hh, ⟨as, hg, hp⟩, hR, k⟩ := h
    have el : as.length = L.length := hp.length
    have l400 := hR.len
    refine ⟨_, (pss_cons (ps_if (PW.pt (pw_or (pt_not (pt_val (pe_callB (MyK.call_isi (K := K) rfl) (by rfl) B.isinstance (by decide +kernel) (pa_cons (pv 1) (pa_cons (pe_bltn (v := .ty "tuple") (by rfl) B.tuple (by decide +kernel) rfl) pa_nil))))) (pw_or1 (pt_cmpR op_gt (pe_callB (MyK.q_len (K := K) rfl) (by rfl) B.len (by decide +kernel) (pa_cons (pv 1) pa_nil)) (pe_globI rfl c_MOST_GROUPS) (nomark _)))))
    (pss_one (ps_ret pe_bl))
    pss_nil)
  (pss_cons (ps_if (pt_not (pt_val (pe_callB (MyK.cr_all (K := K) rfl rfl) (by rfl) B.all (by decide +kernel) (pa_cons (pe_lc (own := [("group", 2)]) rfl sc_is_groups.nd (MyK.pi_tup (K := K) rfl (pv 1)) (blkOk_by (own := [("group", 2)]) (N := N_is_groups) (sc := defScope s_is_groups) (by decide +kernel)) (fun _ _ _ _ _ => (pg_name (i := 2) sc_is_groups.nd rfl (Or.inl rfl))) (fun _ _ _ _ _ => pts_nil) (fun _ _ _ _ _ => (pe_and (pe_callD D_is_group (hr.mono (by decide)) rfl (pa_cons (pv 0) (pa_cons (pv 2) pa_nil))) (pe_one (pe_cmpR op_le (pe_ix (MyK.ix_tup (K := K) rfl) (pv 2) pe_int (fun _ _ => rfl)) (pe_globI rfl c_MOST_PEOPLE) (nomark _)))))) pa_nil))))
    (pss_one (ps_ret pe_bl))
    pss_nil)
  (pss_one (ps_ret (pe_callB (MyK.cr_all (K := K) rfl rfl) (by rfl) B.all (by decide +kernel) (pa_cons (pe_lc (own := [("one", 3), ("other", 4)]) rfl sc_is_groups.nd (MyK.pi_zip (K := K) rfl (by rfl) B.zip (pa_cons (pv 1) (pa_cons (pe_slice (MyK.sl_tupA (K := K) rfl) (pv 1) (po_some pe_int) po_none) pa_nil))) (blkOk_by (own := [("one", 3), ("other", 4)]) (N := N_is_groups) (sc := defScope s_is_groups) (by decide +kernel)) (fun _ _ _ _ _ => (MyK.pg_tup (K := K) (n := 2) rfl rfl (pgs_cons (pg_name (i := 3) sc_is_groups.nd rfl (Or.inl rfl)) (pgs_cons (pg_name (i := 4) sc_is_groups.nd rfl (Or.inl rfl)) pgs_nil)))) (fun _ _ _ _ _ => pts_nil) (fun _ _ _ _ _ => (pe_cmpR (MyK.op_ltT (K := K) rfl hr.units0) (pe_slice (MyK.sl_tup (K := K) rfl) (pv 3) po_none (po_some pe_int)) (pe_slice (MyK.sl_tup (K := K) rfl) (pv 4) po_none (po_some pe_int)) (nomark _)))) pa_nil)))))), ?_⟩
    walk_at "rd*"
    refine r_isi (.ty "tuple") (.base (.tup hg)) (kit_ty (b := "tuple") (r := true) (by decide +kernel)) ?_
    walk_at "rd*"
    refine iteF ?_
    walk_at "rd*"
    refine ite_no (decide_eq_false (by rw [List.length_map]; omega)) ?_
    walk_at "rd*"
    refine r_tup1 (sqT hg) ?_
    intro D hD
    refine lc_map walk_tup hD (by rw [List.length_map]; omega) (fun H' s => Same.seqT s (sqT hg)) (fun i v _ => v = V.bl true) (fun _ _ _ _ _ h => h) ?_ ?_
    · rintro i x H2 H3 hi s2 ⟨rfl, hx⟩ Add hAdd
      obtain ⟨a, z, rfl, hz, ha⟩ := GrpsAt.at (p := g) hp hx
      have ok := hR.ok z (List.mem_of_getElem? hz)
      walk_at "rd*"
      refine ⟨rfl, ?_⟩
      walk_at "rd*"
      refine ⟨p, a, fl, rm, z, rfl, hh.mono (.of s2), s2 _ _ ha, ?_⟩
      rw [decide_eq_true (by omega)]
      walk_at "rd*"
      refine iteT ?_
      walk_at "rd*"
      refine r_ixT (v := .int z.2.2) (sqT (s2 _ _ ha)) rfl ?_
      walk_at "rd*"
      rw [decide_eq_true (by omega)]
      exact hAdd _ _ (Same.refl _) rfl
    · intro H2 ys s2 h2 hl2 hall
      have e := bools_of hl2 hall
      rw [e] at h2
      walk_at "rd*"
      refine r_all (sqL h2) ?_
      rw [all_true]
      walk_at "rd*"
      refine iteF ?_
      walk_at "rd*"
      refine MyK.r_slA (s2 _ _ hg) fun t H3 s3 h3 => ?_
      have el2 : cutV (as.map V.ref) (some 1) none = (as.drop 1).map V.ref := cut1 as
      rw [el2] at h3
      have s4 := s2.trans s3
      walk_at "rd*"
      refine ⟨g, t, as.map V.ref, (as.drop 1).map V.ref, rfl, .inr ⟨sqT (s4 _ _ hg), sqT h3, ?_⟩⟩
      intro D2 hD2
      refine lc_map (walk_zipT rfl) hD2 (by simp only [List.length_map, List.length_drop]; omega) (fun H' s => ⟨sqT (s _ _ (s4 _ _ hg)), sqT (s _ _ h3)⟩) (fun i v _ => v = V.bl true) (fun _ _ _ _ _ h => h) ?_ ?_
      · rintro i x H4 H5 hi s5 ⟨T, x1, x2, rfl, nT, rfl, e1, e2⟩ Add hAdd
        obtain ⟨a1, z1, rfl, hz1, ha1⟩ := GrpsAt.at (p := g) hp e1
        have e3 : (as.map V.ref)[1 + i]? = some x2 := by
          have e2' : (List.map V.ref (List.drop 1 as))[i]? = some x2 := e2
          rw [List.getElem?_map, List.getElem?_drop] at e2'
          rw [List.getElem?_map]
          exact e2'
        obtain ⟨a2, z2, rfl, hz2, ha2⟩ := GrpsAt.at (p := g) hp e3
        have s6 : Same H4 (upd H4 T (.tup [.ref a1, .ref a2])) := Same.new0 nT
        have s7 := (s4.trans s5).trans s6
        refine r_gTup (sqT upd_same) rfl ?_
        walk_at "rd*"
        refine ⟨rfl, ?_⟩
        walk_at "rd*"
        refine r_slT (sqT (s7 _ _ ha1)) (by show ¬ (HT.sIx 3 0 none = 0 ∧ HT.sIx 3 3 (some 2) = 3); decide) fun q1 H6 n6 s8 h8 => ?_
        walk_at "rd*"
        refine r_slT (sqT (s8 _ _ (s7 _ _ ha2))) (by show ¬ (HT.sIx 3 0 none = 0 ∧ HT.sIx 3 3 (some 2) = 3); decide) fun q2 H7 n7 s9 h9 => ?_
        refine MyK.r_ltT (ns := [z1.1, z1.2.1]) (ms := [z2.1, z2.2.1]) (sqT (s9 _ _ h8)) (sqT h9) ?_
        have lt : HT.lexLt [z1.1, z1.2.1] [z2.1, z2.2.1] = true := by
          have hasc := List.pairwise_iff_getElem.mp hR.asc i (1 + i) (List.getElem?_eq_some_iff.mp hz1).1 (List.getElem?_eq_some_iff.mp hz2).1 (by omega)
          rw [(List.getElem?_eq_some_iff.mp hz1).2, (List.getElem?_eq_some_iff.mp hz2).2] at hasc
          show (if z1.1 = z2.1 then (if z1.2.1 = z2.2.1 then false else decide (z1.2.1 < z2.2.1)) else decide (z1.1 < z2.1)) = true
          rcases hasc with h | ⟨h, h'⟩
          · rw [if_neg (by omega), decide_eq_true h]
          · rw [if_pos h, if_neg (by omega), decide_eq_true h']
        rw [lt]
        exact hAdd _ _ ((s6.trans s8).trans s9) rfl
      · intro H4 ys4 s5 h5 hl5 hall5
        have e5 := bools_of hl5 hall5
        rw [e5] at h5
        walk_at "rd*"
        refine r_all (sqL h5) ?_
        rw [all_true]
        exact k H4 (s4.trans s5)
end
end Law

namespace Law
open PySem L2 MyB MyR MyD
local macro_rules | `(tactic| walk_at "hp") => `(tactic| first | assumption | exact upd_same | ((repeat rw [upd_ne (by assumption)]); assumption))
local macro_rules | `(tactic| walk_at "sq") => `(tactic| first | assumption | exact sqL (by assumption) | exact sqT (by assumption) | exact sqL upd_same | exact sqT upd_same | exact sqL (by walk_at "hp") | exact sqT (by walk_at "hp"))
local macro_rules | `(tactic| walk_at "rd") => `(tactic| with_reducible (first
  | refine r_seq ?_ | refine r_asg ?_ | refine r_op ?_ | refine r_un ?_
  | (refine' r_var ?rdh ?_; (case rdh => (with_unfolding_all rfl)))
  | refine r_c ?_ | refine r_I0 ?_ | refine r_U ?_ | refine r_eqI ?_ | refine r_neI ?_ | refine r_eqB ?_ | refine r_neB ?_
  | refine r_test ?_ | refine r_tB ?_ | refine r_not ?_ | refine r_and ?_ | refine r_or ?_ | refine r_yes ?_
  | refine r_andV ?_ | refine r_orV ?_ | refine r_notV ?_ | refine r_chain ?_ | refine r_if ?_ | refine r_next ?_ | refine r_ifS ?_
  | refine r_ret ?_ | refine r_drop ?_ | refine r_name ?_ | refine r_sub ?_ | refine r_gCons ?_ | refine r_gNil ?_
  | refine r_cons ?_ | refine r_nil ?_ | refine r_cb ?_ | refine r_call ?_ | refine r_make ?_ | refine r_fld ?_ | refine r_tup ?_ | refine r_lst ?_
  | refine r_par ?_ | refine r_par3 ?_ | refine r_rng1 ?_ | refine r_rng2 ?_ | refine r_for ?_ | refine r_iList ?_ | refine r_iTup ?_ | refine r_lc ?_ | refine r_bm ?_ | refine MyK.r_zip ?_ | refine MyK.r_enum ?_ | refine MyK.r_listRg ?_ | refine MyK.r_max3 ?_ | refine r_fldS ?_
  | refine r_sl ?_ | refine r_noPart ?_ | refine r_part ?_ | refine r_abs ?_ | refine r_int ?_ | refine r_intB ?_ | refine r_max ?_ | refine r_min ?_ | refine r_bl ?_ | refine r_theInt ?_ | refine r_par2 ?_
  | (refine' r_ixL ?rdh ?rdi ?_; (case rdh => (with_unfolding_all (walk_at "sq"))); (case rdi => (with_unfolding_all rfl)))
  | (refine' r_ixT ?rdh ?rdi ?_; (case rdh => (with_unfolding_all (walk_at "sq"))); (case rdi => (with_unfolding_all rfl)))
  | (refine' r_setL ?rdh ?rdi ?_; (case rdh => (with_unfolding_all (walk_at "hp"))); (case rdi => (with_unfolding_all rfl)))
  | (refine' r_lenL ?rdh ?_; (case rdh => (with_unfolding_all (walk_at "sq"))))
  | (refine' r_lenT ?rdh ?_; (case rdh => (with_unfolding_all (walk_at "sq"))))
  | (refine' r_gTup ?rdh ?rdi ?_; (case rdh => (with_unfolding_all (walk_at "sq"))); (case rdi => (with_unfolding_all rfl)))
  | (refine' r_I ?rdh ?_; (case rdh => (with_unfolding_all (first | assumption | decide | exact ⟨by decide, by decide⟩ | exact .inr ⟨by decide, by decide⟩ | exact ⟨by decide, by decide, by decide⟩ | exact ⟨by omega, by omega⟩ | exact .inl ⟨by omega, by omega⟩ | exact .inr ⟨by omega, by omega⟩))))
  | (refine' r_aug ?rdh ?_; (case rdh => (with_unfolding_all rfl)))))
local macro_rules | `(tactic| walk_at "rd*") => `(tactic| (repeat (walk_at "rd")))

section
variable {P : Program} {w : World} {K : PySem.W.Frag} {mg : Str → Option Value} {base : Heap} {CH CS CR : Addr}
/-- a standing whose class is known -/
def StC (K : PySem.W.Frag) (CH C : Addr) (H : Hp) (p hp : Addr) (fl rm lift : Int) (g : Addr) : Prop := (∃ dx fs, H p = some (.ins C dx fs)) ∧ StAt K CH H p hp fl rm lift g
theorem StC.mono {K : PySem.W.Frag} {CH C : Addr} {H H' : Hp} {p hp : Addr} {fl rm lift : Int} {g : Addr} (h : StC K CH C H p hp fl rm lift g) (s : NLK H H') : StC K CH C H' p hp fl rm lift g := by
  obtain ⟨⟨dx, fs, e⟩, b⟩ := h
  exact ⟨⟨dx, fs, s _ _ (fun _ z => by cases z) e⟩, b.mono s⟩
/-- Standing(house, lift, groups), right ones -/
def spStanding (K : PySem.W.Frag) (CH CS : Addr) : Sp := fun vs H Q _ => ∃ (p dx hp g : Addr) (fl rm lift : Int) (L : List Grp), vs = [.ref p, .ref hp, .int lift, .ref g] ∧ H p = some (.ins CS dx []) ∧ HouseAt K CH H hp fl rm ∧ hp ≠ p ∧ 0 ≤ lift ∧ lift < fl ∧ GrpsAt H g L ∧ Right fl L ∧
  ∀ H', StC K CH CS H' p hp fl rm lift g → Kp p H H' → Q .non H'
theorem D_Standing (B : Bi mg) (T : Txt K mg CH CS CR) (g_House : mg "House" = some (.ref CH)) (R_Standing___init__ : RawC K mg "Standing" "Standing.__init__" s_Standing___init__ CS)
    (D_is_floor : IsDef P w K mg base 4 "is_floor" ["house", "thing"] (spFloor K CH)) (D_is_groups : IsDef P w K mg base 6 "is_groups" ["house", "thing"] (spGroups K CH)) :
    IsMake P w K mg base 7 "Standing" CS ["self", "house", "lift", "groups"] (spStanding K CH CS) := by
  refine R_Standing___init__.ok (N := N_Standing___init__) (ps := ["self", "house", "lift", "groups"]) sc_Standing___init__ (fun _ _ _ _ _ _ us hl => match us, hl with | [_, _, _, _], _ => rfl) (fun vs H Q E h => ?_) (fun f cdv A outer s H vs Q E hr h => ?_)
  · obtain ⟨p, dx, hp, g, fl, rm, lift, L, rfl, _⟩ := h
    rfl
  · obtain ⟨p, dx, hp, g, fl, rm, lift, L, rfl, ep, hh, nhp, b1, b2, hg, hR, k⟩ := h
    obtain ⟨dh, fh, eh, l1, l2⟩ := hh.ex
    refine ⟨_, (pss_cons (ps_if (pt_not (pt_val (pe_callB (C8.call_isC T.iH) (by rfl) B.isinstance (by decide +kernel) (pa_cons (pv 1) (pa_cons (pe_globR rfl g_House) pa_nil)))))
    (pss_one ps_never)
    pss_nil)
  (pss_cons (ps_if (pt_not (pt_val (pe_callD D_is_floor (hr.mono (by decide)) rfl (pa_cons (pv 1) (pa_cons (pv 2) pa_nil)))))
    (pss_one ps_never)
    pss_nil)
  (pss_cons (ps_if (pt_not (pt_val (pe_callD D_is_groups (hr.mono (by decide)) rfl (pa_cons (pv 1) (pa_cons (pv 3) pa_nil)))))
    (pss_one ps_never)
    pss_nil)
  (pss_cons (ps_fld (pv 0) (pv 1) rfl)
  (pss_cons (ps_fld (pv 0) (pv 2) rfl)
  (pss_one (ps_fld (pv 0) (pv 3) rfl))))))), ?_⟩
    walk_at "rd*"
    refine ⟨hp, dh, fh, rfl, eh, ?_⟩
    walk_at "rd*"
    refine iteF ?_
    walk_at "rd*"
    refine ⟨hp, fl, rm, _, _, rfl, hh, .int lift, ?_⟩
    rw [inB_yes b1 (by omega)]
    walk_at "rd*"
    refine iteF ?_
    walk_at "rd*"
    refine ⟨hp, g, fl, rm, L, rfl, hh, hg, hR, fun H1 s1 => ?_⟩
    walk_at "rd*"
    refine iteF ?_
    walk_at "rd*"
    refine ⟨p, CS, dx, [], rfl, s1 _ _ ep, T.iS.cl, T.sH, by decide, ?_⟩
    walk_at "rd*"
    refine ⟨p, CS, dx, _, rfl, upd_same, T.iS.cl, T.sL, putF_lt (n := 0) (Nat.le_refl _), ?_⟩
    walk_at "rd*"
    refine ⟨p, CS, dx, _, rfl, upd_same, T.iS.cl, T.sG, putF_lt (n := 1) (putF_le (Nat.le_refl _)), ?_⟩
    refine k _ ⟨⟨_, _, upd_same⟩, ⟨⟨CS, dx, _, upd_same, ?_, ?_, ?_, T.iS.cl, T.sH, T.sL, T.sG⟩, ⟨⟨dh, fh, ?_, l1, l2⟩, hh.cl, hh.nF, hh.nR⟩⟩⟩ ((Kp.of s1).at.at.at)
    · rw [lookup_putF, if_neg (by decide +kernel), lookup_putF, if_neg (by decide +kernel), lookup_putF, if_pos rfl]
    · rw [lookup_putF, if_neg (by decide +kernel), lookup_putF, if_pos rfl]
    · rw [lookup_putF, if_pos rfl]
    · rw [upd_ne nhp, upd_ne nhp, upd_ne nhp]
      exact s1 _ _ eh
/-- RawStanding(house, lift, groups) -/
def spRaw (K : PySem.W.Frag) (CH CR : Addr) : Sp := fun vs H Q _ => ∃ (p dx hp g : Addr) (fl rm lift : Int), vs = [.ref p, .ref hp, .int lift, .ref g] ∧ H p = some (.ins CR dx []) ∧ HouseAt K CH H hp fl rm ∧ hp ≠ p ∧
  ∀ H', StC K CH CR H' p hp fl rm lift g → Kp p H H' → Q .non H'
theorem D_RawStanding (B : Bi mg) (T : Txt K mg CH CS CR) (R_RawStanding___init__ : RawC K mg "RawStanding" "RawStanding.__init__" s_RawStanding___init__ CR) :
    IsMake P w K mg base 2 "RawStanding" CR ["self", "house", "lift", "groups"] (spRaw K CH CR) := by
  refine R_RawStanding___init__.ok (N := N_RawStanding___init__) (ps := ["self", "house", "lift", "groups"]) sc_RawStanding___init__ (fun _ _ _ _ _ _ us hl => match us, hl with | [_, _, _, _], _ => rfl) (fun vs H Q E h => ?_) (fun f cdv A outer s H vs Q E hr h => ?_)
  · obtain ⟨p, dx, hp, g, fl, rm, lift, rfl, _⟩ := h
    rfl
  · obtain ⟨p, dx, hp, g, fl, rm, lift, rfl, ep, hh, nhp, k⟩ := h
    obtain ⟨dh, fh, eh, l1, l2⟩ := hh.ex
    refine ⟨_, (pss_cons (ps_fld (pv 0) (pv 1) rfl)
  (pss_cons (ps_fld (pv 0) (pv 2) rfl)
  (pss_one (ps_fld (pv 0) (pv 3) rfl)))), ?_⟩
    walk_at "rd*"
    refine ⟨p, CR, dx, [], rfl, ep, T.iR.cl, T.rH, by decide, ?_⟩
    walk_at "rd*"
    refine ⟨p, CR, dx, _, rfl, upd_same, T.iR.cl, T.rL, putF_lt (n := 0) (Nat.le_refl _), ?_⟩
    walk_at "rd*"
    refine ⟨p, CR, dx, _, rfl, upd_same, T.iR.cl, T.rG, putF_lt (n := 1) (putF_le (Nat.le_refl _)), ?_⟩
    refine k _ ⟨⟨_, _, upd_same⟩, ⟨⟨CR, dx, _, upd_same, ?_, ?_, ?_, T.iR.cl, T.rH, T.rL, T.rG⟩, ⟨⟨dh, fh, ?_, l1, l2⟩, hh.cl, hh.nF, hh.nR⟩⟩⟩ ((Kp.refl H).at.at.at)
    · rw [lookup_putF, if_neg (by decide +kernel), lookup_putF, if_neg (by decide +kernel), lookup_putF, if_pos rfl]
    · rw [lookup_putF, if_neg (by decide +kernel), lookup_putF, if_pos rfl]
    · rw [lookup_putF, if_pos rfl]
    · rw [upd_ne nhp, upd_ne nhp, upd_ne nhp]
      exact eh
/-- a made instance: what was there stays -/
theorem made_same {H : Hp} {x dx C : Addr} (h1 : H x = none) (h2 : H dx = none) : Same H (upd (upd H dx (.own x)) x (.ins C dx [])) := fun b o e => by
  rw [upd_ne (ne_of_none e h1), upd_ne (ne_of_none e h2)]
  exact e
/-- the standing without those who are home -/
def away (L : List Grp) : List Grp := L.filter fun x => decide (x.1 ≠ x.2.1)
def spRestless (K : PySem.W.Frag) (CH CR : Addr) : Sp := fun vs H Q _ => ∃ (p hp g : Addr) (fl rm lift : Int) (L : List Grp), vs = [.ref p] ∧ StAt K CH H p hp fl rm lift g ∧ GrpsAt H g L ∧ L.length ≤ 16000000 ∧
  ∀ q g' H', Same H H' → StC K CH CR H' q hp fl rm lift g' → GrpsAt H' g' (away L) → Q (.ref q) H'
theorem paired_filter {F : Nat → V → Prop} {as : List Addr} {L : List Grp} {f : Grp → Bool} {n : Nat} (hF : ∀ i y, F i y → ∃ a, as[i]? = some a ∧ y = V.ref a) (hn : n = L.length) (hl : as.length = n) {ys : List V}
    (h : Paired F ((List.range n).filter fun i => (L[i]?.map f).getD false) ys) {G : Addr → Grp → Prop} (hG : Paired G as L) :
    ∃ bs : List Addr, ys = bs.map V.ref ∧ Paired G bs (L.filter f) := by
  subst hn
  induction hG generalizing ys F with
  | nil =>
    cases h
    exact ⟨[], rfl, .nil⟩
  | @cons a x as L r t ih =>
    have e1 : (List.range (x :: L).length).filter (fun i => ((x :: L)[i]?.map f).getD false) = (if f x then [0] else []) ++ ((List.range L.length).filter fun i => (L[i]?.map f).getD false).map (· + 1) := by
      rw [List.length_cons, List.range_succ_eq_map, List.filter_cons, List.filter_map]
      have e2 : ((fun i => ((x :: L)[i]?.map f).getD false) ∘ Nat.succ) = fun i => (L[i]?.map f).getD false := by
        funext i
        simp
      rw [e2]
      by_cases c : f x = true
      · simp [c]
      · simp [c]
    rw [e1] at h
    have l2 : as.length = L.length := by simpa using hl
    have shift : ∀ {l : List Nat} {ys : List V}, Paired F (l.map (· + 1)) ys → Paired (fun i y => F (i + 1) y) l ys := by
      intro l
      induction l with
      | nil =>
        intro ys q
        cases q
        exact .nil
      | cons m l ih2 =>
        intro ys q
        rw [List.map_cons] at q
        cases q with
        | cons r' t' => exact .cons r' (ih2 t')
    by_cases c : f x = true
    · rw [if_pos c, List.singleton_append] at h
      cases h with
      | cons h0 ht =>
        obtain ⟨a', ea, rfl⟩ := hF _ _ h0
        have ea' : a = a' := by simpa using ea
        subst ea'
        obtain ⟨bs, rfl, q⟩ := ih (F := fun i y => F (i + 1) y) (fun i y z => by
          obtain ⟨b, hb, e⟩ := hF _ _ z
          exact ⟨b, by simpa using hb, e⟩) l2 (shift ht)
        refine ⟨a :: bs, rfl, ?_⟩
        rw [List.filter_cons_of_pos c]
        exact .cons r q
    · rw [if_neg c, List.nil_append] at h
      obtain ⟨bs, rfl, q⟩ := ih (F := fun i y => F (i + 1) y) (fun i y z => by
        obtain ⟨b, hb, e⟩ := hF _ _ z
        exact ⟨b, by simpa using hb, e⟩) l2 (shift h)
      refine ⟨bs, rfl, ?_⟩
      rw [List.filter_cons_of_neg c]
      exact q
end
end Law

namespace Law
open PySem L2 MyB MyR MyD
local macro_rules | `(tactic| walk_at "hp") => `(tactic| first | assumption | exact upd_same | ((repeat rw [upd_ne (by assumption)]); assumption))
local macro_rules | `(tactic| walk_at "sq") => `(tactic| first | assumption | exact sqL (by assumption) | exact sqT (by assumption) | exact sqL upd_same | exact sqT upd_same | exact sqL (by walk_at "hp") | exact sqT (by walk_at "hp"))
local macro_rules | `(tactic| walk_at "rd") => `(tactic| with_reducible (first
  | refine r_seq ?_ | refine r_asg ?_ | refine r_op ?_ | refine r_un ?_
  | (refine' r_var ?rdh ?_; (case rdh => (with_unfolding_all rfl)))
  | refine r_c ?_ | refine r_I0 ?_ | refine r_U ?_ | refine r_eqI ?_ | refine r_neI ?_ | refine r_eqB ?_ | refine r_neB ?_
  | refine r_test ?_ | refine r_tB ?_ | refine r_not ?_ | refine r_and ?_ | refine r_or ?_ | refine r_yes ?_
  | refine r_andV ?_ | refine r_orV ?_ | refine r_notV ?_ | refine r_chain ?_ | refine r_if ?_ | refine r_next ?_ | refine r_ifS ?_
  | refine r_ret ?_ | refine r_drop ?_ | refine r_name ?_ | refine r_sub ?_ | refine r_gCons ?_ | refine r_gNil ?_
  | refine r_cons ?_ | refine r_nil ?_ | refine r_cb ?_ | refine r_call ?_ | refine r_make ?_ | refine r_fld ?_ | refine r_tup ?_ | refine r_lst ?_
  | refine r_par ?_ | refine r_par3 ?_ | refine r_rng1 ?_ | refine r_rng2 ?_ | refine r_for ?_ | refine r_iList ?_ | refine r_iTup ?_ | refine r_lc ?_ | refine r_bm ?_ | refine MyK.r_zip ?_ | refine MyK.r_enum ?_ | refine MyK.r_listRg ?_ | refine MyK.r_max3 ?_ | refine r_fldS ?_
  | refine r_sl ?_ | refine r_noPart ?_ | refine r_part ?_ | refine r_abs ?_ | refine r_int ?_ | refine r_intB ?_ | refine r_max ?_ | refine r_min ?_ | refine r_bl ?_ | refine r_theInt ?_ | refine r_par2 ?_
  | (refine' r_ixL ?rdh ?rdi ?_; (case rdh => (with_unfolding_all (walk_at "sq"))); (case rdi => (with_unfolding_all rfl)))
  | (refine' r_ixT ?rdh ?rdi ?_; (case rdh => (with_unfolding_all (walk_at "sq"))); (case rdi => (with_unfolding_all rfl)))
  | (refine' r_setL ?rdh ?rdi ?_; (case rdh => (with_unfolding_all (walk_at "hp"))); (case rdi => (with_unfolding_all rfl)))
  | (refine' r_lenL ?rdh ?_; (case rdh => (with_unfolding_all (walk_at "sq"))))
  | (refine' r_lenT ?rdh ?_; (case rdh => (with_unfolding_all (walk_at "sq"))))
  | (refine' r_gTup ?rdh ?rdi ?_; (case rdh => (with_unfolding_all (walk_at "sq"))); (case rdi => (with_unfolding_all rfl)))
  | (refine' r_I ?rdh ?_; (case rdh => (with_unfolding_all (first | assumption | decide | exact ⟨by decide, by decide⟩ | exact .inr ⟨by decide, by decide⟩ | exact ⟨by decide, by decide, by decide⟩ | exact ⟨by omega, by omega⟩ | exact .inl ⟨by omega, by omega⟩ | exact .inr ⟨by omega, by omega⟩))))
  | (refine' r_aug ?rdh ?_; (case rdh => (with_unfolding_all rfl)))))
local macro_rules | `(tactic| walk_at "rd*") => `(tactic| (repeat (walk_at "rd")))

section
variable {P : Program} {w : World} {K : PySem.W.Frag} {mg : Str → Option Value} {base : Heap} {CH CS CR : Addr}
theorem first_self (K : PySem.W.Frag) (C : Addr) : PySem.W.notFirst K C (.ref C) = true := by
  unfold PySem.W.notFirst
  rw [beq_self_eq_true, Bool.true_or]
/-- two houses alike -/
def spHEq (K : PySem.W.Frag) (CH : Addr) : Sp := fun vs H Q _ => ∃ (a b : Addr) (fl rm : Int), vs = [.ref a, .ref b] ∧ HouseAt K CH H a fl rm ∧ HouseAt K CH H b fl rm ∧ Q (.bl true) H
theorem E_House (B : Bi mg) (T : Txt K mg CH CS CR) (g_House : mg "House" = some (.ref CH)) (R : MyO.RawE K "House.__eq__" s_House___eq__ CH) : MyO.EqOf P w K mg base 2 CH (spHEq K CH) := by
  refine R.ok (N := N_House___eq__) sc_House___eq__ (fun _ _ _ _ _ _ us hl => match us, hl with | [_, _], _ => rfl) (fun vs H Q E h => ?_) (fun f cdv A outer s H vs Q E hr h => ?_)
  · obtain ⟨a, b, fl, rm, rfl, _⟩ := h
    rfl
  · obtain ⟨a, b, fl, rm, rfl, ha, hb, k⟩ := h
    obtain ⟨dh, fh, eh, l1, l2⟩ := ha.ex
    obtain ⟨dh2, fh2, eh2, l12, l22⟩ := hb.ex
    refine ⟨_, (pss_one (ps_ret (pe_and (pe_callB (C8.call_isC T.iH) (by rfl) B.isinstance (by decide +kernel) (pa_cons (pv 1) (pa_cons (pe_globR rfl g_House) pa_nil))) (pe_and (pe_cmpR op_eq (MyK.pe_fld (K := K) rfl (pv 0) rfl) (MyK.pe_fld (K := K) rfl (pv 1) rfl) (nomark _)) (pe_one (pe_cmpR op_eq (MyK.pe_fld (K := K) rfl (pv 0) rfl) (MyK.pe_fld (K := K) rfl (pv 1) rfl) (nomark _))))))), ?_⟩
    walk_at "rd*"
    refine ⟨b, dh2, fh2, rfl, eh2, ?_⟩
    walk_at "rd*"
    refine iteT ?_
    walk_at "rd*"
    refine ⟨a, CH, dh, fh, _, rfl, eh, ha.cl, ha.nF, l1, ?_⟩
    walk_at "rd*"
    refine ⟨b, CH, dh2, fh2, _, rfl, eh2, hb.cl, hb.nF, l12, ?_⟩
    walk_at "rd*"
    refine ite_yes (by simp) ?_
    walk_at "rd*"
    refine ⟨a, CH, dh, fh, _, rfl, eh, ha.cl, ha.nR, l2, ?_⟩
    walk_at "rd*"
    refine ⟨b, CH, dh2, fh2, _, rfl, eh2, hb.cl, hb.nR, l22, ?_⟩
    walk_at "rd*"
    simpa using k
/-- two standings alike -/
def spSEq (K : PySem.W.Frag) (CH CS : Addr) : Sp := fun vs H Q _ => ∃ (a b Cb ha hb ga gb : Addr) (fl rm lift : Int) (L : List Grp), vs = [.ref a, .ref b] ∧ StAt K CH H a ha fl rm lift ga ∧ StC K CH Cb H b hb fl rm lift gb ∧ GrpsAt H ga L ∧ GrpsAt H gb L ∧
  C8.InsC K Cb ∧ PySem.W.kitOne K (.ref Cb) (.ref CS) = some true ∧ Q (.bl true) H
theorem E_Standing {C : Addr} (B : Bi mg) (g_Standing : mg "Standing" = some (.ref CS)) (R : MyO.RawE K "Standing.__eq__" s_Standing___eq__ C) (E_H : MyO.EqOf P w K mg base 2 CH (spHEq K CH)) : MyO.EqOf P w K mg base 4 C (spSEq K CH CS) := by
  refine R.ok (N := N_Standing___eq__) sc_Standing___eq__ (fun _ _ _ _ _ _ us hl => match us, hl with | [_, _], _ => rfl) (fun vs H Q E h => ?_) (fun f cdv A outer s H vs Q E hr h => ?_)
  · obtain ⟨a, b, Cb, ha, hb, ga, gb, fl, rm, lift, L, rfl, _⟩ := h
    rfl
  · obtain ⟨a, b, Cb, ha, hb, ga, gb, fl, rm, lift, L, rfl, sa, ⟨⟨db, fb, eb⟩, sb⟩, ⟨as1, g1, p1⟩, ⟨as2, g2, p2⟩, ib, kb, k⟩ := h
    have hha := sa.ho
    have hhb := sb.ho
    obtain ⟨dh, fh, eh, _⟩ := hha.ex
    obtain ⟨dh2, fh2, eh2, _⟩ := hhb.ex
    obtain ⟨⟨C1, dx1, fs1, e1, l11, l12, l13, cl1, n11, n12, n13⟩, _⟩ := sa
    obtain ⟨⟨C2, dx2, fs2, e2, l21, l22, l23, cl2, n21, n22, n23⟩, _⟩ := sb
    refine ⟨_, (pss_cons (ps_if (PW.pt (pw_or (pt_not (pt_val (pe_callB (MyO.call_isX (K := K) rfl) (by rfl) B.isinstance (by decide +kernel) (pa_cons (pv 1) (pa_cons (pe_globR rfl g_Standing) pa_nil))))) (pw_or1 (pt_cmpR (MyO.op_neO E_H (hr.mono (by decide))) (MyK.pe_fld (K := K) rfl (pv 0) rfl) (MyK.pe_fld (K := K) rfl (pv 1) rfl) (nomark _)))))
    (pss_one (ps_ret pe_bl))
    pss_nil)
  (pss_one (ps_ret (pe_and (pe_cmpR op_eq (MyK.pe_fld (K := K) rfl (pv 0) rfl) (MyK.pe_fld (K := K) rfl (pv 1) rfl) (nomark _)) (pe_one (pe_cmpR (MyK.op_eqD (K := K) rfl hr.units) (MyK.pe_fld (K := K) rfl (pv 0) rfl) (MyK.pe_fld (K := K) rfl (pv 1) rfl) (nomark _))))))), ?_⟩
    walk_at "rd*"
    refine ⟨b, Cb, CS, db, fb, true, rfl, eb, ib, kb, ?_⟩
    walk_at "rd*"
    refine iteF ?_
    walk_at "rd*"
    refine ⟨a, C1, dx1, fs1, _, rfl, e1, cl1, n11, l11, ?_⟩
    walk_at "rd*"
    refine ⟨b, C2, dx2, fs2, _, rfl, e2, cl2, n21, l21, ?_⟩
    walk_at "rd*"
    refine ⟨ha, dh, fh, hb, CH, dh2, fh2, rfl, rfl, eh, eh2, first_self K CH, ha, hb, fl, rm, rfl, hha, hhb, true, rfl, ?_⟩
    walk_at "rd*"
    refine iteF ?_
    walk_at "rd*"
    refine ⟨a, C1, dx1, fs1, _, rfl, e1, cl1, n12, l12, ?_⟩
    walk_at "rd*"
    refine ⟨b, C2, dx2, fs2, _, rfl, e2, cl2, n22, l22, ?_⟩
    walk_at "rd*"
    refine ite_yes (by simp) ?_
    walk_at "rd*"
    refine ⟨a, C1, dx1, fs1, _, rfl, e1, cl1, n13, l13, ?_⟩
    walk_at "rd*"
    refine ⟨b, C2, dx2, fs2, _, rfl, e2, cl2, n23, l23, ?_⟩
    walk_at "rd*"
    refine r_eqD (.tup (sqT g1) (dpAll_groups p1)) (.tup (sqT g2) (dpAll_groups p2)) (gD_shaped L) ?_
    exact k
end
end Law

namespace Law
open PySem L2 MyB MyR MyD
local macro_rules | `(tactic| walk_at "hp") => `(tactic| first | assumption | exact upd_same | ((repeat rw [upd_ne (by assumption)]); assumption))
local macro_rules | `(tactic| walk_at "sq") => `(tactic| first | assumption | exact sqL (by assumption) | exact sqT (by assumption) | exact sqL upd_same | exact sqT upd_same | exact sqL (by walk_at "hp") | exact sqT (by walk_at "hp"))
local macro_rules | `(tactic| walk_at "rd") => `(tactic| with_reducible (first
  | refine r_seq ?_ | refine r_asg ?_ | refine r_op ?_ | refine r_un ?_
  | (refine' r_var ?rdh ?_; (case rdh => (with_unfolding_all rfl)))
  | refine r_c ?_ | refine r_I0 ?_ | refine r_U ?_ | refine r_eqI ?_ | refine r_neI ?_ | refine r_eqB ?_ | refine r_neB ?_
  | refine r_test ?_ | refine r_tB ?_ | refine r_not ?_ | refine r_and ?_ | refine r_or ?_ | refine r_yes ?_
  | refine r_andV ?_ | refine r_orV ?_ | refine r_notV ?_ | refine r_chain ?_ | refine r_if ?_ | refine r_next ?_ | refine r_ifS ?_
  | refine r_ret ?_ | refine r_drop ?_ | refine r_name ?_ | refine r_sub ?_ | refine r_gCons ?_ | refine r_gNil ?_
  | refine r_cons ?_ | refine r_nil ?_ | refine r_cb ?_ | refine r_call ?_ | refine r_make ?_ | refine r_fld ?_ | refine r_tup ?_ | refine r_lst ?_
  | refine r_par ?_ | refine r_par3 ?_ | refine r_rng1 ?_ | refine r_rng2 ?_ | refine r_for ?_ | refine r_iList ?_ | refine r_iTup ?_ | refine r_lc ?_ | refine r_bm ?_ | refine MyK.r_zip ?_ | refine MyK.r_enum ?_ | refine MyK.r_listRg ?_ | refine MyK.r_max3 ?_ | refine r_fldS ?_
  | refine r_sl ?_ | refine r_noPart ?_ | refine r_part ?_ | refine r_abs ?_ | refine r_int ?_ | refine r_intB ?_ | refine r_max ?_ | refine r_min ?_ | refine r_bl ?_ | refine r_theInt ?_ | refine r_par2 ?_
  | (refine' r_ixL ?rdh ?rdi ?_; (case rdh => (with_unfolding_all (walk_at "sq"))); (case rdi => (with_unfolding_all rfl)))
  | (refine' r_ixT ?rdh ?rdi ?_; (case rdh => (with_unfolding_all (walk_at "sq"))); (case rdi => (with_unfolding_all rfl)))
  | (refine' r_setL ?rdh ?rdi ?_; (case rdh => (with_unfolding_all (walk_at "hp"))); (case rdi => (with_unfolding_all rfl)))
  | (refine' r_lenL ?rdh ?_; (case rdh => (with_unfolding_all (walk_at "sq"))))
  | (refine' r_lenT ?rdh ?_; (case rdh => (with_unfolding_all (walk_at "sq"))))
  | (refine' r_gTup ?rdh ?rdi ?_; (case rdh => (with_unfolding_all (walk_at "sq"))); (case rdi => (with_unfolding_all rfl)))
  | (refine' r_I ?rdh ?_; (case rdh => (with_unfolding_all (first | assumption | decide | exact ⟨by decide, by decide⟩ | exact .inr ⟨by decide, by decide⟩ | exact ⟨by decide, by decide, by decide⟩ | exact ⟨by omega, by omega⟩ | exact .inl ⟨by omega, by omega⟩ | exact .inr ⟨by omega, by omega⟩))))
  | (refine' r_aug ?rdh ?_; (case rdh => (with_unfolding_all rfl)))))
local macro_rules | `(tactic| walk_at "rd*") => `(tactic| (repeat (walk_at "rd")))

/-! ### what is wanted through a gap -/
def upOf (g : Int) (x : Grp) : Int := if x.1 ≤ g ∧ g < x.2.1 then x.2.2 else 0
def dnOf (g : Int) (x : Grp) : Int := if x.2.1 ≤ g ∧ g < x.1 then x.2.2 else 0
def lfOf (g : Int) (x : Grp) : Bool := decide (x.1 ≠ x.2.1 ∧ g < max x.1 x.2.1)
def cUp (L : List Grp) (g : Int) : Int := (L.map (upOf g)).sum
def cDn (L : List Grp) (g : Int) : Int := (L.map (dnOf g)).sum
def cLf (L : List Grp) (g : Int) : Bool := L.any (lfOf g)
theorem cUp_snoc (L : List Grp) (x : Grp) (g : Int) : cUp (L ++ [x]) g = cUp L g + upOf g x := by simp [cUp]
theorem cDn_snoc (L : List Grp) (x : Grp) (g : Int) : cDn (L ++ [x]) g = cDn L g + dnOf g x := by simp [cDn]
theorem cLf_snoc (L : List Grp) (x : Grp) (g : Int) : cLf (L ++ [x]) g = (cLf L g || lfOf g x) := by simp [cLf]
theorem take_snoc {α : Type} {l : List α} {i : Nat} {x : α} (h : l[i]? = some x) : l.take (i + 1) = l.take i ++ [x] := by
  rw [List.take_add_one, h]
  rfl
section
variable {P : Program} {w : World} {K : PySem.W.Frag} {mg : Str → Option Value} {base : Heap} {CH CS CR : Addr}
end
end Law

namespace Law
open PySem L2 MyB MyR MyD
local macro_rules | `(tactic| walk_at "hp") => `(tactic| first | assumption | exact upd_same | ((repeat rw [upd_ne (by assumption)]); assumption))
local macro_rules | `(tactic| walk_at "sq") => `(tactic| first | assumption | exact sqL (by assumption) | exact sqT (by assumption) | exact sqL upd_same | exact sqT upd_same | exact sqL (by walk_at "hp") | exact sqT (by walk_at "hp"))
local macro_rules | `(tactic| walk_at "rd") => `(tactic| with_reducible (first
  | refine r_seq ?_ | refine r_asg ?_ | refine r_op ?_ | refine r_un ?_
  | (refine' r_var ?rdh ?_; (case rdh => (with_unfolding_all rfl)))
  | refine r_c ?_ | refine r_I0 ?_ | refine r_U ?_ | refine r_eqI ?_ | refine r_neI ?_ | refine r_eqB ?_ | refine r_neB ?_
  | refine r_test ?_ | refine r_tB ?_ | refine r_not ?_ | refine r_and ?_ | refine r_or ?_ | refine r_yes ?_
  | refine r_andV ?_ | refine r_orV ?_ | refine r_notV ?_ | refine r_chain ?_ | refine r_if ?_ | refine r_next ?_ | refine r_ifS ?_
  | refine r_ret ?_ | refine r_drop ?_ | refine r_name ?_ | refine r_sub ?_ | refine r_gCons ?_ | refine r_gNil ?_
  | refine r_cons ?_ | refine r_nil ?_ | refine r_cb ?_ | refine r_call ?_ | refine r_make ?_ | refine r_fld ?_ | refine r_tup ?_ | refine r_lst ?_
  | refine r_par ?_ | refine r_par3 ?_ | refine r_rng1 ?_ | refine r_rng2 ?_ | refine r_for ?_ | refine r_iList ?_ | refine r_iTup ?_ | refine r_lc ?_ | refine r_bm ?_ | refine MyK.r_zip ?_ | refine MyK.r_enum ?_ | refine MyK.r_listRg ?_ | refine MyK.r_max3 ?_ | refine r_fldS ?_
  | refine r_sl ?_ | refine r_noPart ?_ | refine r_part ?_ | refine r_abs ?_ | refine r_int ?_ | refine r_intB ?_ | refine r_max ?_ | refine r_min ?_ | refine r_bl ?_ | refine r_theInt ?_ | refine r_par2 ?_
  | (refine' r_ixL ?rdh ?rdi ?_; (case rdh => (with_unfolding_all (walk_at "sq"))); (case rdi => (with_unfolding_all rfl)))
  | (refine' r_ixT ?rdh ?rdi ?_; (case rdh => (with_unfolding_all (walk_at "sq"))); (case rdi => (with_unfolding_all rfl)))
  | (refine' r_setL ?rdh ?rdi ?_; (case rdh => (with_unfolding_all (walk_at "hp"))); (case rdi => (with_unfolding_all rfl)))
  | (refine' r_lenL ?rdh ?_; (case rdh => (with_unfolding_all (walk_at "sq"))))
  | (refine' r_lenT ?rdh ?_; (case rdh => (with_unfolding_all (walk_at "sq"))))
  | (refine' r_gTup ?rdh ?rdi ?_; (case rdh => (with_unfolding_all (walk_at "sq"))); (case rdi => (with_unfolding_all rfl)))
  | (refine' r_I ?rdh ?_; (case rdh => (with_unfolding_all (first | assumption | decide | exact ⟨by decide, by decide⟩ | exact .inr ⟨by decide, by decide⟩ | exact ⟨by decide, by decide, by decide⟩ | exact ⟨by omega, by omega⟩ | exact .inl ⟨by omega, by omega⟩ | exact .inr ⟨by omega, by omega⟩))))
  | (refine' r_aug ?rdh ?_; (case rdh => (with_unfolding_all rfl)))))
local macro_rules | `(tactic| walk_at "rd*") => `(tactic| (repeat (walk_at "rd")))

def homeL (L : List Grp) : Bool := L.all fun x => decide (x.1 = x.2.1)
section
variable {P : Program} {w : World} {K : PySem.W.Frag} {mg : Str → Option Value} {base : Heap} {CH CS CR : Addr}
end
end Law

namespace Law
open PySem L2 MyB MyR MyD
local macro_rules | `(tactic| walk_at "hp") => `(tactic| first | assumption | exact upd_same | ((repeat rw [upd_ne (by assumption)]); assumption))
local macro_rules | `(tactic| walk_at "sq") => `(tactic| first | assumption | exact sqL (by assumption) | exact sqT (by assumption) | exact sqL upd_same | exact sqT upd_same | exact sqL (by walk_at "hp") | exact sqT (by walk_at "hp"))
local macro_rules | `(tactic| walk_at "rd") => `(tactic| with_reducible (first
  | refine r_seq ?_ | refine r_asg ?_ | refine r_op ?_ | refine r_un ?_
  | (refine' r_var ?rdh ?_; (case rdh => (with_unfolding_all rfl)))
  | refine r_c ?_ | refine r_I0 ?_ | refine r_U ?_ | refine r_eqI ?_ | refine r_neI ?_ | refine r_eqB ?_ | refine r_neB ?_
  | refine r_test ?_ | refine r_tB ?_ | refine r_not ?_ | refine r_and ?_ | refine r_or ?_ | refine r_yes ?_
  | refine r_andV ?_ | refine r_orV ?_ | refine r_notV ?_ | refine r_chain ?_ | refine r_if ?_ | refine r_next ?_ | refine r_ifS ?_
  | refine r_ret ?_ | refine r_drop ?_ | refine r_name ?_ | refine r_sub ?_ | refine r_gCons ?_ | refine r_gNil ?_
  | refine r_cons ?_ | refine r_nil ?_ | refine r_cb ?_ | refine r_call ?_ | refine r_make ?_ | refine r_fld ?_ | refine r_tup ?_ | refine r_lst ?_
  | refine r_par ?_ | refine r_par3 ?_ | refine r_rng1 ?_ | refine r_rng2 ?_ | refine r_for ?_ | refine r_iList ?_ | refine r_iTup ?_ | refine r_lc ?_ | refine r_bm ?_ | refine MyK.r_zip ?_ | refine MyK.r_enum ?_ | refine MyK.r_listRg ?_ | refine MyK.r_max3 ?_ | refine r_fldS ?_
  | refine r_sl ?_ | refine r_noPart ?_ | refine r_part ?_ | refine r_abs ?_ | refine r_int ?_ | refine r_intB ?_ | refine r_max ?_ | refine r_min ?_ | refine r_bl ?_ | refine r_theInt ?_ | refine r_par2 ?_
  | (refine' r_ixL ?rdh ?rdi ?_; (case rdh => (with_unfolding_all (walk_at "sq"))); (case rdi => (with_unfolding_all rfl)))
  | (refine' r_ixT ?rdh ?rdi ?_; (case rdh => (with_unfolding_all (walk_at "sq"))); (case rdi => (with_unfolding_all rfl)))
  | (refine' r_setL ?rdh ?rdi ?_; (case rdh => (with_unfolding_all (walk_at "hp"))); (case rdi => (with_unfolding_all rfl)))
  | (refine' r_lenL ?rdh ?_; (case rdh => (with_unfolding_all (walk_at "sq"))))
  | (refine' r_lenT ?rdh ?_; (case rdh => (with_unfolding_all (walk_at "sq"))))
  | (refine' r_gTup ?rdh ?rdi ?_; (case rdh => (with_unfolding_all (walk_at "sq"))); (case rdi => (with_unfolding_all rfl)))
  | (refine' r_I ?rdh ?_; (case rdh => (with_unfolding_all (first | assumption | decide | exact ⟨by decide, by decide⟩ | exact .inr ⟨by decide, by decide⟩ | exact ⟨by decide, by decide, by decide⟩ | exact ⟨by omega, by omega⟩ | exact .inl ⟨by omega, by omega⟩ | exact .inr ⟨by omega, by omega⟩))))
  | (refine' r_aug ?rdh ?_; (case rdh => (with_unfolding_all rfl)))))
local macro_rules | `(tactic| walk_at "rd*") => `(tactic| (repeat (walk_at "rd")))

theorem ints_fn {L : List Grp} {f : Grp → Int} {ys : List V} (hl : ys.length = L.length) (h : ∀ (i : Nat) (y : V), ys[i]? = some y → ∃ x, L[i]? = some x ∧ y = V.int (f x)) : ys = (L.map f).map V.int := by
  apply List.ext_getElem?
  intro i
  cases hy : ys[i]? with
  | none =>
    have : L[i]? = none := by
      rw [List.getElem?_eq_none_iff] at hy ⊢
      omega
    rw [List.getElem?_map, List.getElem?_map, this]
    rfl
  | some y =>
    obtain ⟨x, hx, rfl⟩ := h i y hy
    rw [List.getElem?_map, List.getElem?_map, hx]
    rfl
theorem paired_pick {F : Nat → V → Prop} {L : List Grp} {f : Grp → Bool} {n : Nat} {G : Addr → Grp → Prop} (hF : ∀ i y, F i y → ∃ a x, y = V.ref a ∧ L[i]? = some x ∧ G a x) (hn : n = L.length) {ys : List V}
    (h : Paired F ((List.range n).filter fun i => (L[i]?.map f).getD false) ys) : ∃ bs : List Addr, ys = bs.map V.ref ∧ Paired G bs (L.filter f) := by
  subst hn
  induction L generalizing ys F with
  | nil =>
    cases h
    exact ⟨[], rfl, .nil⟩
  | cons x L ih =>
    have e1 : (List.range (x :: L).length).filter (fun i => ((x :: L)[i]?.map f).getD false) = (if f x then [0] else []) ++ ((List.range L.length).filter fun i => (L[i]?.map f).getD false).map (· + 1) := by
      rw [List.length_cons, List.range_succ_eq_map, List.filter_cons, List.filter_map]
      have e2 : ((fun i => ((x :: L)[i]?.map f).getD false) ∘ Nat.succ) = fun i => (L[i]?.map f).getD false := by
        funext i
        simp
      rw [e2]
      by_cases c : f x = true
      · simp [c]
      · simp [c]
    rw [e1] at h
    have shift : ∀ {l : List Nat} {ys : List V}, Paired F (l.map (· + 1)) ys → Paired (fun i y => F (i + 1) y) l ys := by
      intro l
      induction l with
      | nil =>
        intro ys q
        cases q
        exact .nil
      | cons m l ih2 =>
        intro ys q
        rw [List.map_cons] at q
        cases q with
        | cons r' t' => exact .cons r' (ih2 t')
    have go : ∀ {ys : List V}, Paired (fun i y => F (i + 1) y) ((List.range L.length).filter fun i => (L[i]?.map f).getD false) ys → ∃ bs : List Addr, ys = bs.map V.ref ∧ Paired G bs (L.filter f) := fun q =>
      ih (F := fun i y => F (i + 1) y) (fun i y z => by
        obtain ⟨a, x', e, ex, g⟩ := hF _ _ z
        exact ⟨a, x', e, by simpa using ex, g⟩) q
    by_cases c : f x = true
    · rw [if_pos c, List.singleton_append] at h
      cases h with
      | cons h0 ht =>
        obtain ⟨a', x', rfl, ex, g⟩ := hF _ _ h0
        have ex' : x = x' := by simpa using ex
        subst ex'
        obtain ⟨bs, rfl, q⟩ := go (shift ht)
        refine ⟨a' :: bs, rfl, ?_⟩
        rw [List.filter_cons_of_pos c]
        exact .cons g q
    · rw [if_neg c, List.nil_append] at h
      obtain ⟨bs, rfl, q⟩ := go (shift h)
      refine ⟨bs, rfl, ?_⟩
      rw [List.filter_cons_of_neg c]
      exact q
/-- the people standing at a floor, by the floor they want -/
def wantKv (L : List Grp) (fl : Int) : List (Key × V) := (L.filter fun x => decide (x.1 = fl)).map fun x => (Sum.inl x.2.1, V.int x.2.2)
def wantsK (L : List Grp) (fl : Int) : List (Key × V) := mergeK [] (wantKv L fl)
theorem mergeK_snoc {kvs l : List (Key × V)} {p : Key × V} : mergeK kvs (l ++ [p]) = putK (mergeK kvs l) p.1 p.2 := by
  unfold mergeK
  rw [List.foldl_append]
  rfl
theorem mergeK_len : ∀ {l kvs : List (Key × V)}, (mergeK kvs l).length ≤ kvs.length + l.length
  | [], _ => Nat.le_refl _
  | p :: l, kvs => by
    have h := mergeK_len (l := l) (kvs := putK kvs p.1 p.2)
    have h2 := length_putK kvs p.1 p.2
    show (mergeK (putK kvs p.1 p.2) l).length ≤ _
    rw [List.length_cons]
    omega
theorem wantsK_len {L : List Grp} {fl : Int} : (wantsK L fl).length ≤ L.length := by
  have h := mergeK_len (l := wantKv L fl) (kvs := [])
  have h2 : (wantKv L fl).length ≤ L.length := by
    unfold wantKv
    rw [List.length_map]
    exact List.length_filter_le _ _
  unfold wantsK
  simp at h
  omega
theorem wantsK_take {L : List Grp} {fl : Int} {i : Nat} {x : Grp} (h : L[i]? = some x) : wantsK (L.take (i + 1)) fl = if x.1 = fl then putK (wantsK (L.take i) fl) (Sum.inl x.2.1) (V.int x.2.2) else wantsK (L.take i) fl := by
  have e : L.take (i + 1) = L.take i ++ [x] := by rw [List.take_succ, h]; rfl
  unfold wantsK wantKv
  rw [e, List.filter_append, List.map_append]
  by_cases c : x.1 = fl
  · rw [if_pos c, List.filter_cons_of_pos (by simpa using c)]
    exact mergeK_snoc
  · rw [if_neg c, List.filter_cons_of_neg (by simpa using c)]
    rw [List.filter_nil, List.map_nil, List.append_nil]
/-- keys stay apart, values stay whole -/
def OkK (kvs : List (Key × V)) : Prop := (kvs.map (·.1)).Nodup ∧ ∀ p ∈ kvs, ∃ n : Int, p.2 = V.int n
theorem okK_put {kvs : List (Key × V)} {k : Key} {n : Int} (h : OkK kvs) : OkK (putK kvs k (.int n)) := by
  by_cases c : valV kvs k = none
  · refine ⟨nd_putK _ h.1 c, fun p hp => ?_⟩
    rw [putK_new _ c] at hp
    rcases List.mem_append.mp hp with q | q
    · exact h.2 p q
    · have := List.mem_singleton.mp q
      exact ⟨n, by rw [this]⟩
  · have e : putK kvs k (V.int n) = kvs.map fun kv => if kv.1 = k then (kv.1, V.int n) else kv := by
      unfold putK
      rw [valV_any]
      have : (valV kvs k).isSome = true := by
        cases h : valV kvs k with
        | none => exact absurd h c
        | some _ => rfl
      rw [if_pos this]
    rw [e]
    refine ⟨?_, fun p hp => ?_⟩
    · have : (kvs.map fun kv => if kv.1 = k then (kv.1, V.int n) else kv).map (·.1) = kvs.map (·.1) := by
        rw [List.map_map]
        apply List.map_congr_left
        intro kv _
        show (if kv.1 = k then (kv.1, V.int n) else kv).1 = kv.1
        split <;> rfl
      rw [this]
      exact h.1
    · obtain ⟨q, hq, e⟩ := List.mem_map.mp hp
      split at e
      · exact ⟨n, by rw [← e]⟩
      · rw [← e]
        exact h.2 q hq
theorem okK_merge : ∀ {l : List Grp} {kvs : List (Key × V)}, OkK kvs → OkK (mergeK kvs (l.map fun x => (Sum.inl x.2.1, V.int x.2.2)))
  | [], _, h => h
  | x :: l, _, h => okK_merge (l := l) (okK_put h)
theorem okK_wants (L : List Grp) (fl : Int) : OkK (wantsK L fl) := okK_merge ⟨List.nodup_nil, fun p hp => by cases hp⟩
theorem valV_mem : ∀ {kvs : List (Key × V)}, (kvs.map (·.1)).Nodup → ∀ p ∈ kvs, valV kvs p.1 = some p.2
  | [], _, p, hp => by cases hp
  | q :: r, h, p, hp => by
    rw [List.map_cons, List.nodup_cons] at h
    rcases List.mem_cons.mp hp with e | e
    · rw [e]
      exact valV_pos rfl
    · rw [valV_neg (fun c => h.1 (by rw [c]; exact List.mem_map_of_mem e))]
      exact valV_mem h.2 p e
theorem okK_same {kvs : List (Key × V)} (h : OkK kvs) : ∀ p ∈ kvs, valV kvs p.1 = some p.2 ∧ flatB p.2 = true := fun p hp => by
  obtain ⟨n, e⟩ := h.2 p hp
  exact ⟨valV_mem h.1 p hp, by rw [e]; rfl⟩
theorem paired_map {K : PySem.W.Frag} {H1 : Hp} : ∀ {bs : List Addr} {M : List Grp}, Paired (fun a x => H1 a = some (.tup [.int x.2.1, .int x.2.2])) bs M → Paired (fun p (kv : Key × V) => SqT K H1 p [kV kv.1, kv.2]) bs (M.map fun x => (Sum.inl x.2.1, V.int x.2.2))
  | _, _, .nil => .nil
  | _, _, .cons h t => .cons (sqT h) (paired_map t)
section
variable {P : Program} {w : World} {K : PySem.W.Frag} {mg : Str → Option Value} {base : Heap} {CH CS CR : Addr}
def spPeople (K : PySem.W.Frag) (CH : Addr) : Sp := fun vs H Q _ => ∃ (p hp g : Addr) (fl rm lift : Int) (L : List Grp), vs = [.ref p] ∧ StAt K CH H p hp fl rm lift g ∧ GrpsAt H g L ∧ L.length ≤ 16000000 ∧
  ∀ H', Same H H' → Q (.int (L.map fun x => x.2.2).sum) H'
theorem D_people (B : Bi mg) (R_people : Raw K mg "people" s_people) : IsDef P w K mg base 2 "people" ["standing"] (spPeople K CH) := by
  refine R_people.ok (N := N_people) (ps := ["standing"]) sc_people (fun _ _ _ _ _ _ us hl => match us, hl with | [_], _ => rfl) (fun vs H Q E h => ?_) (fun f cdv A outer s H vs Q E hr h => ?_)
  · obtain ⟨p, hp, g, fl, rm, lift, L, rfl, _⟩ := h
    rfl
  · obtain ⟨p, hp, g, fl, rm, lift, L, rfl, ⟨⟨C, dx, fs, e, l1, l2, l3, cl, n1, n2, n3⟩, hh⟩, ⟨as, hg, hpa⟩, hz, k⟩ := h
    refine ⟨_, (pss_one (ps_ret (pe_callB (MyK.cr_sum (K := K) rfl rfl) (by rfl) B.sum (by decide +kernel) (pa_cons (pe_lc (own := [("stand", 1), ("want", 2), ("many", 3)]) rfl sc_people.nd (MyK.pi_tup (K := K) rfl (MyK.pe_fld (K := K) rfl (pv 0) rfl)) (blkOk_by (own := [("stand", 1), ("want", 2), ("many", 3)]) (N := N_people) (sc := defScope s_people) (by decide +kernel)) (fun _ _ _ _ _ => (MyK.pg_tup (K := K) (n := 3) rfl rfl (pgs_cons (pg_name (i := 1) sc_people.nd rfl (Or.inl rfl)) (pgs_cons (pg_name (i := 2) sc_people.nd rfl (Or.inl rfl)) (pgs_cons (pg_name (i := 3) sc_people.nd rfl (Or.inl rfl)) pgs_nil))))) (fun _ _ _ _ _ => pts_nil) (fun _ _ _ _ _ => (pv 3))) pa_nil)))), ?_⟩
    walk_at "rd*"
    refine ⟨p, C, dx, fs, _, rfl, e, cl, n3, l3, ?_⟩
    refine r_tup1 (sqT hg) ?_
    intro D hD
    refine lc_map walk_tup hD (by rw [List.length_map, hpa.length]; omega) (fun H' s => sqT (s _ _ hg)) (fun i v _ => ∃ x, L[i]? = some x ∧ v = V.int x.2.2) (fun _ _ _ _ _ h => h) ?_ ?_
    · rintro i x H2 H3 hi s2 ⟨rfl, hx⟩ Add hAdd
      obtain ⟨a, z, rfl, hz, ha⟩ := GrpsAt.at (p := g) hpa hx
      refine r_gTup (xs := [.int z.1, .int z.2.1, .int z.2.2]) (sqT (s2 _ _ ha)) rfl ?_
      walk_at "rd*"
      refine ⟨rfl, ?_⟩
      walk_at "rd*"
      exact hAdd _ _ (Same.refl _) ⟨z, hz, rfl⟩
    · intro H2 ys s2 h2 hl hv
      rw [ints_fn (by rw [hl, List.length_map, hpa.length]) hv] at h2
      walk_at "rd*"
      exact r_sum (sqL h2) (k H2 s2)
def spWants (K : PySem.W.Frag) (CH : Addr) : Sp := fun vs H Q _ => ∃ (p hp g : Addr) (fl rm lift f : Int) (L : List Grp), vs = [.ref p, .int f] ∧ StAt K CH H p hp fl rm lift g ∧ GrpsAt H g L ∧ L.length ≤ 16000000 ∧
  ∀ D H', H D = none → Same H H' → H' D = some (.dK (wantsK L f)) → Q (.ref D) H'
theorem D_wants_at (B : Bi mg) (R_wants_at : Raw K mg "wants_at" s_wants_at) : IsDef P w K mg base 2 "wants_at" ["standing", "floor"] (spWants K CH) := by
  refine R_wants_at.ok (N := N_wants_at) (ps := ["standing", "floor"]) sc_wants_at (fun _ _ _ _ _ _ us hl => match us, hl with | [_, _], _ => rfl) (fun vs H Q E h => ?_) (fun f cdv A outer s H vs Q E hr h => ?_)
  · obtain ⟨p, hp, g, fl, rm, lift, f, L, rfl, _⟩ := h
    rfl
  · obtain ⟨p, hp, g, fl, rm, lift, f, L, rfl, ⟨⟨C, dx, fs, e, l1, l2, l3, cl, n1, n2, n3⟩, hh⟩, ⟨as, hg, hpa⟩, hz, k⟩ := h
    have hlen : (as.map V.ref).length = L.length := by rw [List.length_map, hpa.length]
    refine ⟨_, (pss_one (ps_ret (pe_dc (own := [("stand", 2), ("want", 3), ("many", 4)]) rfl sc_wants_at.nd (MyK.pi_tup (K := K) rfl (MyK.pe_fld (K := K) rfl (pv 0) rfl)) (blkOk_by (own := [("stand", 2), ("want", 3), ("many", 4)]) (N := N_wants_at) (sc := defScope s_wants_at) (by decide +kernel)) (fun _ _ _ _ _ => (MyK.pg_tup (K := K) (n := 3) rfl rfl (pgs_cons (pg_name (i := 2) sc_wants_at.nd rfl (Or.inl rfl)) (pgs_cons (pg_name (i := 3) sc_wants_at.nd rfl (Or.inl rfl)) (pgs_cons (pg_name (i := 4) sc_wants_at.nd rfl (Or.inl rfl)) pgs_nil))))) (fun _ _ _ _ _ => (pts_one (pt_cmpR op_eq (pv 2) (pv 1) (nomark _)))) (fun _ _ _ _ _ => (pv 3)) (fun _ _ _ _ _ => (pv 4))))), ?_⟩
    walk_at "rd*"
    unfold tDc
    walk_at "rd*"
    refine ⟨p, C, dx, fs, _, rfl, e, cl, n3, l3, ?_⟩
    refine r_tup1 (sqT hg) ?_
    intro D hD
    refine dc_tup (xs := as.map V.ref) (fun i H' => Same H H' ∧ H' D = some (.dK (wantsK (L.take i) f))) ⟨Same.new0 hD, upd_same⟩ (fun i H' _ q => sqT (q.1 _ _ hg)) ?_ ?_
    · rintro i x H2 hx ⟨s2, h2⟩
      obtain ⟨a, z, rfl, hz', ha⟩ := GrpsAt.at (p := g) hpa hx
      refine r_gTup (xs := [.int z.1, .int z.2.1, .int z.2.2]) (sqT (s2 _ _ ha)) rfl ?_
      walk_at "rd*"
      refine ⟨rfl, ?_⟩
      walk_at "rd*"
      refine ite_dec (fun c => ?_) (fun c => ?_)
      · walk_at "rd*"
        refine ⟨wantsK (L.take i) f, Sum.inl z.2.1, rfl, h2, ?_, ?_, ?_⟩
        · have := wantsK_len (L := L.take i) (fl := f)
          have h3 : (L.take i).length ≤ L.length := by rw [List.length_take]; omega
          unfold sizeLine
          omega
        · exact fun b o eb => by rw [upd_ne (fun q => by rw [q] at eb; rw [hD] at eb; cases eb)]; exact s2 _ _ eb
        · rw [upd_same, wantsK_take hz', if_pos c]
      · exact ⟨s2, by rw [wantsK_take hz', if_neg c]; exact h2⟩
    · rintro H2 ⟨s2, h2⟩
      rw [hlen, List.take_length] at h2
      walk_at "rd*"
      exact k D H2 hD s2 h2
end
end Law

namespace Law
open PySem L2 MyB MyR MyD
local macro_rules | `(tactic| walk_at "hp") => `(tactic| first | assumption | exact upd_same | ((repeat rw [upd_ne (by assumption)]); assumption))
local macro_rules | `(tactic| walk_at "sq") => `(tactic| first | assumption | exact sqL (by assumption) | exact sqT (by assumption) | exact sqL upd_same | exact sqT upd_same | exact sqL (by walk_at "hp") | exact sqT (by walk_at "hp"))
local macro_rules | `(tactic| walk_at "rd") => `(tactic| with_reducible (first
  | refine r_seq ?_ | refine r_asg ?_ | refine r_op ?_ | refine r_un ?_
  | (refine' r_var ?rdh ?_; (case rdh => (with_unfolding_all rfl)))
  | refine r_c ?_ | refine r_I0 ?_ | refine r_U ?_ | refine r_eqI ?_ | refine r_neI ?_ | refine r_eqB ?_ | refine r_neB ?_
  | refine r_test ?_ | refine r_tB ?_ | refine r_not ?_ | refine r_and ?_ | refine r_or ?_ | refine r_yes ?_
  | refine r_andV ?_ | refine r_orV ?_ | refine r_notV ?_ | refine r_chain ?_ | refine r_if ?_ | refine r_next ?_ | refine r_ifS ?_
  | refine r_ret ?_ | refine r_drop ?_ | refine r_name ?_ | refine r_sub ?_ | refine r_gCons ?_ | refine r_gNil ?_
  | refine r_cons ?_ | refine r_nil ?_ | refine r_cb ?_ | refine r_call ?_ | refine r_make ?_ | refine r_fld ?_ | refine r_tup ?_ | refine r_lst ?_
  | refine r_par ?_ | refine r_par3 ?_ | refine r_rng1 ?_ | refine r_rng2 ?_ | refine r_for ?_ | refine r_iList ?_ | refine r_iTup ?_ | refine r_lc ?_ | refine r_bm ?_ | refine MyK.r_zip ?_ | refine MyK.r_enum ?_ | refine MyK.r_listRg ?_ | refine MyK.r_max3 ?_ | refine r_fldS ?_
  | refine r_sl ?_ | refine r_noPart ?_ | refine r_part ?_ | refine r_abs ?_ | refine r_int ?_ | refine r_intB ?_ | refine r_max ?_ | refine r_min ?_ | refine r_bl ?_ | refine r_theInt ?_ | refine r_par2 ?_
  | (refine' r_ixL ?rdh ?rdi ?_; (case rdh => (with_unfolding_all (walk_at "sq"))); (case rdi => (with_unfolding_all rfl)))
  | (refine' r_ixT ?rdh ?rdi ?_; (case rdh => (with_unfolding_all (walk_at "sq"))); (case rdi => (with_unfolding_all rfl)))
  | (refine' r_setL ?rdh ?rdi ?_; (case rdh => (with_unfolding_all (walk_at "hp"))); (case rdi => (with_unfolding_all rfl)))
  | (refine' r_lenL ?rdh ?_; (case rdh => (with_unfolding_all (walk_at "sq"))))
  | (refine' r_lenT ?rdh ?_; (case rdh => (with_unfolding_all (walk_at "sq"))))
  | (refine' r_gTup ?rdh ?rdi ?_; (case rdh => (with_unfolding_all (walk_at "sq"))); (case rdi => (with_unfolding_all rfl)))
  | (refine' r_I ?rdh ?_; (case rdh => (with_unfolding_all (first | assumption | decide | exact ⟨by decide, by decide⟩ | exact .inr ⟨by decide, by decide⟩ | exact ⟨by decide, by decide, by decide⟩ | exact ⟨by omega, by omega⟩ | exact .inl ⟨by omega, by omega⟩ | exact .inr ⟨by omega, by omega⟩))))
  | (refine' r_aug ?rdh ?_; (case rdh => (with_unfolding_all rfl)))))
local macro_rules | `(tactic| walk_at "rd*") => `(tactic| (repeat (walk_at "rd")))

theorem pairedAt {F : Addr → Grp → Prop} {as : List Addr} {L : List Grp} (h : Paired F as L) : ∀ {i : Nat} {a : Addr}, as[i]? = some a → ∃ x, L[i]? = some x ∧ F a x := by
  induction h with
  | nil =>
    intro i a e
    simp at e
  | cons r t ih =>
    intro i a e
    cases i with
    | zero =>
      simp at e
      subst e
      exact ⟨_, rfl, r⟩
    | succ i =>
      obtain ⟨x, e1, e2⟩ := ih (i := i) (a := a) (by simpa using e)
      exact ⟨x, by simpa using e1, e2⟩
/-- those who are there -/
def there (L : List Grp) : List Grp := L.filter fun x => decide (0 < x.2.2)
section
variable {P : Program} {w : World} {K : PySem.W.Frag} {mg : Str → Option Value} {base : Heap} {CH CS CR : Addr}
/-- raw_standing(house, lift, known): the pairs that hold somebody, sorted -/
def spRawSt (K : PySem.W.Frag) (CH CR : Addr) : Sp := fun vs H Q _ => ∃ (hp d : Addr) (fl rm lift : Int) (L0 : List Grp), vs = [.ref hp, .int lift, .ref d] ∧ HouseAt K CH H hp fl rm ∧ H d = some (.dT (L0.map enc)) ∧ (L0.map pr).Nodup ∧ L0.length ≤ 16000000 ∧
  ∀ x g L H', Same H H' → StC K CH CR H' x hp fl rm lift g → GrpsAt H' g L → L.Perm (there L0) → L.Pairwise ascP → Q (.ref x) H'
theorem D_raw_standing (B : Bi mg) (R_raw_standing : Raw K mg "raw_standing" s_raw_standing) (M_RawStanding : IsMake P w K mg base 2 "RawStanding" CR ["self", "house", "lift", "groups"] (spRaw K CH CR)) :
    IsDef P w K mg base 4 "raw_standing" ["house", "lift", "known"] (spRawSt K CH CR) := by
  refine R_raw_standing.ok (N := N_raw_standing) (ps := ["house", "lift", "known"]) sc_raw_standing (fun _ _ _ _ _ _ us hl => match us, hl with | [_, _, _], _ => rfl) (fun vs H Q E h => ?_) (fun f cdv A outer s H vs Q E hr h => ?_)
  · obtain ⟨hp, d, fl, rm, lift, L0, rfl, _⟩ := h
    rfl
  · obtain ⟨hp, d, fl, rm, lift, L0, rfl, hh, hd, nd, hz, k⟩ := h
    have hu := hu_of hr
    refine ⟨_, (pss_cons (ps_lock (ps_setLc (i := 3) (own := [("pair", 4)]) rfl sc_raw_standing.nd rfl rfl (sw_true rfl rfl rfl (by decide +kernel)) (pi_keys (pv 2)) (blkOk_by (own := [("pair", 4)]) (N := N_raw_standing) (sc := defScope s_raw_standing) (by decide +kernel)) (fun _ _ _ _ _ => (pg_name (i := 4) sc_raw_standing.nd rfl (Or.inl rfl))) (fun _ _ _ _ _ => (pts_one (pt_cmpR op_gt (pe_dget hu (pv 2) (pv 4) (fun _ _ => rfl)) pe_int (nomark _)))) (fun _ _ _ _ _ => (pe_op (MyK.op_catT (K := K) rfl) (pv 4) (pe_tup (pa_cons (pe_dget hu (pv 2) (pv 4) (fun _ _ => rfl)) pa_nil))))))
  (pss_one (ps_ret (pe_makeD M_RawStanding (hr.mono (by decide)) rfl (pa_cons (pv 0) (pa_cons (pv 1) (pa_cons (pe_callTy (MyK.q_tup (K := K) rfl) (by rfl) B.tuple (by decide +kernel) (pa_cons (pe_callB (MyK.cr_sortedTI (K := K) rfl) (by rfl) B.sorted (by decide +kernel) (pa_cons (pv 3) pa_nil)) pa_nil)) pa_nil))))))), ?_⟩
    walk_at "rd*"
    refine ⟨d, _, hd, trivial, fun od => ?_⟩
    have hf : (upd H d (.frz od (.dT (L0.map enc)))) d = some (.frz od (.dT (L0.map enc))) := upd_same
    generalize ef : upd H d (.frz od (.dT (L0.map enc))) = Hf at hf
    walk_at "rd*"
    refine ⟨_, rfl, d, od, rfl, .inr ⟨_, hf, ?_⟩⟩
    intro D hD
    have hDd : D ≠ d := fun e => by
      rw [e, hf] at hD
      cases hD
    refine lc_filter walk_keysT hD (by rw [List.length_map]; exact hz) (fun H' s => s _ _ hf) (fun i => (L0[i]?.map fun x => decide (0 < x.2.2)).getD false) (fun m v H' => ∃ t x, v = V.ref t ∧ L0[m]? = some x ∧ H' t = some (.tup (gv x))) ?_ ?_ ?_
    · rintro m v H1 H2 s ⟨t, x, e1, e2, e3⟩
      exact ⟨t, x, e1, e2, s _ _ e3⟩
    · rintro m x H1 H2 hm s1 ⟨rfl, ke, va, q, e1, rfl, hq⟩ Add Nx hAdd hNx
      rw [List.getElem?_map] at e1
      obtain ⟨x, hx, e2⟩ := Option.map_eq_some_iff.mp e1
      have ek : ke = [.inl x.1, .inl x.2.1] := (congrArg Prod.fst e2).symm
      subst ek
      have hget : DGet H2 d (.ref q) (some (.int x.2.2)) := .inr ⟨_, [.inl x.1, .inl x.2.1], q, .inr ⟨od, s1 _ _ hf⟩, rfl, hq, (valV_enc nd hx).symm⟩
      walk_at "rd*"
      refine ⟨rfl, ?_⟩
      walk_at "rd*"
      refine ⟨_, rfl, _, rfl, d, .int x.2.2, rfl, hget, ?_⟩
      walk_at "rd*"
      have ef2 : (L0[m]?.map fun x => decide (0 < x.2.2)).getD false = decide (0 < x.2.2) := by
        rw [hx]
        rfl
      rw [show decide (x.2.2 > 0) = (L0[m]?.map fun x => decide (0 < x.2.2)).getD false from ef2.symm]
      refine ite_b (fun c => ?_) (fun c => ?_)
      · walk_at "rd*"
        refine ⟨_, rfl, _, rfl, d, .int x.2.2, rfl, hget, ?_⟩
        walk_at "rd*"
        refine r_mkT (szl (by simp)) fun t H3 nt s3 h3 => ?_
        refine MyK.r_catT (xs := [.int x.1, .int x.2.1]) (sqT (s3 _ _ hq)) (sqT h3) (by simp) (by simp) (szl (by simp)) fun u H4 nu s4 h4 => ?_
        exact hAdd c _ _ (s3.trans s4) ⟨u, x, rfl, hx, h4⟩
      · exact hNx c _ (Same.refl _)
    intro H2 ys s2 h2 hP
    have hf2 := s2 _ _ hf
    obtain ⟨bs, rfl, hb⟩ := paired_pick (L := L0) (f := fun x => decide (0 < x.2.2)) (G := fun a x => H2 a = some (.tup (gv x))) (fun i y z => by
      obtain ⟨t, x, e1, e2, e3⟩ := z
      exact ⟨t, x, e1, e2, e3⟩) (by rw [List.length_map]) hP
    walk_at "rd*"
    refine ⟨hf2, ?_⟩
    have s3 : Same H (upd H2 d (.dT (L0.map enc))) := fun b o e => by
      by_cases c : b = d
      · subst c
        rw [upd_same]
        rw [hd] at e
        exact e
      · rw [upd_ne c]
        refine s2 b o ?_
        rw [← ef, upd_ne c]
        exact e
    have h3 : (upd H2 d (.dT (L0.map enc))) D = some (.lst (bs.map V.ref)) := by
      rw [upd_ne hDd]
      exact h2
    have hb3 : Paired (fun a x => (upd H2 d (.dT (L0.map enc))) a = some (.tup (gv x))) bs (there L0) := Paired.mapP hb fun a x e => by
      rw [upd_ne (ne_of e hf2 (by intro z; cases z))]
      exact e
    generalize upd H2 d (.dT (L0.map enc)) = H3 at s3 h3 hb3
    have hR3 : ∀ (m : Nat) (v : V), (bs.map V.ref)[m]? = some v → ∃ t x, v = V.ref t ∧ (there L0)[m]? = some x ∧ H3 t = some (.tup (gv x)) := fun m v e => by
      rw [List.getElem?_map] at e
      obtain ⟨t, et, rfl⟩ := Option.map_eq_some_iff.mp e
      obtain ⟨x, e1, e2⟩ := pairedAt hb3 et
      exact ⟨t, x, rfl, e1, e2⟩
    have hl3 : (bs.map V.ref).length = (there L0).length := by rw [List.length_map]; exact hb3.length
    have nd3 : ((there L0).map pr).Nodup := nd.sublist (List.filter_sublist.map _)
    walk_at "rd*"
    refine ⟨D, bs.map V.ref, kH H3, rfl, sqL h3, ?_, ?_⟩
    · intro y hy
      obtain ⟨m, hm⟩ := List.getElem?_of_mem hy
      obtain ⟨t, x, rfl, _, ht⟩ := hR3 m y hm
      rw [kH_at (ns := gl x) ht]
      exact ⟨by simp, t, rfl, ht⟩
    · intro zs p hs hp' hn
      obtain ⟨L, as, q1, q2, rfl, q3⟩ := sorted_groups hl3 hR3 nd3 hs hp'
      have s4 : Same H3 (upd H3 p (.lst (as.map V.ref))) := Same.new0 hn
      walk_at "rd*"
      refine r_tupL (sqL upd_same) fun g H5 ng s5 h5 => ?_
      have s6 := s4.trans s5
      have hh5 : HouseAt K CH H5 hp fl rm := hh.mono (.of (s3.trans s6))
      have hg5 : GrpsAt H5 g L := ⟨as, h5, Paired.mapP q3 fun a x z => s6 _ _ z⟩
      have s7 := s3.trans s6
      walk_at "rd*"
      intro x dx2 nx ndx nd2
      have s8 := made_same (C := CR) nx ndx
      obtain ⟨dh, fh, eh, _⟩ := hh5.ex
      refine ⟨x, dx2, hp, g, fl, rm, lift, rfl, upd_same, hh5.mono (.of s8), ne_of_none eh nx, fun H6 h6 k6 => ⟨rfl, ?_⟩⟩
      have s9 : Same H5 H6 := fun b o eb => k6 b o (ne_of_none eb nx) (s8 _ _ eb)
      exact k x g L H6 (s7.trans s9) h6 (hg5.mono (.of s9)) q1 q2
end
end Law

namespace Law
open PySem L2 MyB MyR MyD
local macro_rules | `(tactic| walk_at "hp") => `(tactic| first | assumption | exact upd_same | ((repeat rw [upd_ne (by assumption)]); assumption))
local macro_rules | `(tactic| walk_at "sq") => `(tactic| first | assumption | exact sqL (by assumption) | exact sqT (by assumption) | exact sqL upd_same | exact sqT upd_same | exact sqL (by walk_at "hp") | exact sqT (by walk_at "hp"))
local macro_rules | `(tactic| walk_at "rd") => `(tactic| with_reducible (first
  | refine r_seq ?_ | refine r_asg ?_ | refine r_op ?_ | refine r_un ?_
  | (refine' r_var ?rdh ?_; (case rdh => (with_unfolding_all rfl)))
  | refine r_c ?_ | refine r_I0 ?_ | refine r_U ?_ | refine r_eqI ?_ | refine r_neI ?_ | refine r_eqB ?_ | refine r_neB ?_
  | refine r_test ?_ | refine r_tB ?_ | refine r_not ?_ | refine r_and ?_ | refine r_or ?_ | refine r_yes ?_
  | refine r_andV ?_ | refine r_orV ?_ | refine r_notV ?_ | refine r_chain ?_ | refine r_if ?_ | refine r_next ?_ | refine r_ifS ?_
  | refine r_ret ?_ | refine r_drop ?_ | refine r_name ?_ | refine r_sub ?_ | refine r_gCons ?_ | refine r_gNil ?_
  | refine r_cons ?_ | refine r_nil ?_ | refine r_cb ?_ | refine r_call ?_ | refine r_make ?_ | refine r_fld ?_ | refine r_tup ?_ | refine r_lst ?_
  | refine r_par ?_ | refine r_par3 ?_ | refine r_rng1 ?_ | refine r_rng2 ?_ | refine r_for ?_ | refine r_iList ?_ | refine r_iTup ?_ | refine r_lc ?_ | refine r_bm ?_ | refine MyK.r_zip ?_ | refine MyK.r_enum ?_ | refine MyK.r_listRg ?_ | refine MyK.r_max3 ?_ | refine r_fldS ?_
  | refine r_sl ?_ | refine r_noPart ?_ | refine r_part ?_ | refine r_abs ?_ | refine r_int ?_ | refine r_intB ?_ | refine r_max ?_ | refine r_min ?_ | refine r_bl ?_ | refine r_theInt ?_ | refine r_par2 ?_
  | (refine' r_ixL ?rdh ?rdi ?_; (case rdh => (with_unfolding_all (walk_at "sq"))); (case rdi => (with_unfolding_all rfl)))
  | (refine' r_ixT ?rdh ?rdi ?_; (case rdh => (with_unfolding_all (walk_at "sq"))); (case rdi => (with_unfolding_all rfl)))
  | (refine' r_setL ?rdh ?rdi ?_; (case rdh => (with_unfolding_all (walk_at "hp"))); (case rdi => (with_unfolding_all rfl)))
  | (refine' r_lenL ?rdh ?_; (case rdh => (with_unfolding_all (walk_at "sq"))))
  | (refine' r_lenT ?rdh ?_; (case rdh => (with_unfolding_all (walk_at "sq"))))
  | (refine' r_gTup ?rdh ?rdi ?_; (case rdh => (with_unfolding_all (walk_at "sq"))); (case rdi => (with_unfolding_all rfl)))
  | (refine' r_I ?rdh ?_; (case rdh => (with_unfolding_all (first | assumption | decide | exact ⟨by decide, by decide⟩ | exact .inr ⟨by decide, by decide⟩ | exact ⟨by decide, by decide, by decide⟩ | exact ⟨by omega, by omega⟩ | exact .inl ⟨by omega, by omega⟩ | exact .inr ⟨by omega, by omega⟩))))
  | (refine' r_aug ?rdh ?_; (case rdh => (with_unfolding_all rfl)))))
local macro_rules | `(tactic| walk_at "rd*") => `(tactic| (repeat (walk_at "rd")))

/-- who goes aboard: for each floor wanted the number -/
def AbAt (H : Hp) (p : Addr) (A : List (Int × Int)) : Prop := ∃ as : List Addr, H p = some (.tup (as.map V.ref)) ∧ Paired (fun a (x : Int × Int) => H a = some (.tup [.int x.1, .int x.2])) as A
theorem AbAt.mono {H H' : Hp} {p : Addr} {A : List (Int × Int)} (h : AbAt H p A) (s : TupsK H H') : AbAt H' p A := by
  obtain ⟨as, e, r⟩ := h
  exact ⟨as, s _ _ e, Paired.mapP r fun a x q => s _ _ q⟩
structure RightB (A : List (Int × Int)) : Prop where
  len : A.length ≤ 1600
  ok : ∀ x ∈ A, 0 ≤ x.1 ∧ 1 ≤ x.2
  asc : A.Pairwise fun x y => x.1 < y.1
theorem abAt_at {H : Hp} {as : List Addr} {A : List (Int × Int)} (h : Paired (fun a (x : Int × Int) => H a = some (.tup [.int x.1, .int x.2])) as A) : ∀ {i : Nat} {v : V}, (as.map V.ref)[i]? = some v → ∃ a x, v = .ref a ∧ A[i]? = some x ∧ H a = some (.tup [.int x.1, .int x.2]) := by
  induction h with
  | nil =>
    intro i v e
    simp at e
  | cons r t ih =>
    intro i v e
    cases i with
    | zero =>
      simp at e
      subst e
      exact ⟨_, _, rfl, rfl, r⟩
    | succ i =>
      obtain ⟨a, x, e1, e2, e3⟩ := ih (i := i) (v := v) (by simpa using e)
      exact ⟨a, x, e1, by simpa using e2, e3⟩
section
variable {P : Program} {w : World} {K : PySem.W.Frag} {mg : Str → Option Value} {base : Heap} {CH CS CR : Addr}
def spWay : Sp := fun vs H Q _ => ∃ n : Int, vs = [.int n] ∧ (n = 1 ∨ n = -1) ∧ ∀ H', Same H H' → Q (.bl true) H'
theorem D_is_way (B : Bi mg) {t1 t2 : Tok} (c_UP : mg "UP" = some (.int 1 t1)) (c_DOWN : mg "DOWN" = some (.int (-1) t2)) (R_is_way : Raw K mg "is_way" s_is_way) (D_is_integer : IsDef P w K mg base 2 "is_integer" ["thing"] (spIsInt K)) : IsDef P w K mg base 3 "is_way" ["thing"] spWay := by
  refine R_is_way.ok (N := N_is_way) (ps := ["thing"]) sc_is_way (fun _ _ _ _ _ _ us hl => match us, hl with | [_], _ => rfl) (fun vs H Q E h => ?_) (fun f cdv A outer s H vs Q E hr h => ?_)
  · obtain ⟨n, rfl, _⟩ := h
    rfl
  · obtain ⟨n, rfl, hn, k⟩ := h
    refine ⟨_, (pss_one (ps_ret (pe_and (pe_callD D_is_integer (hr.mono (by decide)) rfl (pa_cons (pv 0) pa_nil)) (pe_one (pe_cmpR (MyK.op_in_seq (K := K) rfl) (pv 0) (pe_tup (pa_cons (pe_globI rfl c_UP) (pa_cons (pe_globI rfl c_DOWN) pa_nil))) (by rfl)))))), ?_⟩
    walk_at "rd*"
    refine ⟨_, some n, rfl, .inl ⟨n, rfl, rfl⟩, ?_⟩
    walk_at "rd*"
    refine iteT ?_
    walk_at "rd*"
    refine r_mkT (szl (by simp)) fun t H1 nt s1 h1 => ?_
    refine ⟨t, _, rfl, .inr (sqT h1), rfl, rfl, ?_⟩
    have e : inV (.int n) [.int 1, .int (-1)] = true := by
      rcases hn with rfl | rfl <;> rfl
    rw [show (if false = true then !inV (.int n) [.int 1, .int (-1)] else inV (.int n) [.int 1, .int (-1)]) = inV (.int n) [.int 1, .int (-1)] from rfl, e]
    exact k H1 s1
def spAboard : Sp := fun vs H Q _ => ∃ (p : Addr) (A : List (Int × Int)), vs = [.ref p] ∧ AbAt H p A ∧ RightB A ∧ ∀ H', Same H H' → Q (.bl true) H'
theorem D_is_aboard (B : Bi mg) (R_is_aboard : Raw K mg "is_aboard" s_is_aboard) (D_is_integer : IsDef P w K mg base 2 "is_integer" ["thing"] (spIsInt K)) : IsDef P w K mg base 3 "is_aboard" ["thing"] spAboard := by
  refine R_is_aboard.ok (N := N_is_aboard) (ps := ["thing"]) sc_is_aboard (fun _ _ _ _ _ _ us hl => match us, hl with | [_], _ => rfl) (fun vs H Q E h => ?_) (fun f cdv A outer s H vs Q E hr h => ?_)
  · obtain ⟨p, A, rfl, _⟩ := h
    rfl
  · obtain ⟨p, A, rfl, ⟨as, hg, hp⟩, hR, k⟩ := h
    have el : as.length = A.length := hp.length
    have l16 := hR.len
    refine ⟨_, (pss_cons (ps_if (pt_not (pt_val (pe_callB (MyK.call_isi (K := K) rfl) (by rfl) B.isinstance (by decide +kernel) (pa_cons (pv 0) (pa_cons (pe_bltn (v := .ty "tuple") (by rfl) B.tuple (by decide +kernel) rfl) pa_nil)))))
    (pss_one (ps_ret pe_bl))
    pss_nil)
  (pss_cons (ps_for PassesOwn.never rfl (MyK.pi_tup (K := K) rfl (pv 0)) (pg_name (i := 1) sc_is_aboard.nd rfl (Or.inl rfl))
    (pss_cons (ps_if (PW.pt (pw_or (pt_not (pt_val (pe_callB (MyK.call_isi (K := K) rfl) (by rfl) B.isinstance (by decide +kernel) (pa_cons (pv 1) (pa_cons (pe_bltn (v := .ty "tuple") (by rfl) B.tuple (by decide +kernel) rfl) pa_nil))))) (pw_or (pt_cmpR op_ne (pe_callB (MyK.q_len (K := K) rfl) (by rfl) B.len (by decide +kernel) (pa_cons (pv 1) pa_nil)) pe_int (nomark _)) (pw_or (pt_not (pt_val (pe_callD D_is_integer (hr.mono (by decide)) rfl (pa_cons (pe_ix (MyK.ix_tup (K := K) rfl) (pv 1) pe_int (fun _ _ => rfl)) pa_nil)))) (pw_or1 (pt_not (pt_val (pe_callD D_is_integer (hr.mono (by decide)) rfl (pa_cons (pe_ix (MyK.ix_tup (K := K) rfl) (pv 1) pe_int (fun _ _ => rfl)) pa_nil)))))))))
        (pss_one (ps_ret pe_bl))
        pss_nil)
      (pss_one (ps_if (PW.pt (pw_or (pt_cmpR op_lt (pe_ix (MyK.ix_tup (K := K) rfl) (pv 1) pe_int (fun _ _ => rfl)) pe_int (nomark _)) (pw_or1 (pt_cmpR op_lt (pe_ix (MyK.ix_tup (K := K) rfl) (pv 1) pe_int (fun _ _ => rfl)) pe_int (nomark _)))))
        (pss_one (ps_ret pe_bl))
        pss_nil))))
  (pss_one (ps_ret (pe_callB (MyK.cr_all (K := K) rfl rfl) (by rfl) B.all (by decide +kernel) (pa_cons (pe_lc (own := [("one", 2), ("other", 3)]) rfl sc_is_aboard.nd (MyK.pi_zip (K := K) rfl (by rfl) B.zip (pa_cons (pv 0) (pa_cons (pe_slice (MyK.sl_tupA (K := K) rfl) (pv 0) (po_some pe_int) po_none) pa_nil))) (blkOk_by (own := [("one", 2), ("other", 3)]) (N := N_is_aboard) (sc := defScope s_is_aboard) (by decide +kernel)) (fun _ _ _ _ _ => (MyK.pg_tup (K := K) (n := 2) rfl rfl (pgs_cons (pg_name (i := 2) sc_is_aboard.nd rfl (Or.inl rfl)) (pgs_cons (pg_name (i := 3) sc_is_aboard.nd rfl (Or.inl rfl)) pgs_nil)))) (fun _ _ _ _ _ => pts_nil) (fun _ _ _ _ _ => (pe_cmpR op_lt (pe_ix (MyK.ix_tup (K := K) rfl) (pv 2) pe_int (fun _ _ => rfl)) (pe_ix (MyK.ix_tup (K := K) rfl) (pv 3) pe_int (fun _ _ => rfl)) (nomark _)))) pa_nil)))))), ?_⟩
    walk_at "rd*"
    refine r_isi (.ty "tuple") (.base (.tup hg)) (kit_ty (b := "tuple") (r := true) (by decide +kernel)) ?_
    walk_at "rd*"
    refine iteF ?_
    walk_at "rd*"
    refine r_tup1 (sqT hg) ?_
    refine for_it walk_tup (fun i σ' H' => H' = H ∧ ∃ v1 v2 v3 : Option V, σ' = [some (.ref p), v1, v2, v3]) ⟨rfl, _, _, _, rfl⟩ (fun i σ' H' _ q => by rw [q.1]; exact sqT hg) ?_ ?_
    · rintro i x σ' H2 H3 hi ⟨rfl, v1, v2, v3, rfl⟩ ⟨rfl, hx⟩
      obtain ⟨a, z, rfl, hz, ha⟩ := abAt_at hp hx
      have ok := hR.ok z (List.mem_of_getElem? hz)
      walk_at "rd*"
      refine r_isi (.ty "tuple") (.base (.tup ha)) (kit_ty (b := "tuple") (r := true) (by decide +kernel)) ?_
      walk_at "rd*"
      refine iteF ?_
      walk_at "rd*"
      refine iteF ?_
      walk_at "rd*"
      refine ⟨_, some z.1, rfl, .inl ⟨z.1, rfl, rfl⟩, ?_⟩
      walk_at "rd*"
      refine iteF ?_
      walk_at "rd*"
      refine ⟨_, some z.2, rfl, .inl ⟨z.2, rfl, rfl⟩, ?_⟩
      walk_at "rd*"
      refine iteF ?_
      walk_at "rd*"
      refine ite_no (decide_eq_false (by omega)) ?_
      walk_at "rd*"
      refine ite_no (decide_eq_false (by omega)) ?_
      walk_at "rd*"
      exact ⟨rfl, _, _, _, rfl⟩
    · rintro σ' H2 ⟨rfl, v1, v2, v3, rfl⟩
      walk_at "rd*"
      refine MyK.r_slA hg fun t H3 s3 h3 => ?_
      have el2 : cutV (as.map V.ref) (some 1) none = (as.drop 1).map V.ref := cut1 as
      rw [el2] at h3
      walk_at "rd*"
      refine ⟨p, t, as.map V.ref, (as.drop 1).map V.ref, rfl, .inr ⟨sqT (s3 _ _ hg), sqT h3, ?_⟩⟩
      intro D2 hD2
      refine lc_map (walk_zipT rfl) hD2 (by simp only [List.length_map, List.length_drop]; omega) (fun H' s => ⟨sqT (s _ _ (s3 _ _ hg)), sqT (s _ _ h3)⟩) (fun i v _ => v = V.bl true) (fun _ _ _ _ _ h => h) ?_ ?_
      · rintro i x H4 H5 hi s5 ⟨T, x1, x2, rfl, nT, rfl, e1, e2⟩ Add hAdd
        obtain ⟨a1, z1, rfl, hz1, ha1⟩ := abAt_at hp e1
        have e3 : (as.map V.ref)[1 + i]? = some x2 := by
          have e2' : (List.map V.ref (List.drop 1 as))[i]? = some x2 := e2
          rw [List.getElem?_map, List.getElem?_drop] at e2'
          rw [List.getElem?_map]
          exact e2'
        obtain ⟨a2, z2, rfl, hz2, ha2⟩ := abAt_at hp e3
        have s6 : Same H4 (upd H4 T (.tup [.ref a1, .ref a2])) := Same.new0 nT
        have s7 := (s3.trans s5).trans s6
        have h1' := s7 _ _ ha1
        have h2' := s7 _ _ ha2
        refine r_gTup (sqT upd_same) rfl ?_
        generalize upd H4 T (.tup [.ref a1, .ref a2]) = H6 at s6 s7 h1' h2' ⊢
        walk_at "rd*"
        refine ⟨rfl, ?_⟩
        walk_at "rd*"
        have hasc := List.pairwise_iff_getElem.mp hR.asc i (1 + i) (List.getElem?_eq_some_iff.mp hz1).1 (List.getElem?_eq_some_iff.mp hz2).1 (by omega)
        rw [(List.getElem?_eq_some_iff.mp hz1).2, (List.getElem?_eq_some_iff.mp hz2).2] at hasc
        rw [decide_eq_true hasc]
        exact hAdd _ _ s6 rfl
      · intro H4 ys4 s5 h5 hl5 hall5
        have e5 := bools_of hl5 hall5
        rw [e5] at h5
        walk_at "rd*"
        refine r_all (sqL h5) ?_
        rw [all_true]
        exact k H4 (s3.trans s5)
def spCanGo (K : PySem.W.Frag) (CH : Addr) : Sp := fun vs H Q _ => ∃ (p hp g : Addr) (fl rm lift n : Int), vs = [.ref p, .int n] ∧ StAt K CH H p hp fl rm lift g ∧ 0 ≤ lift + n ∧ lift + n < fl ∧ Q (.bl true) H
theorem D_can_go (B : Bi mg) (R_can_go : Raw K mg "can_go" s_can_go) (D_is_floor : IsDef P w K mg base 4 "is_floor" ["house", "thing"] (spFloor K CH)) : IsDef P w K mg base 5 "can_go" ["standing", "way"] (spCanGo K CH) := by
  refine R_can_go.ok (N := N_can_go) (ps := ["standing", "way"]) sc_can_go (fun _ _ _ _ _ _ us hl => match us, hl with | [_, _], _ => rfl) (fun vs H Q E h => ?_) (fun f cdv A outer s H vs Q E hr h => ?_)
  · obtain ⟨p, hp, g, fl, rm, lift, n, rfl, _⟩ := h
    rfl
  · obtain ⟨p, hp, g, fl, rm, lift, n, rfl, ⟨⟨C, dx, fs, e, l1, l2, l3, cl, n1, n2, n3⟩, hh⟩, b1, b2, k⟩ := h
    refine ⟨_, (pss_one (ps_ret (pe_callD D_is_floor (hr.mono (by decide)) rfl (pa_cons (MyK.pe_fld (K := K) rfl (pv 0) rfl) (pa_cons (pe_op op_add (MyK.pe_fld (K := K) rfl (pv 0) rfl) (pv 1)) pa_nil))))), ?_⟩
    walk_at "rd*"
    refine ⟨p, C, dx, fs, _, rfl, e, cl, n1, l1, ?_⟩
    walk_at "rd*"
    refine ⟨p, C, dx, fs, _, rfl, e, cl, n2, l2, ?_⟩
    walk_at "rd*"
    refine ⟨hp, fl, rm, _, _, rfl, hh, .inl ⟨_, rfl, rfl⟩, ?_⟩
    rw [inB_yes b1 (by omega)]
    exact k
/-- a move well built -/
def spBuilt : Sp := fun vs H Q _ => ∃ (m ab : Addr) (n : Int) (A : List (Int × Int)), vs = [.ref m] ∧ H m = some (.tup [.int n, .ref ab]) ∧ (n = 1 ∨ n = -1) ∧ AbAt H ab A ∧ RightB A ∧ ∀ H', Same H H' → Q (.bl true) H'
theorem D_is_built_move (B : Bi mg) (R_is_built_move : Raw K mg "is_built_move" s_is_built_move) (D_is_way : IsDef P w K mg base 3 "is_way" ["thing"] spWay) (D_is_aboard : IsDef P w K mg base 3 "is_aboard" ["thing"] spAboard) : IsDef P w K mg base 4 "is_built_move" ["thing"] spBuilt := by
  refine R_is_built_move.ok (N := N_is_built_move) (ps := ["thing"]) sc_is_built_move (fun _ _ _ _ _ _ us hl => match us, hl with | [_], _ => rfl) (fun vs H Q E h => ?_) (fun f cdv A outer s H vs Q E hr h => ?_)
  · obtain ⟨m, ab, n, A, rfl, _⟩ := h
    rfl
  · obtain ⟨m, ab, n, A, rfl, hm, hn, hA, hR, k⟩ := h
    refine ⟨_, (pss_one (ps_ret (pe_and (pe_callB (MyK.call_isi (K := K) rfl) (by rfl) B.isinstance (by decide +kernel) (pa_cons (pv 0) (pa_cons (pe_bltn (v := .ty "tuple") (by rfl) B.tuple (by decide +kernel) rfl) pa_nil))) (pe_and (pe_cmpR op_eq (pe_callB (MyK.q_len (K := K) rfl) (by rfl) B.len (by decide +kernel) (pa_cons (pv 0) pa_nil)) pe_int (nomark _)) (pe_and (pe_callD D_is_way (hr.mono (by decide)) rfl (pa_cons (pe_ix (MyK.ix_tup (K := K) rfl) (pv 0) pe_int (fun _ _ => rfl)) pa_nil)) (pe_one (pe_callD D_is_aboard (hr.mono (by decide)) rfl (pa_cons (pe_ix (MyK.ix_tup (K := K) rfl) (pv 0) pe_int (fun _ _ => rfl)) pa_nil)))))))), ?_⟩
    walk_at "rd*"
    refine r_isi (.ty "tuple") (.base (.tup hm)) (kit_ty (b := "tuple") (r := true) (by decide +kernel)) ?_
    walk_at "rd*"
    refine iteT ?_
    walk_at "rd*"
    refine iteT ?_
    walk_at "rd*"
    refine ⟨n, rfl, hn, fun H1 s1 => ?_⟩
    have hm1 := s1 _ _ hm
    walk_at "rd*"
    refine iteT ?_
    walk_at "rd*"
    exact ⟨ab, A, rfl, hA.mono (.of s1), hR, fun H2 s2 => k H2 (s1.trans s2)⟩
/-- a move that can be made -/
structure MoveOk (H : Hp) (m ab : Addr) (n : Int) (A : List (Int × Int)) (L : List Grp) (fl rm lift : Int) : Prop where
  hm : H m = some (.tup [.int n, .ref ab])
  way : n = 1 ∨ n = -1
  hA : AbAt H ab A
  hR : RightB A
  lo : 0 ≤ lift + n
  hi : lift + n < fl
  fit : (A.map fun x => x.2).sum ≤ rm
  here : ∀ x ∈ A, ∃ v : Int, valV (wantsK L lift) (.inl x.1) = some (.int v) ∧ x.2 ≤ v
theorem MoveOk.mono {H H' : Hp} {m ab : Addr} {n : Int} {A : List (Int × Int)} {L : List Grp} {fl rm lift : Int} (h : MoveOk H m ab n A L fl rm lift) (s : TupsK H H') : MoveOk H' m ab n A L fl rm lift :=
  ⟨s _ _ h.hm, h.way, h.hA.mono s, h.hR, h.lo, h.hi, h.fit, h.here⟩
theorem ints_ab {A : List (Int × Int)} {ys : List V} (hl : ys.length = A.length) (h : ∀ (i : Nat) (y : V), ys[i]? = some y → ∃ x, A[i]? = some x ∧ y = V.int x.2) : ys = (A.map fun x => x.2).map V.int := by
  apply List.ext_getElem?
  intro i
  cases hy : ys[i]? with
  | none =>
    have : A[i]? = none := by
      rw [List.getElem?_eq_none_iff] at hy ⊢
      omega
    rw [List.getElem?_map, List.getElem?_map, this]
    rfl
  | some y =>
    obtain ⟨x, hx, rfl⟩ := h i y hy
    rw [List.getElem?_map, List.getElem?_map, hx]
    rfl
def spIsMove (K : PySem.W.Frag) (CH : Addr) : Sp := fun vs H Q _ => ∃ (p hp g m ab : Addr) (fl rm lift n : Int) (L : List Grp) (A : List (Int × Int)), vs = [.ref p, .ref m] ∧ StAt K CH H p hp fl rm lift g ∧ GrpsAt H g L ∧ L.length ≤ 16000000 ∧ MoveOk H m ab n A L fl rm lift ∧
  ∀ H', Same H H' → Q (.bl true) H'
theorem D_is_move (B : Bi mg) (R_is_move : Raw K mg "is_move" s_is_move) (D_is_built_move : IsDef P w K mg base 4 "is_built_move" ["thing"] spBuilt) (D_can_go : IsDef P w K mg base 5 "can_go" ["standing", "way"] (spCanGo K CH))
    (D_wants_at : IsDef P w K mg base 2 "wants_at" ["standing", "floor"] (spWants K CH)) : IsDef P w K mg base 6 "is_move" ["standing", "thing"] (spIsMove K CH) := by
  refine R_is_move.ok (N := N_is_move) (ps := ["standing", "thing"]) sc_is_move (fun _ _ _ _ _ _ us hl => match us, hl with | [_, _], _ => rfl) (fun vs H Q E h => ?_) (fun f cdv A outer s H vs Q E hr h => ?_)
  · obtain ⟨p, hp, g, m, ab, fl, rm, lift, n, L, A, rfl, _⟩ := h
    rfl
  · obtain ⟨p, hp, g, m, ab, fl, rm, lift, n, L, A, rfl, hs, hg, hz, hM, k⟩ := h
    have hu := hu_of hr
    have l16 := hM.hR.len
    refine ⟨_, (pss_cons (ps_if (PW.pt (pw_or (pt_not (pt_val (pe_callD D_is_built_move (hr.mono (by decide)) rfl (pa_cons (pv 1) pa_nil)))) (pw_or1 (pt_not (pt_val (pe_callD D_can_go (hr.mono (by decide)) rfl (pa_cons (pv 0) (pa_cons (pe_ix (MyK.ix_tup (K := K) rfl) (pv 1) pe_int (fun _ _ => rfl)) pa_nil))))))))
    (pss_one (ps_ret pe_bl))
    pss_nil)
  (pss_cons (ps_set (i := 2) sc_is_move.nd rfl (Or.inr rfl) (pe_callD D_wants_at (hr.mono (by decide)) rfl (pa_cons (pv 0) (pa_cons (MyK.pe_fld (K := K) rfl (pv 0) rfl) pa_nil))))
  (pss_cons (ps_if (pt_cmpR op_gt (pe_callB (MyK.cr_sum (K := K) rfl rfl) (by rfl) B.sum (by decide +kernel) (pa_cons (pe_lc (own := [("want", 3), ("many", 4)]) rfl sc_is_move.nd (MyK.pi_tup (K := K) rfl (pe_ix (MyK.ix_tup (K := K) rfl) (pv 1) pe_int (fun _ _ => rfl))) (blkOk_by (own := [("want", 3), ("many", 4)]) (N := N_is_move) (sc := defScope s_is_move) (by decide +kernel)) (fun _ _ _ _ _ => (MyK.pg_tup (K := K) (n := 2) rfl rfl (pgs_cons (pg_name (i := 3) sc_is_move.nd rfl (Or.inl rfl)) (pgs_cons (pg_name (i := 4) sc_is_move.nd rfl (Or.inl rfl)) pgs_nil)))) (fun _ _ _ _ _ => pts_nil) (fun _ _ _ _ _ => (pv 4))) pa_nil)) (MyK.pe_fld (K := K) rfl (MyK.pe_fld (K := K) rfl (pv 0) rfl) rfl) (nomark _))
    (pss_one (ps_ret pe_bl))
    pss_nil)
  (pss_one (ps_ret (pe_callB (MyK.cr_all (K := K) rfl rfl) (by rfl) B.all (by decide +kernel) (pa_cons (pe_lc (own := [("want", 3), ("many", 4)]) rfl sc_is_move.nd (MyK.pi_tup (K := K) rfl (pe_ix (MyK.ix_tup (K := K) rfl) (pv 1) pe_int (fun _ _ => rfl))) (blkOk_by (own := [("want", 3), ("many", 4)]) (N := N_is_move) (sc := defScope s_is_move) (by decide +kernel)) (fun _ _ _ _ _ => (MyK.pg_tup (K := K) (n := 2) rfl rfl (pgs_cons (pg_name (i := 3) sc_is_move.nd rfl (Or.inl rfl)) (pgs_cons (pg_name (i := 4) sc_is_move.nd rfl (Or.inl rfl)) pgs_nil)))) (fun _ _ _ _ _ => pts_nil) (fun _ _ _ _ _ => (pe_cmpR op_le (pv 4) (pe_dget2 hu (pv 2) (pv 3) pe_int ⟨by rfl, by rfl, by rfl, by rfl⟩) (nomark _)))) pa_nil))))))), ?_⟩
    walk_at "rd*"
    refine ⟨m, ab, n, A, rfl, hM.hm, hM.way, hM.hA, hM.hR, fun H1 s1 => ?_⟩
    have hs1 := hs.mono (.of s1)
    have hg1 : GrpsAt H1 g L := hg.mono (.of s1)
    have hM1 := hM.mono (.of s1)
    have hm1 := hM1.hm
    walk_at "rd*"
    refine iteF ?_
    walk_at "rd*"
    refine ⟨p, hp, g, fl, rm, lift, n, rfl, hs1, hM.lo, hM.hi, ?_⟩
    obtain ⟨⟨C, dx, fs, e, l1, l2, l3, cl, n1, n2, n3⟩, hh⟩ := id hs1
    walk_at "rd*"
    refine iteF ?_
    walk_at "rd*"
    refine ⟨p, C, dx, fs, _, rfl, e, cl, n2, l2, ?_⟩
    walk_at "rd*"
    refine ⟨p, hp, g, fl, rm, lift, lift, L, rfl, hs1, hg1, hz, fun d H2 hd s2 h2 => ?_⟩
    have hM2 := hM1.mono (.of s2)
    have hm2 := hM2.hm
    have e2 := s2 _ _ e
    obtain ⟨as, ha, pa⟩ := id hM2.hA
    obtain ⟨dh, fh, eh, lf, lr⟩ := (hh.mono (.of s2)).ex
    have hlen : (as.map V.ref).length = A.length := by rw [List.length_map]; exact pa.length
    walk_at "rd*"
    refine r_tup1 (sqT ha) ?_
    intro D hD
    refine lc_map walk_tup hD (by omega) (fun H' s => sqT (s _ _ ha)) (fun i v _ => ∃ x, A[i]? = some x ∧ v = V.int x.2) (fun _ _ _ _ _ h => h) ?_ ?_
    · rintro i x HA HB hi sA ⟨rfl, hx⟩ Add hAdd
      obtain ⟨a, z, rfl, hz, hza⟩ := abAt_at pa hx
      refine r_gTup (xs := [.int z.1, .int z.2]) (sqT (sA _ _ hza)) rfl ?_
      walk_at "rd*"
      refine ⟨rfl, ?_⟩
      walk_at "rd*"
      exact hAdd _ _ (Same.refl _) ⟨z, hz, rfl⟩
    intro H3 ys s3 h3 hl3 hy3
    rw [ints_ab (hl3.trans hlen) hy3] at h3
    walk_at "rd*"
    refine r_sum (sqL h3) ?_
    walk_at "rd*"
    refine ⟨p, C, dx, fs, _, rfl, s3 _ _ e2, cl, n1, l1, ?_⟩
    walk_at "rd*"
    refine ⟨hp, CH, dh, fh, _, rfl, s3 _ _ eh, hh.cl, hh.nR, lr, ?_⟩
    have ha3 := s3 _ _ ha
    have hm3 := s3 _ _ hm2
    have h23 := s3 _ _ h2
    walk_at "rd*"
    refine ite_no (decide_eq_false (by have := hM.fit; omega)) ?_
    walk_at "rd*"
    refine r_tup1 (sqT ha3) ?_
    intro D2 hD2
    refine lc_map walk_tup hD2 (by omega) (fun H' s => sqT (s _ _ ha3)) (fun i v _ => v = V.bl true) (fun _ _ _ _ _ h => h) ?_ ?_
    · rintro i x HA HB hi sA ⟨rfl, hx⟩ Add hAdd
      obtain ⟨a, z, rfl, hz, hza⟩ := abAt_at pa hx
      obtain ⟨v, hv, hle⟩ := hM.here z (List.mem_of_getElem? hz)
      have hd3 := sA _ _ h23
      refine r_gTup (xs := [.int z.1, .int z.2]) (sqT (sA _ _ (s3 _ _ hza))) rfl ?_
      walk_at "rd*"
      refine ⟨rfl, ?_⟩
      walk_at "rd*"
      refine ⟨_, rfl, d, rfl, .inl ⟨_, .inl hd3⟩, ?_⟩
      walk_at "rd*"
      refine ⟨some (.int v), ?_, ?_⟩
      · rw [← hv]
        exact DGet.k (k := .inl z.1) hd3
      simp only [Option.getD_some]
      walk_at "rd*"
      rw [decide_eq_true hle]
      exact hAdd _ _ (Same.refl _) rfl
    intro H4 zs s4 h4 hl4 hz4
    rw [bools_of hl4 hz4] at h4
    walk_at "rd*"
    refine r_all (sqL h4) ?_
    rw [all_true]
    exact k H4 (s1.trans (s2.trans (s3.trans s4)))
end
end Law

namespace Law
open PySem L2 MyB MyR MyD MyC
local macro_rules | `(tactic| walk_at "hp") => `(tactic| first | assumption | exact upd_same | ((repeat rw [upd_ne (by assumption)]); assumption))
local macro_rules | `(tactic| walk_at "sq") => `(tactic| first | assumption | exact sqL (by assumption) | exact sqT (by assumption) | exact sqL upd_same | exact sqT upd_same | exact sqL (by walk_at "hp") | exact sqT (by walk_at "hp"))
local macro_rules | `(tactic| walk_at "rd") => `(tactic| with_reducible (first
  | refine r_seq ?_ | refine r_asg ?_ | refine r_op ?_ | refine r_un ?_
  | (refine' r_var ?rdh ?_; (case rdh => (with_unfolding_all rfl)))
  | refine r_c ?_ | refine r_I0 ?_ | refine r_U ?_ | refine r_eqI ?_ | refine r_neI ?_ | refine r_eqB ?_ | refine r_neB ?_
  | refine r_test ?_ | refine r_tB ?_ | refine r_not ?_ | refine r_and ?_ | refine r_or ?_ | refine r_yes ?_
  | refine r_andV ?_ | refine r_orV ?_ | refine r_notV ?_ | refine r_chain ?_ | refine r_if ?_ | refine r_next ?_ | refine r_ifS ?_
  | refine r_ret ?_ | refine r_drop ?_ | refine r_name ?_ | refine r_sub ?_ | refine r_gCons ?_ | refine r_gNil ?_
  | refine r_cons ?_ | refine r_nil ?_ | refine r_cb ?_ | refine r_call ?_ | refine r_make ?_ | refine r_fld ?_ | refine r_tup ?_ | refine r_lst ?_
  | refine r_par ?_ | refine r_par3 ?_ | refine r_rng1 ?_ | refine r_rng2 ?_ | refine r_for ?_ | refine r_iList ?_ | refine r_iTup ?_ | refine r_lc ?_ | refine r_bm ?_ | refine MyK.r_zip ?_ | refine MyK.r_enum ?_ | refine MyK.r_listRg ?_ | refine MyK.r_max3 ?_ | refine r_fldS ?_
  | refine r_sl ?_ | refine r_noPart ?_ | refine r_part ?_ | refine r_abs ?_ | refine r_int ?_ | refine r_intB ?_ | refine r_max ?_ | refine r_min ?_ | refine r_bl ?_ | refine r_theInt ?_ | refine r_par2 ?_
  | (refine' r_ixL ?rdh ?rdi ?_; (case rdh => (with_unfolding_all (walk_at "sq"))); (case rdi => (with_unfolding_all rfl)))
  | (refine' r_ixT ?rdh ?rdi ?_; (case rdh => (with_unfolding_all (walk_at "sq"))); (case rdi => (with_unfolding_all rfl)))
  | (refine' r_setL ?rdh ?rdi ?_; (case rdh => (with_unfolding_all (walk_at "hp"))); (case rdi => (with_unfolding_all rfl)))
  | (refine' r_lenL ?rdh ?_; (case rdh => (with_unfolding_all (walk_at "sq"))))
  | (refine' r_lenT ?rdh ?_; (case rdh => (with_unfolding_all (walk_at "sq"))))
  | (refine' r_gTup ?rdh ?rdi ?_; (case rdh => (with_unfolding_all (walk_at "sq"))); (case rdi => (with_unfolding_all rfl)))
  | (refine' r_I ?rdh ?_; (case rdh => (with_unfolding_all (first | assumption | decide | exact ⟨by decide, by decide⟩ | exact .inr ⟨by decide, by decide⟩ | exact ⟨by decide, by decide, by decide⟩ | exact ⟨by omega, by omega⟩ | exact .inl ⟨by omega, by omega⟩ | exact .inr ⟨by omega, by omega⟩))))
  | (refine' r_aug ?rdh ?_; (case rdh => (with_unfolding_all rfl)))))
local macro_rules | `(tactic| walk_at "rd*") => `(tactic| (repeat (walk_at "rd")))

section
variable {P : Program} {w : World} {K : PySem.W.Frag} {mg : Str → Option Value} {base : Heap} {CH CS CR : Addr}
def spKnown (K : PySem.W.Frag) (CH : Addr) : Sp := fun vs H Q _ => ∃ (p hp g : Addr) (fl rm lift : Int) (L : List Grp), vs = [.ref p] ∧ StAt K CH H p hp fl rm lift g ∧ GrpsAt H g L ∧ L.length ≤ 16000000 ∧ (L.map pr).Nodup ∧
  ∀ D H', H D = none → Same H H' → H' D = some (.dT (L.map enc)) → Q (.ref D) H'
theorem D_known_of (B : Bi mg) (R_known_of : Raw K mg "known_of" s_known_of) : IsDef P w K mg base 2 "known_of" ["standing"] (spKnown K CH) := by
  refine R_known_of.ok (N := N_known_of) (ps := ["standing"]) sc_known_of (fun _ _ _ _ _ _ us hl => match us, hl with | [_], _ => rfl) (fun vs H Q E h => ?_) (fun f cdv A outer s H vs Q E hr h => ?_)
  · obtain ⟨p, hp, g, fl, rm, lift, L, rfl, _⟩ := h
    rfl
  · obtain ⟨p, hp, g, fl, rm, lift, L, rfl, ⟨⟨C, dx, fs, e, l1, l2, l3, cl, n1, n2, n3⟩, hh⟩, ⟨as, hg, hpa⟩, hz, nd, k⟩ := h
    have hu := hu_of hr
    have hlen : (as.map V.ref).length = L.length := by rw [List.length_map, hpa.length]
    refine ⟨_, (pss_one (ps_ret (MyC.pe_dcT hu (own := [("stand", 1), ("want", 2), ("many", 3)]) rfl sc_known_of.nd (MyK.pi_tup (K := K) rfl (MyK.pe_fld (K := K) rfl (pv 0) rfl)) (blkOk_by (own := [("stand", 1), ("want", 2), ("many", 3)]) (N := N_known_of) (sc := defScope s_known_of) (by decide +kernel)) (fun _ _ _ _ _ => (MyK.pg_tup (K := K) (n := 3) rfl rfl (pgs_cons (pg_name (i := 1) sc_known_of.nd rfl (Or.inl rfl)) (pgs_cons (pg_name (i := 2) sc_known_of.nd rfl (Or.inl rfl)) (pgs_cons (pg_name (i := 3) sc_known_of.nd rfl (Or.inl rfl)) pgs_nil))))) (fun _ _ _ _ _ => pts_nil) (fun _ _ _ _ _ => (pe_tup (pa_cons (pv 1) (pa_cons (pv 2) pa_nil)))) (fun _ _ _ _ _ => (pv 3))))), ?_⟩
    walk_at "rd*"
    unfold tDcT
    walk_at "rd*"
    refine ⟨p, C, dx, fs, _, rfl, e, cl, n3, l3, ?_⟩
    refine r_tup1 (sqT hg) ?_
    intro D hD
    refine dcT_tup (xs := as.map V.ref) (fun i H' => Same H H' ∧ H' D = some (.dT ((L.take i).map enc))) ⟨Same.new0 hD, upd_same⟩ (fun i H' _ q => sqT (q.1 _ _ hg)) ?_ ?_
    · rintro i x H2 hx ⟨s2, h2⟩
      obtain ⟨a, z, rfl, hz', ha⟩ := GrpsAt.at (p := g) hpa hx
      refine r_gTup (xs := [.int z.1, .int z.2.1, .int z.2.2]) (sqT (s2 _ _ ha)) rfl ?_
      walk_at "rd*"
      refine ⟨rfl, ?_⟩
      walk_at "rd*"
      refine iteT ?_
      walk_at "rd*"
      refine r_mkT (szl (by simp)) fun t H3 nt s3 h3 => ?_
      walk_at "rd*"
      have ll : (L.take i).length ≤ L.length := by rw [List.length_take]; omega
      refine ⟨_, DPut.t (k := [.inl z.1, .inl z.2.1]) (s3 _ _ h2) h3 (by rw [List.length_map]; unfold sizeLine; omega), ?_, ?_⟩
      · exact fun b o eb => by
          rw [upd_ne (fun q => by rw [q] at eb; rw [hD] at eb; cases eb)]
          exact (s2.trans s3) _ _ eb
      · rw [upd_same, putK_enc, putG_no (apart nd hz')]
        have e9 : L.take (i + 1) = L.take i ++ [z] := by rw [List.take_succ, hz']; rfl
        rw [e9]
    · rintro H2 ⟨s2, h2⟩
      rw [hlen, List.take_length] at h2
      walk_at "rd*"
      exact k D H2 hD s2 h2
/-- a dict store by a pair of floors, the dict new -/
theorem r_setP {H : Hp} {d t : Addr} {L0 : List Grp} {s w m : Int} {R : Hp → Prop} (hd : H d = some (.dT (L0.map enc))) (ht : H t = some (.tup [.int s, .int w])) (hl : L0.length < 16000000)
    (k : ∀ H', (∀ b o, b ≠ d → H b = some o → H' b = some o) → H' d = some (.dT ((putG L0 s w m).map enc)) → R H') : rSetD (.ref d) (.ref t) (.int m) H R := by
  refine ⟨d, _, rfl, DPut.t (k := [.inl s, .inl w]) hd ht (by rw [List.length_map]; exact szlt hl), ?_⟩
  rw [putK_enc]
  exact k _ (Kp.refl H).at upd_same
def spBehind (K : PySem.W.Frag) (CH CR : Addr) : Sp := fun vs H Q _ => ∃ (p hp g m ab : Addr) (fl rm lift n : Int) (L : List Grp) (A : List (Int × Int)), vs = [.ref p, .ref m] ∧ StAt K CH H p hp fl rm lift g ∧ GrpsAt H g L ∧ L.length ≤ 10000000 ∧ (L.map pr).Nodup ∧
  H m = some (.tup [.int n, .ref ab]) ∧ AbAt H ab A ∧ A.length ≤ 1600 ∧ (∀ x ∈ A, hasG L lift x.1 = true) ∧
  ∀ x g' L' H', Same H H' → StC K CH CR H' x hp fl rm (lift + n) g' → GrpsAt H' g' L' → L'.Perm (there (mvAll L lift (lift + n) A)) → L'.Pairwise ascP → Q (.ref x) H'
theorem D_behind_move (B : Bi mg) (R_behind_move : Raw K mg "behind_move" s_behind_move) (D_known_of : IsDef P w K mg base 2 "known_of" ["standing"] (spKnown K CH)) (D_raw_standing : IsDef P w K mg base 4 "raw_standing" ["house", "lift", "known"] (spRawSt K CH CR)) :
    IsDef P w K mg base 5 "behind_move" ["standing", "move"] (spBehind K CH CR) := by
  refine R_behind_move.ok (N := N_behind_move) (ps := ["standing", "move"]) sc_behind_move (fun _ _ _ _ _ _ us hl => match us, hl with | [_, _], _ => rfl) (fun vs H Q E h => ?_) (fun f cdv A outer s H vs Q E hr h => ?_)
  · obtain ⟨p, hp, g, m, ab, fl, rm, lift, n, L, A, rfl, _⟩ := h
    rfl
  · obtain ⟨p, hp, g, m, ab, fl, rm, lift, n, L, A, rfl, hs, hg, hz, nd, hm, hA, hl, hh, k⟩ := h
    have hu := hu_of hr
    refine ⟨_, (pss_cons (ps_asg (pv 1) (MyK.pg_tup (K := K) (n := 2) rfl rfl (pgs_cons (pg_name (i := 2) sc_behind_move.nd rfl (Or.inl rfl)) (pgs_cons (pg_name (i := 3) sc_behind_move.nd rfl (Or.inl rfl)) pgs_nil))))
  (pss_cons (ps_set (i := 4) sc_behind_move.nd rfl (Or.inl rfl) (pe_callD D_known_of (hr.mono (by decide)) rfl (pa_cons (pv 0) pa_nil)))
  (pss_cons (ps_set (i := 5) sc_behind_move.nd rfl (Or.inl rfl) (MyK.pe_fld (K := K) rfl (pv 0) rfl))
  (pss_cons (ps_set (i := 6) sc_behind_move.nd rfl (Or.inl rfl) (pe_op op_add (pv 5) (pv 2)))
  (pss_cons (ps_for PassesOwn.never rfl (MyK.pi_tup (K := K) rfl (pv 3)) (MyK.pg_tup (K := K) (n := 2) rfl rfl (pgs_cons (pg_name (i := 7) sc_behind_move.nd rfl (Or.inl rfl)) (pgs_cons (pg_name (i := 8) sc_behind_move.nd rfl (Or.inl rfl)) pgs_nil)))
    (pss_cons (ps_asg (pe_op op_sub (pe_dget hu (pv 4) (pe_tup (pa_cons (pv 5) (pa_cons (pv 7) pa_nil))) (fun _ _ => rfl)) (pv 8)) (pg_sub (pv 4) (pe_tup (pa_cons (pv 5) (pa_cons (pv 7) pa_nil))) (set_dict hu)))
      (pss_one (ps_asg (pe_op op_add (pe_dget2 hu (pv 4) (pe_tup (pa_cons (pv 6) (pa_cons (pv 7) pa_nil))) pe_int ⟨by rfl, by rfl, by rfl, by rfl⟩) (pv 8)) (pg_sub (pv 4) (pe_tup (pa_cons (pv 6) (pa_cons (pv 7) pa_nil))) (set_dict hu))))))
  (pss_one (ps_ret (pe_callD D_raw_standing (hr.mono (by decide)) rfl (pa_cons (MyK.pe_fld (K := K) rfl (pv 0) rfl) (pa_cons (pv 6) (pa_cons (pv 4) pa_nil))))))))))), ?_⟩
    walk_at "rd*"
    refine ⟨p, hp, g, fl, rm, lift, L, rfl, hs, hg, by omega, nd, fun d H1 hd s1 h1 => ?_⟩
    have hs1 := hs.mono (.of s1)
    obtain ⟨⟨C, dx, fs, e, l1, l2, l3, cl, n1, n2, n3⟩, hH⟩ := id hs1
    obtain ⟨as, ha, pa⟩ := hA.mono (TupsK.of s1)
    have hlen : (as.map V.ref).length = A.length := by rw [List.length_map]; exact pa.length
    walk_at "rd*"
    refine ⟨p, C, dx, fs, _, rfl, e, cl, n2, l2, ?_⟩
    walk_at "rd*"
    refine r_tup1 (sqT ha) ?_
    have keep : ∀ {b : Addr} {o : HO}, H1 b = some o → b ≠ d → True := fun _ _ => True.intro
    refine for_it walk_tup (fun i σ' H' => (∀ b o, b ≠ d → H1 b = some o → H' b = some o) ∧ H' d = some (.dT ((mvAll L lift (lift + n) (A.take i)).map enc)) ∧ ∃ v7 v8 : Option V, σ' = [some (.ref p), some (.ref m), some (.int n), some (.ref ab), some (.ref d), some (.int lift), some (.int (lift + n)), v7, v8])
      ⟨fun b o _ z => z, h1, _, _, rfl⟩ (fun i σ' H' _ q => sqT (q.1 _ _ (ne_of ha h1 (by intro z; cases z)) ha)) ?_ ?_
    · rintro i x σ' H2 H3 hi ⟨s2, h2, v7, v8, rfl⟩ ⟨rfl, hx⟩
      obtain ⟨a, z, rfl, hz', hza⟩ := abAt_at pa hx
      have nad : a ≠ d := ne_of hza h1 (by intro z; cases z)
      have hz2 := s2 _ _ nad hza
      have has := mvAll_has (a := lift) (b := lift + n) (A := A.take i) (hh z (List.mem_of_getElem? hz'))
      have hlT : (A.take i).length ≤ A.length := by rw [List.length_take]; omega
      have hlm := mvAll_len (L := L) (a := lift) (b := lift + n) (A := A.take i)
      refine r_gTup (xs := [.int z.1, .int z.2]) (sqT hz2) rfl ?_
      walk_at "rd*"
      refine ⟨_, rfl, ?_⟩
      walk_at "rd*"
      refine r_mkT (szl (by simp)) fun t4 H4 nt4 s4 h4 => ?_
      have h24 := s4 _ _ h2
      refine ⟨d, .int (getG (mvAll L lift (lift + n) (A.take i)) lift z.1), rfl, ?_, ?_⟩
      · rw [← valV_has has]
        exact DGet.t (k := [.inl lift, .inl z.1]) h24 h4
      walk_at "rd*"
      refine r_mkT (szl (by simp)) fun t5 H5 nt5 s5 h5 => ?_
      have h25 := s5 _ _ h24
      refine r_setP h25 h5 (by omega) fun H6 k6 h6 => ?_
      walk_at "rd*"
      refine ⟨_, rfl, d, rfl, .inr ⟨_, .inl h6⟩, ?_⟩
      walk_at "rd*"
      refine r_mkT (szl (by simp)) fun t7 H7 nt7 s7 h7 => ?_
      have h67 := s7 _ _ h6
      walk_at "rd*"
      refine ⟨_, DGet.t (k := [.inl (lift + n), .inl z.1]) h67 h7, ?_⟩
      rw [valV_or]
      walk_at "rd*"
      refine r_mkT (szl (by simp)) fun t8 H8 nt8 s8 h8 => ?_
      have h68 := s8 _ _ h67
      have hp6 := putG_len (mvAll L lift (lift + n) (A.take i)) lift z.1 (getG (mvAll L lift (lift + n) (A.take i)) lift z.1 - z.2)
      refine r_setP h68 h8 (by omega) fun H9 k9 h9 => ?_
      walk_at "rd*"
      refine ⟨fun b o nb eb => k9 b o nb (s8 _ _ (s7 _ _ (k6 b o nb (s5 _ _ (s4 _ _ (s2 b o nb eb)))))), ?_, _, _, rfl⟩
      have e9 : A.take (i + 1) = A.take i ++ [z] := by rw [List.take_succ, hz']; rfl
      rw [h9, e9, mvAll_snoc]
      rfl
    · rintro σ' H2 ⟨s2, h2, v7, v8, rfl⟩
      rw [hlen, List.take_length] at h2
      have s02 : Same H H2 := fun b o eb => s2 b o (fun z => by rw [z, hd] at eb; cases eb) (s1 _ _ eb)
      have hs2 := hs.mono (.of s02)
      obtain ⟨⟨C, dx, fs, e, l1, l2, l3, cl, n1, n2, n3⟩, hH⟩ := id hs2
      have hlm := mvAll_len (L := L) (a := lift) (b := lift + n) (A := A)
      walk_at "rd*"
      refine ⟨p, C, dx, fs, _, rfl, e, cl, n1, l1, ?_⟩
      walk_at "rd*"
      exact ⟨hp, d, fl, rm, lift + n, mvAll L lift (lift + n) A, rfl, hH, h2, mvAll_nodup nd, by omega, fun x g' L' H' s' a b c d' => k x g' L' H' (s02.trans s') a b c d'⟩
end
end Law

namespace Law
open PySem L2 MyB MyR MyD MyC
/-! ### numbers under pairs, plain -/
theorem getG_put {L : List Grp} {s w m a b : Int} : getG (putG L s w m) a b = if a = s ∧ b = w then m else getG L a b := by
  have h := valV_or (putG L s w m) a b
  rw [← putK_enc, valV_put] at h
  by_cases c : a = s ∧ b = w
  · rw [if_pos c]
    rw [if_pos (by rw [c.1, c.2])] at h
    have h : V.int m = V.int (getG (putG L s w m) a b) := h
    injection h with h
    exact h.symm
  · rw [if_neg c]
    rw [if_neg (by
      intro z
      simp at z
      exact c z), valV_or] at h
    injection h with h
    exact h.symm
theorem getG_mv {L : List Grp} {a b s w : Int} {x : Int × Int} (hab : a ≠ b) : getG (mvG L a b x) s w = getG L s w + if w = x.1 then (if s = a then -x.2 else if s = b then x.2 else 0) else 0 := by
  unfold mvG
  rw [getG_put, getG_put, getG_put]
  by_cases hw : w = x.1
  · subst hw
    by_cases h1 : s = a
    · subst h1
      rw [if_neg (by omega), if_pos ⟨rfl, rfl⟩, if_pos rfl, if_pos rfl]
      omega
    · by_cases h2 : s = b
      · subst h2
        rw [if_pos ⟨rfl, rfl⟩, if_neg (by omega), if_pos rfl, if_neg h1, if_pos rfl]
      · rw [if_neg (by omega), if_neg (by omega), if_pos rfl, if_neg h1, if_neg h2]
        omega
  · rw [if_neg (by omega), if_neg (by omega), if_neg hw]
    omega
/-- how many of A want floor w -/
def wantOf (A : List (Int × Int)) (w : Int) : Int := (A.map fun x => if w = x.1 then x.2 else 0).sum
theorem getG_all {a b s w : Int} (hab : a ≠ b) : ∀ {A : List (Int × Int)} {L : List Grp}, getG (mvAll L a b A) s w = getG L s w + (if s = a then -wantOf A w else if s = b then wantOf A w else 0)
  | [], L => by
    show getG L s w = _
    have : wantOf [] w = 0 := rfl
    rw [this]
    split
    · omega
    · split <;> omega
  | x :: A, L => by
    show getG (mvAll (mvG L a b x) a b A) s w = _
    rw [getG_all hab, getG_mv hab]
    have : wantOf (x :: A) w = (if w = x.1 then x.2 else 0) + wantOf A w := by
      unfold wantOf
      rw [List.map_cons, List.sum_cons]
    rw [this]
    by_cases hw : w = x.1
    · rw [if_pos hw, if_pos hw]
      split
      · omega
      · split <;> omega
    · rw [if_neg hw, if_neg hw]
      split
      · omega
      · split <;> omega
theorem mem_get {L : List Grp} (nd : (L.map pr).Nodup) {x : Grp} (h : x ∈ L) : getG L x.1 x.2.1 = x.2.2 := by
  obtain ⟨i, hi⟩ := List.getElem?_of_mem h
  have e := valV_enc nd hi
  have e2 := valV_or L x.1 x.2.1
  rw [e] at e2
  have e2 : V.int x.2.2 = V.int (getG L x.1 x.2.1) := e2
  injection e2 with e2
  exact e2.symm
theorem get_mem {L : List Grp} {s w : Int} (h : getG L s w ≠ 0) : (s, w, getG L s w) ∈ L := by
  unfold getG at h ⊢
  cases c : L.find? fun x => decide (x.1 = s ∧ x.2.1 = w) with
  | none =>
    rw [c] at h
    exact absurd rfl h
  | some x =>
    have p := List.find?_some c
    have p : x.1 = s ∧ x.2.1 = w := by simpa using p
    have m := List.mem_of_find?_eq_some c
    have e : ((some x).map fun x : Grp => x.2.2).getD 0 = x.2.2 := rfl
    rw [e, ← p.1, ← p.2]
    exact m
/-- positive groups, no pair twice: fixed by the numbers under the pairs -/
theorem fixed {L M : List Grp} (n1 : (L.map pr).Nodup) (n2 : (M.map pr).Nodup) (p1 : ∀ x ∈ L, 0 < x.2.2) (p2 : ∀ x ∈ M, 0 < x.2.2) (h : ∀ s w, getG L s w = getG M s w) : L.Perm M := by
  have d : ∀ {L : List Grp}, (L.map pr).Nodup → L.Nodup := fun {L} n => (List.pairwise_map.mp n).imp fun {x y} z e => z (by rw [e])
  refine (List.perm_ext_iff_of_nodup (d n1) (d n2)).mpr fun x => ?_
  have half : ∀ {L M : List Grp}, (L.map pr).Nodup → (∀ x ∈ L, 0 < x.2.2) → (∀ s w, getG L s w = getG M s w) → x ∈ L → x ∈ M := fun {L M} n p h hx => by
    have e := mem_get n hx
    have q := p x hx
    have m := get_mem (L := M) (s := x.1) (w := x.2.1) (by rw [← h, e]; omega)
    rw [← h, e] at m
    exact m
  exact ⟨half n1 p1 h, half n2 p2 fun s w => (h s w).symm⟩
theorem there_get {L : List Grp} (nd : (L.map pr).Nodup) (pos : ∀ x ∈ L, 0 ≤ x.2.2) (s w : Int) : getG (there L) s w = getG L s w := by
  have nt : ((there L).map pr).Nodup := nd.sublist (List.filter_sublist.map _)
  by_cases h : getG (there L) s w = 0
  · rw [h]
    by_cases g : getG L s w = 0
    · exact g.symm
    · have m := get_mem g
      have m2 : (s, w, getG L s w) ∈ there L := by
        unfold there
        rw [List.mem_filter]
        refine ⟨m, ?_⟩
        have := pos _ m
        simp only at this ⊢
        exact decide_eq_true (by omega)
      have e := mem_get nt m2
      simp only at e
      omega
  · have m := get_mem h
    have m2 := (List.mem_filter.mp m).1
    have e := mem_get nd m2
    simp only at e
    exact e.symm
theorem perm_get {L M : List Grp} (h : L.Perm M) (nd : (M.map pr).Nodup) (s w : Int) : getG L s w = getG M s w := by
  have nl : (L.map pr).Nodup := (h.map pr).nodup_iff.mpr nd
  by_cases g : getG L s w = 0
  · rw [g]
    by_cases g2 : getG M s w = 0
    · exact g2.symm
    · have e := mem_get nl (h.mem_iff.mpr (get_mem g2))
      simp only at e
      omega
  · have e := mem_get nd (h.mem_iff.mp (get_mem g))
    simp only at e
    exact e.symm
theorem wantOf_none {A : List (Int × Int)} {w : Int} (h : ∀ x ∈ A, w ≠ x.1) : wantOf A w = 0 := by
  induction A with
  | nil => rfl
  | cons x A ih =>
    have e : wantOf (x :: A) w = (if w = x.1 then x.2 else 0) + wantOf A w := by
      unfold wantOf
      rw [List.map_cons, List.sum_cons]
    rw [e, if_neg (h x List.mem_cons_self), ih fun y hy => h y (List.mem_cons_of_mem _ hy)]
    rfl
theorem wantOf_mem {A : List (Int × Int)} (h : A.Pairwise fun x y => x.1 < y.1) : ∀ x ∈ A, wantOf A x.1 = x.2 := by
  induction A with
  | nil => exact fun x hx => (List.not_mem_nil hx).elim
  | cons y A ih =>
    intro x hx
    have hp := List.pairwise_cons.mp h
    have e : ∀ w, wantOf (y :: A) w = (if w = y.1 then y.2 else 0) + wantOf A w := fun w => by
      unfold wantOf
      rw [List.map_cons, List.sum_cons]
    rw [e]
    rcases List.mem_cons.mp hx with rfl | hx
    · rw [if_pos rfl, wantOf_none fun z hz => by have := hp.1 z hz; omega]
      omega
    · have := hp.1 x hx
      rw [if_neg (by omega), ih hp.2 x hx]
      omega
theorem wantOf_cases {A : List (Int × Int)} (h : A.Pairwise fun x y => x.1 < y.1) (w : Int) : wantOf A w = 0 ∨ ∃ x ∈ A, x.1 = w ∧ wantOf A w = x.2 := by
  by_cases c : ∃ x ∈ A, x.1 = w
  · obtain ⟨x, hx, rfl⟩ := c
    exact .inr ⟨x, hx, rfl, wantOf_mem h x hx⟩
  · exact .inl (wantOf_none fun x hx e => c ⟨x, hx, e.symm⟩)
/-- a state: groups ascending, positive, within the house -/
structure StOk (fl : Int) (L : List Grp) : Prop where
  ok : ∀ x ∈ L, 0 ≤ x.1 ∧ x.1 < fl ∧ 0 ≤ x.2.1 ∧ x.2.1 < fl ∧ 1 ≤ x.2.2
  asc : L.Pairwise ascP
theorem asc_pairs {L : List Grp} (h : L.Pairwise ascP) : (L.map pr).Nodup := by
  refine List.pairwise_map.mpr (h.imp fun {x y} a e => ?_)
  have e : (x.1, x.2.1) = (y.1, y.2.1) := e
  rw [Prod.mk.injEq] at e
  obtain ⟨e1, e2⟩ := e
  unfold ascP at a
  omega
theorem asc_one : ∀ {L M : List Grp}, L.Perm M → L.Pairwise ascP → M.Pairwise ascP → L = M
  | [], M, h, _, _ => (List.nil_perm.mp h).symm
  | x :: L, [], h, _, _ => by
    have := h.length_eq
    simp at this
  | x :: L, y :: M, h, h1, h2 => by
    have e : x = y := by
      rcases List.mem_cons.mp (h.mem_iff.mp (List.mem_cons_self (a := x) (l := L))) with e | e
      · exact e
      · rcases List.mem_cons.mp (h.mem_iff.mpr (List.mem_cons_self (a := y) (l := M))) with e' | e'
        · exact e'.symm
        · have a := (List.pairwise_cons.mp h1).1 y e'
          have b := (List.pairwise_cons.mp h2).1 x e
          unfold ascP at a b
          omega
    subst e
    rw [asc_one (List.Perm.cons_inv h) (List.pairwise_cons.mp h1).2 (List.pairwise_cons.mp h2).2]
theorem StOk.nd {fl : Int} {L : List Grp} (h : StOk fl L) : (L.map pr).Nodup := asc_pairs h.asc
theorem StOk.pos {fl : Int} {L : List Grp} (h : StOk fl L) (s w : Int) : 0 ≤ getG L s w := by
  by_cases c : getG L s w = 0
  · omega
  · have := h.ok _ (get_mem c)
    simp only at this
    omega
/-- a move that those at floor a can make: who wants w are at least as many as go -/
structure CanGo (L : List Grp) (a : Int) (A : List (Int × Int)) : Prop where
  asc : A.Pairwise fun x y => x.1 < y.1
  ok : ∀ x ∈ A, 1 ≤ x.2 ∧ x.2 ≤ getG L a x.1
theorem CanGo.le {L : List Grp} {a : Int} {A : List (Int × Int)} (h : CanGo L a A) (w : Int) (p : 0 ≤ getG L a w) : 0 ≤ wantOf A w ∧ wantOf A w ≤ getG L a w := by
  rcases wantOf_cases h.asc w with e | ⟨x, hx, rfl, e⟩
  · omega
  · have := h.ok x hx
    omega
theorem mv_pos {fl a b : Int} {L : List Grp} {A : List (Int × Int)} (h : StOk fl L) (hab : a ≠ b) (c : CanGo L a A) (s w : Int) : 0 ≤ getG (mvAll L a b A) s w := by
  rw [getG_all hab]
  have p1 := h.pos a w
  have p2 := h.pos s w
  have q := c.le w p1
  by_cases e : s = a
  · subst e
    rw [if_pos rfl]
    omega
  · rw [if_neg e]
    split <;> omega
theorem mv_mem {fl a b : Int} {L : List Grp} {A : List (Int × Int)} (h : StOk fl L) (hab : a ≠ b) (c : CanGo L a A) : ∀ x ∈ mvAll L a b A, 0 ≤ x.2.2 := fun x hx => by
  have e := mem_get (mvAll_nodup (a := a) (b := b) (A := A) h.nd) hx
  have := mv_pos h hab c x.1 x.2.1
  omega
/-- the state behind a move: its numbers -/
theorem behind_get {fl a b : Int} {L L' : List Grp} {A : List (Int × Int)} (h : StOk fl L) (hab : a ≠ b) (c : CanGo L a A) (hp : L'.Perm (there (mvAll L a b A))) (s w : Int) :
    getG L' s w = getG L s w + (if s = a then -wantOf A w else if s = b then wantOf A w else 0) := by
  have nd := mvAll_nodup (a := a) (b := b) (A := A) h.nd
  rw [perm_get hp (nd.sublist (List.filter_sublist.map _)), there_get nd (mv_mem h hab c), getG_all hab]
theorem there_pos {L : List Grp} : ∀ x ∈ there L, 0 < x.2.2 := fun x hx => by simpa using (List.mem_filter.mp hx).2
/-- .. is a state again -/
theorem behind_ok {fl a b : Int} {L L' : List Grp} {A : List (Int × Int)} (h : StOk fl L) (hab : a ≠ b) (c : CanGo L a A) (hA : ∀ x ∈ A, 0 ≤ x.1 ∧ x.1 < fl) (hb : 0 ≤ b ∧ b < fl) (hp : L'.Perm (there (mvAll L a b A))) (ha : L'.Pairwise ascP) : StOk fl L' := by
  refine ⟨fun x hx => ?_, ha⟩
  have p := there_pos x (hp.mem_iff.mp hx)
  have e := mem_get (asc_pairs ha) hx
  have g := behind_get h hab c hp x.1 x.2.1
  have q := c.le x.2.1 (h.pos a x.2.1)
  by_cases z : getG L x.1 x.2.1 = 0
  · have hw : wantOf A x.2.1 ≠ 0 := by
      intro w0
      rw [w0, z] at g
      have : (if x.1 = a then -(0 : Int) else if x.1 = b then 0 else 0) = 0 := by split <;> simp
      rw [this] at g
      omega
    rcases wantOf_cases c.asc x.2.1 with e0 | ⟨y, hy, e1, _⟩
    · exact absurd e0 hw
    · have := hA y hy
      by_cases xa : x.1 = a
      · rw [if_pos xa, z] at g
        omega
      · rw [if_neg xa, z] at g
        by_cases xb : x.1 = b
        · omega
        · rw [if_neg xb] at g
          omega
  · have := h.ok _ (get_mem z)
    simp only at this
    omega
/-- who has gone can go back -/
theorem back_can {fl a b : Int} {L L' : List Grp} {A : List (Int × Int)} (h : StOk fl L) (hab : a ≠ b) (c : CanGo L a A) (hp : L'.Perm (there (mvAll L a b A))) : CanGo L' b A := by
  refine ⟨c.asc, fun x hx => ⟨(c.ok x hx).1, ?_⟩⟩
  rw [behind_get h hab c hp, if_neg (Ne.symm hab), if_pos rfl, wantOf_mem c.asc x hx]
  have := h.pos b x.1
  omega
/-- a move and the same way back: the state it was -/
theorem there_back {fl a b : Int} {L L' M : List Grp} {A : List (Int × Int)} (h : StOk fl L) (h' : StOk fl L') (hab : a ≠ b) (c : CanGo L a A) (hp : L'.Perm (there (mvAll L a b A))) (hq : M.Perm (there (mvAll L' b a A))) (hM : M.Pairwise ascP) : M = L := by
  refine asc_one (fixed (asc_pairs hM) h.nd (fun x hx => there_pos x (hq.mem_iff.mp hx)) (fun x hx => by have := h.ok x hx; omega) fun s w => ?_) hM h.asc
  rw [behind_get h' (Ne.symm hab) (back_can h hab c hp) hq, behind_get h hab c hp]
  by_cases e1 : s = a
  · subst e1
    rw [if_pos rfl, if_neg hab, if_pos rfl]
    omega
  · by_cases e2 : s = b
    · subst e2
      rw [if_neg e1, if_pos rfl, if_pos rfl]
      omega
    · rw [if_neg e1, if_neg e2, if_neg e2, if_neg e1]
      omega
/-! ### the people -/
def sumG (L : List Grp) : Int := (L.map fun x => x.2.2).sum
theorem sumG_app (L M : List Grp) : sumG (L ++ M) = sumG L + sumG M := by
  unfold sumG
  rw [List.map_append, List.sum_append]
theorem has_of {L : List Grp} {s w : Int} (h : hasG L s w = false) : getG L s w = 0 := by
  unfold hasG at h
  unfold getG
  have : L.find? (fun x => decide (x.1 = s ∧ x.2.1 = w)) = none := by
    rw [List.find?_eq_none]
    intro x hx
    have := (List.any_eq_false.mp h) x hx
    exact this
  rw [this]
  rfl
end Law

namespace Law
open PySem L2 MyB MyR MyD MyC
local macro_rules | `(tactic| walk_at "hp") => `(tactic| first | assumption | exact upd_same | ((repeat rw [upd_ne (by assumption)]); assumption))
local macro_rules | `(tactic| walk_at "sq") => `(tactic| first | assumption | exact sqL (by assumption) | exact sqT (by assumption) | exact sqL upd_same | exact sqT upd_same | exact sqL (by walk_at "hp") | exact sqT (by walk_at "hp"))
local macro_rules | `(tactic| walk_at "rd") => `(tactic| with_reducible (first
  | refine r_seq ?_ | refine r_asg ?_ | refine r_op ?_ | refine r_un ?_
  | (refine' r_var ?rdh ?_; (case rdh => (with_unfolding_all rfl)))
  | refine r_c ?_ | refine r_I0 ?_ | refine r_U ?_ | refine r_eqI ?_ | refine r_neI ?_ | refine r_eqB ?_ | refine r_neB ?_
  | refine r_test ?_ | refine r_tB ?_ | refine r_not ?_ | refine r_and ?_ | refine r_or ?_ | refine r_yes ?_
  | refine r_andV ?_ | refine r_orV ?_ | refine r_notV ?_ | refine r_chain ?_ | refine r_if ?_ | refine r_next ?_ | refine r_ifS ?_
  | refine r_ret ?_ | refine r_drop ?_ | refine r_name ?_ | refine r_sub ?_ | refine r_gCons ?_ | refine r_gNil ?_
  | refine r_cons ?_ | refine r_nil ?_ | refine r_cb ?_ | refine r_call ?_ | refine r_make ?_ | refine r_fld ?_ | refine r_tup ?_ | refine r_lst ?_
  | refine r_par ?_ | refine r_par3 ?_ | refine r_rng1 ?_ | refine r_rng2 ?_ | refine r_for ?_ | refine r_iList ?_ | refine r_iTup ?_ | refine r_lc ?_ | refine r_bm ?_ | refine MyK.r_zip ?_ | refine MyK.r_enum ?_ | refine MyK.r_listRg ?_ | refine MyK.r_max3 ?_ | refine r_fldS ?_
  | refine r_sl ?_ | refine r_noPart ?_ | refine r_part ?_ | refine r_abs ?_ | refine r_int ?_ | refine r_intB ?_ | refine r_max ?_ | refine r_min ?_ | refine r_bl ?_ | refine r_theInt ?_ | refine r_par2 ?_
  | (refine' r_ixL ?rdh ?rdi ?_; (case rdh => (with_unfolding_all (walk_at "sq"))); (case rdi => (with_unfolding_all rfl)))
  | (refine' r_ixT ?rdh ?rdi ?_; (case rdh => (with_unfolding_all (walk_at "sq"))); (case rdi => (with_unfolding_all rfl)))
  | (refine' r_setL ?rdh ?rdi ?_; (case rdh => (with_unfolding_all (walk_at "hp"))); (case rdi => (with_unfolding_all rfl)))
  | (refine' r_lenL ?rdh ?_; (case rdh => (with_unfolding_all (walk_at "sq"))))
  | (refine' r_lenT ?rdh ?_; (case rdh => (with_unfolding_all (walk_at "sq"))))
  | (refine' r_gTup ?rdh ?rdi ?_; (case rdh => (with_unfolding_all (walk_at "sq"))); (case rdi => (with_unfolding_all rfl)))
  | (refine' r_I ?rdh ?_; (case rdh => (with_unfolding_all (first | assumption | decide | exact ⟨by decide, by decide⟩ | exact .inr ⟨by decide, by decide⟩ | exact ⟨by decide, by decide, by decide⟩ | exact ⟨by omega, by omega⟩ | exact .inl ⟨by omega, by omega⟩ | exact .inr ⟨by omega, by omega⟩))))
  | (refine' r_aug ?rdh ?_; (case rdh => (with_unfolding_all rfl)))))
local macro_rules | `(tactic| walk_at "rd*") => `(tactic| (repeat (walk_at "rd")))

theorem paired_idx {F : Addr → Grp → Prop} : ∀ {ys : List V} {L : List Grp}, ys.length = L.length → (∀ (i : Nat) (y : V), ys[i]? = some y → ∃ t x, y = V.ref t ∧ L[i]? = some x ∧ F t x) → ∃ ts : List Addr, ys = ts.map V.ref ∧ Paired F ts L
  | [], [], _, _ => ⟨[], rfl, .nil⟩
  | [], _ :: _, h, _ => by simp at h
  | _ :: _, [], h, _ => by simp at h
  | y :: ys, x :: L, h, k => by
    obtain ⟨ts, e, p⟩ := paired_idx (F := F) (ys := ys) (L := L) (by simpa using h) fun i z hz => by
      obtain ⟨t, x', e1, e2, e3⟩ := k (i + 1) z (by simpa using hz)
      exact ⟨t, x', e1, by simpa using e2, e3⟩
    obtain ⟨t, x', rfl, e2, e3⟩ := k 0 y rfl
    simp at e2
    subst e2
    exact ⟨t :: ts, by rw [e]; rfl, .cons e3 p⟩
section
variable {P : Program} {w : World} {K : PySem.W.Frag} {mg : Str → Option Value} {base : Heap} {CH CS CR : Addr}
def spLMade : Sp := fun vs H Q _ => ∃ (st g m ab : Addr) (lift n : Int) (L : List Grp) (A : List (Int × Int)), vs = [.ref st, .ref m] ∧ H st = some (.tup [.int lift, .ref g]) ∧ GrpsAt H g L ∧ L.length ≤ 10000000 ∧ (L.map pr).Nodup ∧
  H m = some (.tup [.int n, .ref ab]) ∧ AbAt H ab A ∧ A.length ≤ 1600 ∧ (∀ x ∈ A, hasG L lift x.1 = true) ∧
  ∀ t g' L' H', Same H H' → H' t = some (.tup [.int (lift + n), .ref g']) → GrpsAt H' g' L' → L'.Perm (there (mvAll L lift (lift + n) A)) → L'.Pairwise ascP → Q (.ref t) H'
theorem D__law_made (B : Bi mg) (R__law_made : Raw K mg "_law_made" s__law_made) : IsDef P w K mg base 2 "_law_made" ["_law_state", "_law_move_here"] spLMade := by
  refine R__law_made.ok (N := N__law_made) (ps := ["_law_state", "_law_move_here"]) sc__law_made (fun _ _ _ _ _ _ us hl => match us, hl with | [_, _], _ => rfl) (fun vs H Q E h => ?_) (fun f cdv A outer s H vs Q E hr h => ?_)
  · obtain ⟨st, g, m, ab, lift, n, L, A, rfl, _⟩ := h
    rfl
  · obtain ⟨st, g, m, ab, lift, n, L, A, rfl, hst, hg, hz, nd, hm, hA, hl, hh, k⟩ := h
    have hu := hu_of hr
    refine ⟨_, (pss_cons (ps_asg (pv 0) (MyK.pg_tup (K := K) (n := 2) rfl rfl (pgs_cons (pg_name (i := 2) sc__law_made.nd rfl (Or.inl rfl)) (pgs_cons (pg_name (i := 3) sc__law_made.nd rfl (Or.inl rfl)) pgs_nil))))
  (pss_cons (ps_set (i := 4) sc__law_made.nd rfl (Or.inr rfl) (pe_callTy (MyC.call_dictL (K := K) rfl rfl (Nat.lt_of_le_of_lt (Nat.add_le_add_left (by decide : 2 ≤ 64) _) hr.units)) (by rfl) B.dict (by decide +kernel) (pa_cons (pe_lc (own := [("_law_stand", 5), ("_law_want", 6), ("_law_many", 7)]) rfl sc__law_made.nd (MyK.pi_tup (K := K) rfl (pv 3)) (blkOk_by (own := [("_law_stand", 5), ("_law_want", 6), ("_law_many", 7)]) (N := N__law_made) (sc := defScope s__law_made) (by decide +kernel)) (fun _ _ _ _ _ => (MyK.pg_tup (K := K) (n := 3) rfl rfl (pgs_cons (pg_name (i := 5) sc__law_made.nd rfl (Or.inl rfl)) (pgs_cons (pg_name (i := 6) sc__law_made.nd rfl (Or.inl rfl)) (pgs_cons (pg_name (i := 7) sc__law_made.nd rfl (Or.inl rfl)) pgs_nil))))) (fun _ _ _ _ _ => pts_nil) (fun _ _ _ _ _ => (pe_tup (pa_cons (pe_tup (pa_cons (pv 5) (pa_cons (pv 6) pa_nil))) (pa_cons (pv 7) pa_nil))))) pa_nil)))
  (pss_cons (ps_for PassesOwn.never rfl (MyK.pi_tup (K := K) rfl (pe_ix (MyK.ix_tup (K := K) rfl) (pv 1) pe_int (fun _ _ => rfl))) (MyK.pg_tup (K := K) (n := 2) rfl rfl (pgs_cons (pg_name (i := 6) sc__law_made.nd rfl (Or.inl rfl)) (pgs_cons (pg_name (i := 7) sc__law_made.nd rfl (Or.inl rfl)) pgs_nil)))
    (pss_cons (ps_asg (pe_op op_sub (pe_dget hu (pv 4) (pe_tup (pa_cons (pv 2) (pa_cons (pv 6) pa_nil))) (fun _ _ => rfl)) (pv 7)) (pg_sub (pv 4) (pe_tup (pa_cons (pv 2) (pa_cons (pv 6) pa_nil))) (set_dict hu)))
      (pss_one (ps_asg (pe_op op_add (pe_dget2 hu (pv 4) (pe_tup (pa_cons (pe_op op_add (pv 2) (pe_ix (MyK.ix_tup (K := K) rfl) (pv 1) pe_int (fun _ _ => rfl))) (pa_cons (pv 6) pa_nil))) pe_int ⟨by rfl, by rfl, by rfl, by rfl⟩) (pv 7)) (pg_sub (pv 4) (pe_tup (pa_cons (pe_op op_add (pv 2) (pe_ix (MyK.ix_tup (K := K) rfl) (pv 1) pe_int (fun _ _ => rfl))) (pa_cons (pv 6) pa_nil))) (set_dict hu))))))
  (pss_cons (ps_lock (ps_setLc (i := 8) (own := [("_law_pair", 9)]) rfl sc__law_made.nd rfl rfl (sw_true rfl rfl rfl (by decide +kernel)) (pi_keys (pv 4)) (blkOk_by (own := [("_law_pair", 9)]) (N := N__law_made) (sc := defScope s__law_made) (by decide +kernel)) (fun _ _ _ _ _ => (pg_name (i := 9) sc__law_made.nd rfl (Or.inl rfl))) (fun _ _ _ _ _ => (pts_one (pt_cmpR op_gt (pe_dget hu (pv 4) (pv 9) (fun _ _ => rfl)) pe_int (nomark _)))) (fun _ _ _ _ _ => (pe_op (MyK.op_catT (K := K) rfl) (pv 9) (pe_tup (pa_cons (pe_dget hu (pv 4) (pv 9) (fun _ _ => rfl)) pa_nil))))))
  (pss_one (ps_ret (pe_tup (pa_cons (pe_op op_add (pv 2) (pe_ix (MyK.ix_tup (K := K) rfl) (pv 1) pe_int (fun _ _ => rfl))) (pa_cons (pe_callTy (MyK.q_tup (K := K) rfl) (by rfl) B.tuple (by decide +kernel) (pa_cons (pe_callB (MyK.cr_sortedTI (K := K) rfl) (by rfl) B.sorted (by decide +kernel) (pa_cons (pv 8) pa_nil)) pa_nil)) pa_nil))))))))), ?_⟩
    obtain ⟨bs, hgb, pb⟩ := id hg
    have hlenb : (bs.map V.ref).length = L.length := by rw [List.length_map]; exact pb.length
    walk_at "rd*"
    refine r_tup1 (sqT hgb) ?_
    intro D hD
    refine lc_map walk_tup hD (by omega) (fun H' s => sqT (s _ _ hgb)) (fun i v H' => ∃ t q x, v = V.ref t ∧ L[i]? = some x ∧ H' t = some (.tup [.ref q, .int x.2.2]) ∧ H' q = some (.tup [.int x.1, .int x.2.1])) ?_ ?_ ?_
    · rintro i v HA HB s ⟨t, q, x, e1, e2, e3, e4⟩
      exact ⟨t, q, x, e1, e2, s _ _ e3, s _ _ e4⟩
    · rintro i x HA HB hi sA ⟨rfl, hx⟩ Add hAdd
      obtain ⟨a, z, rfl, hz, ha⟩ := GrpsAt.at (p := g) pb hx
      refine r_gTup (xs := [.int z.1, .int z.2.1, .int z.2.2]) (sqT (sA _ _ ha)) rfl ?_
      walk_at "rd*"
      refine ⟨rfl, ?_⟩
      walk_at "rd*"
      refine r_mkT (szl (by simp)) fun q H3 nq s3 h3 => ?_
      walk_at "rd*"
      refine r_mkT (szl (by simp)) fun t H4 nt s4 h4 => ?_
      exact hAdd _ _ (s3.trans s4) ⟨t, q, z, rfl, hz, h4, s4 _ _ h3⟩
    intro H1 ys s1 h1 hl1 hy1
    obtain ⟨ts, rfl, pt⟩ := paired_idx (F := fun t (x : Grp) => ∃ q, H1 t = some (.tup [.ref q, .int x.2.2]) ∧ H1 q = some (.tup [.int x.1, .int x.2.1])) (hl1.trans hlenb) fun i y hy => by
      obtain ⟨t, q, x, e1, e2, e3, e4⟩ := hy1 i y hy
      exact ⟨t, x, e1, e2, q, e3, e4⟩
    walk_at "rd*"
    refine ⟨D, ts, L, rfl, h1, pt, nd, fun d hd => ?_⟩
    have hdH : H d = none := by
      cases e : H d with
      | none => rfl
      | some o => exact absurd (s1 _ _ e) (by rw [hd]; intro z; cases z)
    have s2 : Same H (upd H1 d (.dT (L.map enc))) := MyB.Same.new s1 hd
    have h2 : (upd H1 d (.dT (L.map enc))) d = some (.dT (L.map enc)) := upd_same
    generalize upd H1 d (.dT (L.map enc)) = H2 at s2 h2 ⊢
    have hm2 := s2 _ _ hm
    obtain ⟨as, ha, pa⟩ := hA.mono (TupsK.of s2)
    have hlen : (as.map V.ref).length = A.length := by rw [List.length_map]; exact pa.length
    walk_at "rd*"
    refine r_tup1 (sqT ha) ?_
    have nmd : m ≠ d := ne_of hm2 h2 (by intro z; cases z)
    refine for_it walk_tup (fun i σ' H' => (∀ b o, b ≠ d → H2 b = some o → H' b = some o) ∧ H' d = some (.dT ((mvAll L lift (lift + n) (A.take i)).map enc)) ∧ ∃ v5 v6 v7 v8 v9 : Option V, σ' = [some (.ref st), some (.ref m), some (.int lift), some (.ref g), some (.ref d), v5, v6, v7, v8, v9])
      ⟨fun b o _ z => z, h2, _, _, _, _, _, rfl⟩ (fun i σ' H' _ q => sqT (q.1 _ _ (ne_of ha h2 (by intro z; cases z)) ha)) ?_ ?_
    · rintro i x σ' H3 HX hi ⟨s3, h3, v5, v6, v7, v8, v9, rfl⟩ ⟨rfl, hx⟩
      obtain ⟨a, z, rfl, hz', hza⟩ := abAt_at pa hx
      have nad : a ≠ d := ne_of hza h2 (by intro z; cases z)
      have hz2 := s3 _ _ nad hza
      have hm3 := s3 _ _ nmd hm2
      have has := mvAll_has (a := lift) (b := lift + n) (A := A.take i) (hh z (List.mem_of_getElem? hz'))
      have hlT : (A.take i).length ≤ A.length := by rw [List.length_take]; omega
      have hlm := mvAll_len (L := L) (a := lift) (b := lift + n) (A := A.take i)
      refine r_gTup (xs := [.int z.1, .int z.2]) (sqT hz2) rfl ?_
      walk_at "rd*"
      refine ⟨_, rfl, ?_⟩
      walk_at "rd*"
      refine r_mkT (szl (by simp)) fun t4 H4 nt4 s4 h4 => ?_
      have h24 := s4 _ _ h3
      refine ⟨d, .int (getG (mvAll L lift (lift + n) (A.take i)) lift z.1), rfl, ?_, ?_⟩
      · rw [← valV_has has]
        exact DGet.t (k := [.inl lift, .inl z.1]) h24 h4
      walk_at "rd*"
      refine r_mkT (szl (by simp)) fun t5 H5 nt5 s5 h5 => ?_
      have h25 := s5 _ _ h24
      have hm5 := s5 _ _ (s4 _ _ hm3)
      refine r_setP h25 h5 (by omega) fun H6 k6 h6 => ?_
      have hm6 := k6 _ _ nmd hm5
      walk_at "rd*"
      refine ⟨_, rfl, d, rfl, .inr ⟨_, .inl h6⟩, ?_⟩
      walk_at "rd*"
      refine r_mkT (szl (by simp)) fun t7 H7 nt7 s7 h7 => ?_
      have h67 := s7 _ _ h6
      have hm7 := s7 _ _ hm6
      walk_at "rd*"
      refine ⟨_, DGet.t (k := [.inl (lift + n), .inl z.1]) h67 h7, ?_⟩
      rw [valV_or]
      walk_at "rd*"
      refine r_mkT (szl (by simp)) fun t8 H8 nt8 s8 h8 => ?_
      have h68 := s8 _ _ h67
      have hp6 := putG_len (mvAll L lift (lift + n) (A.take i)) lift z.1 (getG (mvAll L lift (lift + n) (A.take i)) lift z.1 - z.2)
      refine r_setP h68 h8 (by omega) fun H9 k9 h9 => ?_
      walk_at "rd*"
      refine ⟨fun b o nb eb => k9 b o nb (s8 _ _ (s7 _ _ (k6 b o nb (s5 _ _ (s4 _ _ (s3 b o nb eb)))))), ?_, _, _, _, _, _, rfl⟩
      have e9 : A.take (i + 1) = A.take i ++ [z] := by rw [List.take_succ, hz']; rfl
      rw [h9, e9, mvAll_snoc]
      rfl
    rintro σ' H3 ⟨s3, hd3, v5, v6, v7, v8, v9, rfl⟩
    rw [hlen, List.take_length] at hd3
    have s03 : Same H H3 := fun b o eb => s3 b o (fun z => by rw [z, hdH] at eb; cases eb) (s2 _ _ eb)
    have hm03 := s03 _ _ hm
    have hz0 : (mvAll L lift (lift + n) A).length ≤ 16000000 := by
      have := mvAll_len (L := L) (a := lift) (b := lift + n) (A := A)
      omega
    have nd0 := mvAll_nodup (a := lift) (b := lift + n) (A := A) nd
    generalize mvAll L lift (lift + n) A = L0 at hd3 hz0 nd0 k
    clear s3 h2 h1 s1 s2 hm2 ha hlen pa pt hy1 hl1 hD hd nmd
    walk_at "rd*"
    refine ⟨d, _, hd3, trivial, fun od => ?_⟩
    have hf : (upd H3 d (.frz od (.dT (L0.map enc)))) d = some (.frz od (.dT (L0.map enc))) := upd_same
    generalize ef : upd H3 d (.frz od (.dT (L0.map enc))) = Hf at hf
    walk_at "rd*"
    refine ⟨_, rfl, d, od, rfl, .inr ⟨_, hf, ?_⟩⟩
    intro D hDD
    have hDd : D ≠ d := fun e => by
      rw [e, hf] at hDD
      cases hDD
    refine lc_filter walk_keysT hDD (by rw [List.length_map]; exact hz0) (fun H3' s => s _ _ hf) (fun i => (L0[i]?.map fun x => decide (0 < x.2.2)).getD false) (fun m v H3' => ∃ t x, v = V.ref t ∧ L0[m]? = some x ∧ H3' t = some (.tup (gv x))) ?_ ?_ ?_
    · rintro m v H1 H2 s ⟨t, x, e1, e2, e3⟩
      exact ⟨t, x, e1, e2, s _ _ e3⟩
    · rintro m x H1 H2 hm s1 ⟨rfl, ke, va, q, e1, rfl, hq⟩ Add Nx hAdd hNx
      rw [List.getElem?_map] at e1
      obtain ⟨x, hx, e2⟩ := Option.map_eq_some_iff.mp e1
      have ek : ke = [.inl x.1, .inl x.2.1] := (congrArg Prod.fst e2).symm
      subst ek
      have hget : DGet H2 d (.ref q) (some (.int x.2.2)) := .inr ⟨_, [.inl x.1, .inl x.2.1], q, .inr ⟨od, s1 _ _ hf⟩, rfl, hq, (valV_enc nd0 hx).symm⟩
      walk_at "rd*"
      refine ⟨rfl, ?_⟩
      walk_at "rd*"
      refine ⟨_, rfl, _, rfl, d, .int x.2.2, rfl, hget, ?_⟩
      walk_at "rd*"
      have ef2 : (L0[m]?.map fun x => decide (0 < x.2.2)).getD false = decide (0 < x.2.2) := by
        rw [hx]
        rfl
      rw [show decide (x.2.2 > 0) = (L0[m]?.map fun x => decide (0 < x.2.2)).getD false from ef2.symm]
      refine ite_b (fun c => ?_) (fun c => ?_)
      · walk_at "rd*"
        refine ⟨_, rfl, _, rfl, d, .int x.2.2, rfl, hget, ?_⟩
        walk_at "rd*"
        refine r_mkT (szl (by simp)) fun t G3 nt r3 h3 => ?_
        refine MyK.r_catT (xs := [.int x.1, .int x.2.1]) (sqT (r3 _ _ hq)) (sqT h3) (by simp) (by simp) (szl (by simp)) fun u H4 nu s4 h4 => ?_
        exact hAdd c _ _ (r3.trans s4) ⟨u, x, rfl, hx, h4⟩
      · exact hNx c _ (Same.refl _)
    intro H2 ys s2 hh2 hP
    have hf2 := s2 _ _ hf
    obtain ⟨bs, rfl, hb⟩ := paired_pick (L := L0) (f := fun x => decide (0 < x.2.2)) (G := fun a x => H2 a = some (.tup (gv x))) (fun i y z => by
      obtain ⟨t, x, e1, e2, e3⟩ := z
      exact ⟨t, x, e1, e2, e3⟩) (by rw [List.length_map]) hP
    walk_at "rd*"
    refine ⟨hf2, ?_⟩
    have r3 : Same H3 (upd H2 d (.dT (L0.map enc))) := fun b o e => by
      by_cases c : b = d
      · subst c
        rw [upd_same]
        rw [hd3] at e
        exact e
      · rw [upd_ne c]
        refine s2 b o ?_
        rw [← ef, upd_ne c]
        exact e
    have h3 : (upd H2 d (.dT (L0.map enc))) D = some (.lst (bs.map V.ref)) := by
      rw [upd_ne hDd]
      exact hh2
    have hb3 : Paired (fun a x => (upd H2 d (.dT (L0.map enc))) a = some (.tup (gv x))) bs (there L0) := Paired.mapP hb fun a x e => by
      rw [upd_ne (ne_of e hf2 (by intro z; cases z))]
      exact e
    generalize upd H2 d (.dT (L0.map enc)) = G3 at r3 h3 hb3
    have hR3 : ∀ (m : Nat) (v : V), (bs.map V.ref)[m]? = some v → ∃ t x, v = V.ref t ∧ (there L0)[m]? = some x ∧ G3 t = some (.tup (gv x)) := fun m v e => by
      rw [List.getElem?_map] at e
      obtain ⟨t, et, rfl⟩ := Option.map_eq_some_iff.mp e
      obtain ⟨x, e1, e2⟩ := pairedAt hb3 et
      exact ⟨t, x, rfl, e1, e2⟩
    have hl3 : (bs.map V.ref).length = (there L0).length := by rw [List.length_map]; exact hb3.length
    have nd3 : ((there L0).map pr).Nodup := nd0.sublist (List.filter_sublist.map _)
    have hmG := (s03.trans r3) _ _ hm
    walk_at "rd*"
    refine ⟨D, bs.map V.ref, kH G3, rfl, sqL h3, ?_, ?_⟩
    · intro y hy
      obtain ⟨m, hm⟩ := List.getElem?_of_mem hy
      obtain ⟨t, x, rfl, _, ht⟩ := hR3 m y hm
      rw [kH_at (ns := gl x) ht]
      exact ⟨by simp, t, rfl, ht⟩
    · intro zs p hs hp' hn
      obtain ⟨L, as, q1, q2, rfl, q3⟩ := sorted_groups hl3 hR3 nd3 hs hp'
      have s4 : Same G3 (upd G3 p (.lst (as.map V.ref))) := Same.new0 hn
      walk_at "rd*"
      have s4' := r3.trans s4
      refine r_tupL (sqL upd_same) fun g9 H5 ng s5 h5 => ?_
      have s6 := s4.trans s5
      have s7 := s03.trans (r3.trans s6)
      have hm7 := s7 _ _ hm
      walk_at "rd*"
      refine r_mkT (szl (by simp)) fun tt H6 nt s8 htt => ?_
      walk_at "rd*"
      exact k tt g9 L H6 (s7.trans s8) htt ⟨as, s8 _ _ h5, Paired.mapP q3 fun a x z => (s6.trans s8) _ _ z⟩ q1 q2
end
end Law

namespace Law
open PySem L2 MyB MyR MyD MyC
local macro_rules | `(tactic| walk_at "hp") => `(tactic| first | assumption | exact upd_same | ((repeat rw [upd_ne (by assumption)]); assumption))
local macro_rules | `(tactic| walk_at "sq") => `(tactic| first | assumption | exact sqL (by assumption) | exact sqT (by assumption) | exact sqL upd_same | exact sqT upd_same | exact sqL (by walk_at "hp") | exact sqT (by walk_at "hp"))
local macro_rules | `(tactic| walk_at "rd") => `(tactic| with_reducible (first
  | refine r_seq ?_ | refine r_asg ?_ | refine r_op ?_ | refine r_un ?_
  | (refine' r_var ?rdh ?_; (case rdh => (with_unfolding_all rfl)))
  | refine r_c ?_ | refine r_I0 ?_ | refine r_U ?_ | refine r_eqI ?_ | refine r_neI ?_ | refine r_eqB ?_ | refine r_neB ?_
  | refine r_test ?_ | refine r_tB ?_ | refine r_not ?_ | refine r_and ?_ | refine r_or ?_ | refine r_yes ?_
  | refine r_andV ?_ | refine r_orV ?_ | refine r_notV ?_ | refine r_chain ?_ | refine r_if ?_ | refine r_next ?_ | refine r_ifS ?_
  | refine r_ret ?_ | refine r_drop ?_ | refine r_name ?_ | refine r_sub ?_ | refine r_gCons ?_ | refine r_gNil ?_
  | refine r_cons ?_ | refine r_nil ?_ | refine r_cb ?_ | refine r_call ?_ | refine r_make ?_ | refine r_fld ?_ | refine r_tup ?_ | refine r_lst ?_
  | refine r_par ?_ | refine r_par3 ?_ | refine r_rng1 ?_ | refine r_rng2 ?_ | refine r_for ?_ | refine r_iList ?_ | refine r_iTup ?_ | refine r_lc ?_ | refine r_bm ?_ | refine MyK.r_zip ?_ | refine MyK.r_enum ?_ | refine MyK.r_listRg ?_ | refine MyK.r_max3 ?_ | refine r_fldS ?_
  | refine r_sl ?_ | refine r_noPart ?_ | refine r_part ?_ | refine r_abs ?_ | refine r_int ?_ | refine r_intB ?_ | refine r_max ?_ | refine r_min ?_ | refine r_bl ?_ | refine r_theInt ?_ | refine r_par2 ?_
  | (refine' r_ixL ?rdh ?rdi ?_; (case rdh => (with_unfolding_all (walk_at "sq"))); (case rdi => (with_unfolding_all rfl)))
  | (refine' r_ixT ?rdh ?rdi ?_; (case rdh => (with_unfolding_all (walk_at "sq"))); (case rdi => (with_unfolding_all rfl)))
  | (refine' r_setL ?rdh ?rdi ?_; (case rdh => (with_unfolding_all (walk_at "hp"))); (case rdi => (with_unfolding_all rfl)))
  | (refine' r_lenL ?rdh ?_; (case rdh => (with_unfolding_all (walk_at "sq"))))
  | (refine' r_lenT ?rdh ?_; (case rdh => (with_unfolding_all (walk_at "sq"))))
  | (refine' r_gTup ?rdh ?rdi ?_; (case rdh => (with_unfolding_all (walk_at "sq"))); (case rdi => (with_unfolding_all rfl)))
  | (refine' r_I ?rdh ?_; (case rdh => (with_unfolding_all (first | assumption | decide | exact ⟨by decide, by decide⟩ | exact .inr ⟨by decide, by decide⟩ | exact ⟨by decide, by decide, by decide⟩ | exact ⟨by omega, by omega⟩ | exact .inl ⟨by omega, by omega⟩ | exact .inr ⟨by omega, by omega⟩))))
  | (refine' r_aug ?rdh ?_; (case rdh => (with_unfolding_all rfl)))))
local macro_rules | `(tactic| walk_at "rd*") => `(tactic| (repeat (walk_at "rd")))

/-! ### the wants of those at a floor, by the numbers under the pairs -/
theorem valV_merge {k : Key} : ∀ {l kvs : List (Key × V)}, (∀ p ∈ l, p.1 ≠ k) → valV (mergeK kvs l) k = valV kvs k
  | [], _, _ => rfl
  | p :: l, kvs, h => by
    show valV (mergeK (putK kvs p.1 p.2) l) k = _
    rw [valV_merge fun q hq => h q (List.mem_cons_of_mem _ hq), valV_put, if_neg (fun e => h p List.mem_cons_self e.symm)]
theorem valV_wants {f w : Int} : ∀ {L : List Grp} {kvs : List (Key × V)}, (L.map pr).Nodup → hasG L f w = true → valV (mergeK kvs (wantKv L f)) (.inl w) = some (.int (getG L f w))
  | [], _, _, h => by simp [hasG] at h
  | x :: L, kvs, nd, h => by
    rw [List.map_cons, List.nodup_cons] at nd
    by_cases c : x.1 = f ∧ x.2.1 = w
    · obtain ⟨c1, c2⟩ := c
      have e : wantKv (x :: L) f = (Sum.inl x.2.1, V.int x.2.2) :: wantKv L f := by
        unfold wantKv
        rw [List.filter_cons_of_pos (by simpa using c1), List.map_cons]
      rw [e]
      show valV (mergeK (putK kvs (.inl x.2.1) (.int x.2.2)) (wantKv L f)) (.inl w) = _
      rw [valV_merge (fun p hp => ?_), valV_put, if_pos (by rw [c2])]
      · have : getG (x :: L) f w = x.2.2 := by
          unfold getG
          rw [List.find?_cons, decide_eq_true ⟨c1, c2⟩]
          rfl
        rw [this]
      · unfold wantKv at hp
        obtain ⟨y, hy, rfl⟩ := List.mem_map.mp hp
        have hy2 := List.mem_filter.mp hy
        intro e
        have e : (Sum.inl y.2.1 : Key) = .inl w := e
        injection e with e
        have y1 : y.1 = f := by simpa using hy2.2
        exact nd.1 (List.mem_map.mpr ⟨y, hy2.1, Prod.ext (y1.trans c1.symm) (e.trans c2.symm)⟩)
    · have hL : hasG L f w = true := by
        unfold hasG at h ⊢
        rw [List.any_cons, decide_eq_false c, Bool.false_or] at h
        exact h
      have hg : getG (x :: L) f w = getG L f w := by
        unfold getG
        rw [List.find?_cons, decide_eq_false c]
      rw [hg]
      by_cases c1 : x.1 = f
      · have e : wantKv (x :: L) f = (Sum.inl x.2.1, V.int x.2.2) :: wantKv L f := by
          unfold wantKv
          rw [List.filter_cons_of_pos (by simpa using c1), List.map_cons]
        rw [e]
        exact valV_wants (kvs := putK kvs (.inl x.2.1) (.int x.2.2)) nd.2 hL
      · have e : wantKv (x :: L) f = wantKv L f := by
          unfold wantKv
          rw [List.filter_cons_of_neg (by simpa using c1)]
        rw [e]
        exact valV_wants nd.2 hL
theorem has_get {L : List Grp} {s w : Int} (h : getG L s w ≠ 0) : hasG L s w = true := by
  cases c : hasG L s w with
  | true => rfl
  | false => exact absurd (has_of c) h
/-! ### the people stay -/
theorem sumG_cons (x : Grp) (L : List Grp) : sumG (x :: L) = x.2.2 + sumG L := by
  unfold sumG
  rw [List.map_cons, List.sum_cons]
theorem sumG_put {s w m : Int} : ∀ {L : List Grp}, (L.map pr).Nodup → sumG (putG L s w m) = sumG L - getG L s w + m
  | L, nd => by
    by_cases h : hasG L s w = true
    · have e : putG L s w m = L.map fun x => if x.1 = s ∧ x.2.1 = w then (x.1, x.2.1, m) else x := by
        unfold putG
        rw [if_pos h]
      rw [e]
      clear e
      induction L with
      | nil => simp [hasG] at h
      | cons x L ih =>
        rw [List.map_cons, List.nodup_cons] at nd
        rw [List.map_cons, sumG_cons, sumG_cons]
        by_cases c : x.1 = s ∧ x.2.1 = w
        · have hg : getG (x :: L) s w = x.2.2 := by
            unfold getG
            rw [List.find?_cons, decide_eq_true c]
            rfl
          have hm : (L.map fun x => if x.1 = s ∧ x.2.1 = w then (x.1, x.2.1, m) else x) = L := by
            refine (List.map_congr_left fun y hy => ?_).trans (List.map_id L)
            have : ¬ (y.1 = s ∧ y.2.1 = w) := fun z => nd.1 (List.mem_map.mpr ⟨y, hy, Prod.ext (z.1.trans c.1.symm) (z.2.trans c.2.symm)⟩)
            rw [if_neg this]
            rfl
          rw [if_pos c, hg, hm]
          show m + sumG L = _
          omega
        · have hL : hasG L s w = true := by
            unfold hasG at h ⊢
            rw [List.any_cons, decide_eq_false c, Bool.false_or] at h
            exact h
          have hg : getG (x :: L) s w = getG L s w := by
            unfold getG
            rw [List.find?_cons, decide_eq_false c]
          rw [if_neg c, hg, ih nd.2 hL]
          omega
    · have h' : hasG L s w = false := by simpa using h
      have e : putG L s w m = L ++ [(s, w, m)] := by
        unfold putG
        rw [if_neg h]
      rw [e, sumG_app, has_of h']
      have : sumG [(s, w, m)] = m := by
        rw [sumG_cons]
        show m + 0 = m
        omega
      omega
theorem sumG_mv {a b : Int} {L : List Grp} {x : Int × Int} (nd : (L.map pr).Nodup) : sumG (mvG L a b x) = sumG L := by
  unfold mvG
  rw [sumG_put (putG_nodup nd), sumG_put nd]
  omega
theorem sumG_all {a b : Int} : ∀ {A : List (Int × Int)} {L : List Grp}, (L.map pr).Nodup → sumG (mvAll L a b A) = sumG L
  | [], _, _ => rfl
  | x :: A, L, nd => by
    show sumG (mvAll (mvG L a b x) a b A) = _
    have n2 : ((mvG L a b x).map pr).Nodup := putG_nodup (putG_nodup nd)
    rw [sumG_all n2, sumG_mv nd]
theorem sumG_there : ∀ {L : List Grp}, (∀ x ∈ L, 0 ≤ x.2.2) → sumG (there L) = sumG L
  | [], _ => rfl
  | x :: L, h => by
    have ih := sumG_there (L := L) fun y hy => h y (List.mem_cons_of_mem _ hy)
    have hx := h x List.mem_cons_self
    unfold there at ih ⊢
    by_cases c : 0 < x.2.2
    · rw [List.filter_cons_of_pos (by simpa using c), sumG_cons, sumG_cons, ih]
    · rw [List.filter_cons_of_neg (by simpa using c), sumG_cons, ih]
      omega
theorem sumG_perm {L M : List Grp} (h : L.Perm M) : sumG L = sumG M := by
  induction h with
  | nil => rfl
  | cons x _ ih => rw [sumG_cons, sumG_cons, ih]
  | swap x y l =>
    rw [sumG_cons, sumG_cons, sumG_cons, sumG_cons]
    omega
  | trans _ _ ih1 ih2 => exact ih1.trans ih2
/-- a move keeps the people -/
theorem behind_sum {fl a b : Int} {L L' : List Grp} {A : List (Int × Int)} (h : StOk fl L) (hab : a ≠ b) (c : CanGo L a A) (hp : L'.Perm (there (mvAll L a b A))) : sumG L' = sumG L := by
  rw [sumG_perm hp, sumG_there (mv_mem h hab c), sumG_all h.nd]
/-- what is_move asks -/
theorem CanGo.here {L : List Grp} {a : Int} {A : List (Int × Int)} (c : CanGo L a A) (nd : (L.map pr).Nodup) : ∀ x ∈ A, hasG L a x.1 = true ∧ ∃ v : Int, valV (wantsK L a) (.inl x.1) = some (.int v) ∧ x.2 ≤ v := fun x hx => by
  have q := c.ok x hx
  have h : hasG L a x.1 = true := has_get (by omega)
  exact ⟨h, _, valV_wants nd h, q.2⟩
section
variable {P : Program} {w : World} {K : PySem.W.Frag} {mg : Str → Option Value} {base : Heap} {CH CS CR : Addr}
/-- moved(standing, move), a move that can be made -/
def spMoved (K : PySem.W.Frag) (CH CR : Addr) : Sp := fun vs H Q _ => ∃ (p hp g m ab : Addr) (fl rm lift n : Int) (L : List Grp) (A : List (Int × Int)), vs = [.ref p, .ref m] ∧ StAt K CH H p hp fl rm lift g ∧ GrpsAt H g L ∧ L.length ≤ 10000000 ∧ StOk fl L ∧ MoveOk H m ab n A L fl rm lift ∧ CanGo L lift A ∧
  ∀ x g' L' H', Same H H' → StC K CH CR H' x hp fl rm (lift + n) g' → GrpsAt H' g' L' → L'.Perm (there (mvAll L lift (lift + n) A)) → L'.Pairwise ascP → Q (.ref x) H'
theorem D_moved (B : Bi mg) (R_moved : Raw K mg "moved" s_moved) (D_is_move : IsDef P w K mg base 6 "is_move" ["standing", "thing"] (spIsMove K CH)) (D_behind_move : IsDef P w K mg base 5 "behind_move" ["standing", "move"] (spBehind K CH CR)) :
    IsDef P w K mg base 7 "moved" ["standing", "move"] (spMoved K CH CR) := by
  refine R_moved.ok (N := N_moved) (ps := ["standing", "move"]) sc_moved (fun _ _ _ _ _ _ us hl => match us, hl with | [_, _], _ => rfl) (fun vs H Q E h => ?_) (fun f cdv A outer s H vs Q E hr h => ?_)
  · obtain ⟨p, hp, g, m, ab, fl, rm, lift, n, L, A, rfl, _⟩ := h
    rfl
  · obtain ⟨p, hp, g, m, ab, fl, rm, lift, n, L, A, rfl, hs, hg, hz, hS, hM, hC, k⟩ := h
    refine ⟨_, (pss_cons (ps_if (pt_not (pt_val (pe_callD D_is_move (hr.mono (by decide)) rfl (pa_cons (pv 0) (pa_cons (pv 1) pa_nil)))))
    (pss_one ps_never)
    pss_nil)
  (pss_one (ps_ret (pe_callD D_behind_move (hr.mono (by decide)) rfl (pa_cons (pv 0) (pa_cons (pv 1) pa_nil)))))), ?_⟩
    walk_at "rd*"
    refine ⟨p, hp, g, m, ab, fl, rm, lift, n, L, A, rfl, hs, hg, by omega, hM, fun H1 s1 => ?_⟩
    have hM1 := hM.mono (TupsK.of s1)
    walk_at "rd*"
    refine iteF ?_
    walk_at "rd*"
    exact ⟨p, hp, g, m, ab, fl, rm, lift, n, L, A, rfl, hs.mono (.of s1), hg.mono (.of s1), hz, hS.nd, hM1.hm, hM1.hA, hM1.hR.len, fun x hx => (hC.here hS.nd x hx).1, fun x g' L' H' s' a b c d => k x g' L' H' (s1.trans s') a b c d⟩
/-- those at the lift's floor: for each floor wanted the number -/
def hereL (L : List Grp) (lift : Int) : List (Int × Int) := (L.filter fun x => decide (x.1 = lift)).map fun x => (x.2.1, x.2.2)
def spHere : Sp := fun vs H Q _ => ∃ (st g : Addr) (lift : Int) (L : List Grp), vs = [.ref st] ∧ H st = some (.tup [.int lift, .ref g]) ∧ GrpsAt H g L ∧ L.length ≤ 16000000 ∧
  ∀ r (ts : List Addr) H', H r = none → Same H H' → H' r = some (.lst (ts.map V.ref)) → Paired (fun t (x : Grp) => H' t = some (.tup [.int x.2.1, .int x.2.2])) ts (L.filter fun x => decide (x.1 = lift)) → Q (.ref r) H'
theorem D__law_here (B : Bi mg) (R__law_here : Raw K mg "_law_here" s__law_here) : IsDef P w K mg base 2 "_law_here" ["_law_state"] spHere := by
  refine R__law_here.ok (N := N__law_here) (ps := ["_law_state"]) sc__law_here (fun _ _ _ _ _ _ us hl => match us, hl with | [_], _ => rfl) (fun vs H Q E h => ?_) (fun f cdv A outer s H vs Q E hr h => ?_)
  · obtain ⟨st, g, lift, L, rfl, _⟩ := h
    rfl
  · obtain ⟨st, g, lift, L, rfl, hst, ⟨as, hg, hpa⟩, hz, k⟩ := h
    refine ⟨_, (pss_one (ps_ret (pe_lc (own := [("_law_stand", 1), ("_law_want", 2), ("_law_many", 3)]) rfl sc__law_here.nd (MyK.pi_tup (K := K) rfl (pe_ix (MyK.ix_tup (K := K) rfl) (pv 0) pe_int (fun _ _ => rfl))) (blkOk_by (own := [("_law_stand", 1), ("_law_want", 2), ("_law_many", 3)]) (N := N__law_here) (sc := defScope s__law_here) (by decide +kernel)) (fun _ _ _ _ _ => (MyK.pg_tup (K := K) (n := 3) rfl rfl (pgs_cons (pg_name (i := 1) sc__law_here.nd rfl (Or.inl rfl)) (pgs_cons (pg_name (i := 2) sc__law_here.nd rfl (Or.inl rfl)) (pgs_cons (pg_name (i := 3) sc__law_here.nd rfl (Or.inl rfl)) pgs_nil))))) (fun _ _ _ _ _ => (pts_one (pt_cmpR op_eq (pv 1) (pe_ix (MyK.ix_tup (K := K) rfl) (pv 0) pe_int (fun _ _ => rfl)) (nomark _)))) (fun _ _ _ _ _ => (pe_tup (pa_cons (pv 2) (pa_cons (pv 3) pa_nil))))))), ?_⟩
    walk_at "rd*"
    refine r_tup1 (sqT hg) ?_
    intro D hD
    refine lc_filter walk_tup hD (by rw [List.length_map, hpa.length]; omega) (fun H' s => Same.seqT s (sqT hg)) (fun i => (L[i]?.map fun x => decide (x.1 = lift)).getD false) (fun i v H' => ∃ t x, v = V.ref t ∧ L[i]? = some x ∧ H' t = some (.tup [.int x.2.1, .int x.2.2])) ?_ ?_ ?_
    · rintro i v HA HB s ⟨t, x, e1, e2, e3⟩
      exact ⟨t, x, e1, e2, s _ _ e3⟩
    · rintro m x HA HB hm sA ⟨rfl, hx⟩ Add Nx hAdd hNx
      obtain ⟨ax, z, rfl, hzz, ha⟩ := GrpsAt.at (p := g) hpa hx
      have hst' := sA _ _ hst
      refine r_gTup (xs := [.int z.1, .int z.2.1, .int z.2.2]) (sqT (sA _ _ ha)) rfl ?_
      walk_at "rd*"
      refine ⟨rfl, ?_⟩
      walk_at "rd*"
      have ef : (L[m]?.map fun x => decide (x.1 = lift)).getD false = decide (z.1 = lift) := by
        rw [hzz]
        rfl
      rw [← ef]
      refine ite_b (fun q => ?_) (fun q => ?_)
      · walk_at "rd*"
        refine r_mkT (szl (by simp)) fun t H3 nt s3 h3 => ?_
        exact hAdd q _ _ s3 ⟨t, z, rfl, hzz, h3⟩
      · exact hNx q _ (Same.refl _)
    intro H1 ys s1 h1 hP
    obtain ⟨bs, rfl, q⟩ := paired_pick (L := L) (f := fun x => decide (x.1 = lift)) (G := fun a x => H1 a = some (.tup [.int x.2.1, .int x.2.2])) (fun i y z => by
      obtain ⟨t, x, e1, e2, e3⟩ := z
      exact ⟨t, x, e1, e2, e3⟩) (by rw [List.length_map]; exact hpa.length) hP
    walk_at "rd*"
    exact k D bs H1 hD s1 h1 q
end
end Law

namespace Law
open PySem L2 MyB MyR MyD MyC
local macro_rules | `(tactic| walk_at "hp") => `(tactic| first | assumption | exact upd_same | ((repeat rw [upd_ne (by assumption)]); assumption))
local macro_rules | `(tactic| walk_at "sq") => `(tactic| first | assumption | exact sqL (by assumption) | exact sqT (by assumption) | exact sqL upd_same | exact sqT upd_same | exact sqL (by walk_at "hp") | exact sqT (by walk_at "hp"))
local macro_rules | `(tactic| walk_at "rd") => `(tactic| with_reducible (first
  | refine r_seq ?_ | refine r_asg ?_ | refine r_op ?_ | refine r_un ?_
  | (refine' r_var ?rdh ?_; (case rdh => (with_unfolding_all rfl)))
  | refine r_c ?_ | refine r_I0 ?_ | refine r_U ?_ | refine r_eqI ?_ | refine r_neI ?_ | refine r_eqB ?_ | refine r_neB ?_
  | refine r_test ?_ | refine r_tB ?_ | refine r_not ?_ | refine r_and ?_ | refine r_or ?_ | refine r_yes ?_
  | refine r_andV ?_ | refine r_orV ?_ | refine r_notV ?_ | refine r_chain ?_ | refine r_if ?_ | refine r_next ?_ | refine r_ifS ?_
  | refine r_ret ?_ | refine r_drop ?_ | refine r_name ?_ | refine r_sub ?_ | refine r_gCons ?_ | refine r_gNil ?_
  | refine r_cons ?_ | refine r_nil ?_ | refine r_cb ?_ | refine r_call ?_ | refine r_make ?_ | refine r_fld ?_ | refine r_tup ?_ | refine r_lst ?_
  | refine r_par ?_ | refine r_par3 ?_ | refine r_rng1 ?_ | refine r_rng2 ?_ | refine r_for ?_ | refine r_iList ?_ | refine r_iTup ?_ | refine r_lc ?_ | refine r_bm ?_ | refine MyK.r_zip ?_ | refine MyK.r_enum ?_ | refine MyK.r_listRg ?_ | refine MyK.r_max3 ?_ | refine r_fldS ?_
  | refine r_sl ?_ | refine r_noPart ?_ | refine r_part ?_ | refine r_abs ?_ | refine r_int ?_ | refine r_intB ?_ | refine r_max ?_ | refine r_min ?_ | refine r_bl ?_ | refine r_theInt ?_ | refine r_par2 ?_
  | (refine' r_ixL ?rdh ?rdi ?_; (case rdh => (with_unfolding_all (walk_at "sq"))); (case rdi => (with_unfolding_all rfl)))
  | (refine' r_ixT ?rdh ?rdi ?_; (case rdh => (with_unfolding_all (walk_at "sq"))); (case rdi => (with_unfolding_all rfl)))
  | (refine' r_setL ?rdh ?rdi ?_; (case rdh => (with_unfolding_all (walk_at "hp"))); (case rdi => (with_unfolding_all rfl)))
  | (refine' r_lenL ?rdh ?_; (case rdh => (with_unfolding_all (walk_at "sq"))))
  | (refine' r_lenT ?rdh ?_; (case rdh => (with_unfolding_all (walk_at "sq"))))
  | (refine' r_gTup ?rdh ?rdi ?_; (case rdh => (with_unfolding_all (walk_at "sq"))); (case rdi => (with_unfolding_all rfl)))
  | (refine' r_I ?rdh ?_; (case rdh => (with_unfolding_all (first | assumption | decide | exact ⟨by decide, by decide⟩ | exact .inr ⟨by decide, by decide⟩ | exact ⟨by decide, by decide, by decide⟩ | exact ⟨by omega, by omega⟩ | exact .inl ⟨by omega, by omega⟩ | exact .inr ⟨by omega, by omega⟩))))
  | (refine' r_aug ?rdh ?_; (case rdh => (with_unfolding_all rfl)))))
local macro_rules | `(tactic| walk_at "rd*") => `(tactic| (repeat (walk_at "rd")))

section
variable {P : Program} {w : World} {K : PySem.W.Frag} {mg : Str → Option Value} {base : Heap} {CH CS CR : Addr}
def spTold (K : PySem.W.Frag) (CH CS : Addr) : Sp := fun vs H Q _ => ∃ (p C hp h0 g st g2 : Addr) (fl rm lift : Int) (L : List Grp), vs = [.ref p, .ref h0, .ref st] ∧ StC K CH C H p hp fl rm lift g ∧ C8.InsC K C ∧ PySem.W.kitOne K (.ref C) (.ref CS) = some true ∧ HouseAt K CH H h0 fl rm ∧
  H st = some (.tup [.int lift, .ref g2]) ∧ GrpsAt H g L ∧ GrpsAt H g2 L ∧ Q (.bl true) H
theorem D__law_is_told (B : Bi mg) (g_Standing : mg "Standing" = some (.ref CS)) (R__law_is_told : Raw K mg "_law_is_told" s__law_is_told) (E_H : MyO.EqOf P w K mg base 2 CH (spHEq K CH)) : IsDef P w K mg base 4 "_law_is_told" ["_law_told", "_law_house", "_law_state"] (spTold K CH CS) := by
  refine R__law_is_told.ok (N := N__law_is_told) (ps := ["_law_told", "_law_house", "_law_state"]) sc__law_is_told (fun _ _ _ _ _ _ us hl => match us, hl with | [_, _, _], _ => rfl) (fun vs H Q E h => ?_) (fun f cdv A outer s H vs Q E hr h => ?_)
  · obtain ⟨p, C, hp, h0, g, st, g2, fl, rm, lift, L, rfl, _⟩ := h
    rfl
  · obtain ⟨p, C, hp, h0, g, st, g2, fl, rm, lift, L, rfl, ⟨⟨dp, fp, ep⟩, hs⟩, iC, kC, hh0, hst, ⟨as1, ga1, gp1⟩, ⟨as2, ga2, gp2⟩, k⟩ := h
    have hh := hs.ho
    obtain ⟨dh, fh, eh, _⟩ := hh.ex
    obtain ⟨dh0, fh0, eh0, _⟩ := hh0.ex
    obtain ⟨⟨C1, dx, fs, e, l1, l2, l3, cl, n1, n2, n3⟩, _⟩ := id hs
    refine ⟨_, (pss_cons (ps_if (PW.pt (pw_or (pt_not (pt_val (pe_callB (MyO.call_isX (K := K) rfl) (by rfl) B.isinstance (by decide +kernel) (pa_cons (pv 0) (pa_cons (pe_globR rfl g_Standing) pa_nil))))) (pw_or (pt_not (pt_cmpR (MyO.op_eqO E_H (hr.mono (by decide))) (MyK.pe_fld (K := K) rfl (pv 0) rfl) (pv 1) (nomark _))) (pw_or1 (pt_cmpR op_ne (MyK.pe_fld (K := K) rfl (pv 0) rfl) (pe_ix (MyK.ix_tup (K := K) rfl) (pv 2) pe_int (fun _ _ => rfl)) (nomark _))))))
    (pss_one (ps_ret pe_bl))
    pss_nil)
  (pss_one (ps_ret (pe_and (pe_not (pe_callB (MyK.call_isi (K := K) rfl) (by rfl) B.isinstance (by decide +kernel) (pa_cons (MyK.pe_fld (K := K) rfl (pv 0) rfl) (pa_cons (pe_bltn (v := .ty "bool") (by rfl) B.bool (by decide +kernel) rfl) pa_nil)))) (pe_and (pe_callB (MyK.call_isi (K := K) rfl) (by rfl) B.isinstance (by decide +kernel) (pa_cons (MyK.pe_fld (K := K) rfl (pv 0) rfl) (pa_cons (pe_bltn (v := .ty "tuple") (by rfl) B.tuple (by decide +kernel) rfl) pa_nil))) (pe_one (pe_cmpR (MyK.op_eqD (K := K) rfl hr.units) (MyK.pe_fld (K := K) rfl (pv 0) rfl) (pe_ix (MyK.ix_tup (K := K) rfl) (pv 2) pe_int (fun _ _ => rfl)) (nomark _)))))))), ?_⟩
    walk_at "rd*"
    refine ⟨p, C, CS, dp, fp, true, rfl, ep, iC, kC, ?_⟩
    walk_at "rd*"
    refine iteF ?_
    walk_at "rd*"
    refine ⟨p, C1, dx, fs, _, rfl, e, cl, n1, l1, ?_⟩
    walk_at "rd*"
    refine ⟨hp, dh, fh, h0, CH, dh0, fh0, rfl, rfl, eh, eh0, first_self K CH, hp, h0, fl, rm, rfl, hh, hh0, true, rfl, ?_⟩
    walk_at "rd*"
    refine iteF ?_
    walk_at "rd*"
    refine ⟨p, C1, dx, fs, _, rfl, e, cl, n2, l2, ?_⟩
    walk_at "rd*"
    refine ite_no (by simp) ?_
    walk_at "rd*"
    refine ⟨p, C1, dx, fs, _, rfl, e, cl, n2, l2, ?_⟩
    walk_at "rd*"
    refine r_isi (.ty "bool") (.base (.int lift)) (kit_ty (b := "bool") (r := false) (by decide +kernel)) ?_
    walk_at "rd*"
    refine iteT ?_
    walk_at "rd*"
    refine ⟨p, C1, dx, fs, _, rfl, e, cl, n3, l3, ?_⟩
    walk_at "rd*"
    refine r_isi (.ty "tuple") (.base (.tup ga1)) (kit_ty (b := "tuple") (r := true) (by decide +kernel)) ?_
    walk_at "rd*"
    refine iteT ?_
    walk_at "rd*"
    refine ⟨p, C1, dx, fs, _, rfl, e, cl, n3, l3, ?_⟩
    walk_at "rd*"
    refine r_eqD (.tup (sqT ga1) (dpAll_groups gp1)) (.tup (sqT ga2) (dpAll_groups gp2)) (gD_shaped L) ?_
    exact k
end
end Law

namespace Law
open PySem L2 MyB MyR MyD
local macro_rules | `(tactic| walk_at "hp") => `(tactic| first | assumption | exact upd_same | ((repeat rw [upd_ne (by assumption)]); assumption))
local macro_rules | `(tactic| walk_at "sq") => `(tactic| first | assumption | exact sqL (by assumption) | exact sqT (by assumption) | exact sqL upd_same | exact sqT upd_same | exact sqL (by walk_at "hp") | exact sqT (by walk_at "hp"))
local macro_rules | `(tactic| walk_at "rd") => `(tactic| with_reducible (first
  | refine r_seq ?_ | refine r_asg ?_ | refine r_op ?_ | refine r_un ?_
  | (refine' r_var ?rdh ?_; (case rdh => (with_unfolding_all rfl)))
  | refine r_c ?_ | refine r_I0 ?_ | refine r_U ?_ | refine r_eqI ?_ | refine r_neI ?_ | refine r_eqB ?_ | refine r_neB ?_
  | refine r_test ?_ | refine r_tB ?_ | refine r_not ?_ | refine r_and ?_ | refine r_or ?_ | refine r_yes ?_
  | refine r_andV ?_ | refine r_orV ?_ | refine r_notV ?_ | refine r_chain ?_ | refine r_if ?_ | refine r_next ?_ | refine r_ifS ?_
  | refine r_ret ?_ | refine r_drop ?_ | refine r_name ?_ | refine r_sub ?_ | refine r_gCons ?_ | refine r_gNil ?_
  | refine r_cons ?_ | refine r_nil ?_ | refine r_cb ?_ | refine r_call ?_ | refine r_make ?_ | refine r_fld ?_ | refine r_tup ?_ | refine r_lst ?_
  | refine r_par ?_ | refine r_par3 ?_ | refine r_rng1 ?_ | refine r_rng2 ?_ | refine r_for ?_ | refine r_iList ?_ | refine r_iTup ?_ | refine r_lc ?_ | refine r_bm ?_ | refine MyK.r_zip ?_ | refine MyK.r_enum ?_ | refine MyK.r_listRg ?_ | refine MyK.r_max3 ?_ | refine r_fldS ?_
  | refine r_sl ?_ | refine r_noPart ?_ | refine r_part ?_ | refine r_abs ?_ | refine r_int ?_ | refine r_intB ?_ | refine r_max ?_ | refine r_min ?_ | refine r_bl ?_ | refine r_theInt ?_ | refine r_par2 ?_
  | (refine' r_ixL ?rdh ?rdi ?_; (case rdh => (with_unfolding_all (walk_at "sq"))); (case rdi => (with_unfolding_all rfl)))
  | (refine' r_ixT ?rdh ?rdi ?_; (case rdh => (with_unfolding_all (walk_at "sq"))); (case rdi => (with_unfolding_all rfl)))
  | (refine' r_setL ?rdh ?rdi ?_; (case rdh => (with_unfolding_all (walk_at "hp"))); (case rdi => (with_unfolding_all rfl)))
  | (refine' r_lenL ?rdh ?_; (case rdh => (with_unfolding_all (walk_at "sq"))))
  | (refine' r_lenT ?rdh ?_; (case rdh => (with_unfolding_all (walk_at "sq"))))
  | (refine' r_gTup ?rdh ?rdi ?_; (case rdh => (with_unfolding_all (walk_at "sq"))); (case rdi => (with_unfolding_all rfl)))
  | (refine' r_I ?rdh ?_; (case rdh => (with_unfolding_all (first | assumption | decide | exact ⟨by decide, by decide⟩ | exact .inr ⟨by decide, by decide⟩ | exact ⟨by decide, by decide, by decide⟩ | exact ⟨by omega, by omega⟩ | exact .inl ⟨by omega, by omega⟩ | exact .inr ⟨by omega, by omega⟩))))
  | (refine' r_aug ?rdh ?_; (case rdh => (with_unfolding_all rfl)))))
local macro_rules | `(tactic| walk_at "rd*") => `(tactic| (repeat (walk_at "rd")))

theorem r_dnewT {σ : L2.St} {H : Hp} {Q : VK} (k : ∀ d H', H d = none → Same H H' → H' d = some (.dT []) → Q (.ref d) H') : tDNewT σ H Q := fun d hd => k d _ hd (Same.new0 hd) upd_same
theorem hand_same {H H' : Hp} {a c : Addr} (h : Hand H a c) (s : Same H H') : Hand H' a c := by
  obtain ⟨p, q, z, t, cells, e1, e2, r⟩ := h.ex
  exact ⟨p, q, z, t, cells, s _ _ e1, s _ _ e2, r⟩
theorem hand_ne {H : Hp} {a c d : Addr} (h : Hand H a c) (n : H d = none) : d ≠ a := fun e => by
  obtain ⟨_, _, _, _, _, e2, _⟩ := h.ex
  rw [← e, n] at e2
  cases e2
/-- a dict changes -/
theorem hand_but {H H' : Hp} {a c d : Addr} {kvs : List (List Key × V)} (h : Hand H a c) (s : ∀ b o, b ≠ d → H b = some o → H' b = some o) (hd : H d = some (.dT kvs)) : Hand H' a c := by
  obtain ⟨p, q, z, t, cells, e1, e2, r⟩ := h.ex
  exact ⟨p, q, z, t, cells, s _ _ (ne_of e1 hd (by intro z; cases z)) e1, s _ _ (ne_of e2 hd (by intro z; cases z)) e2, r⟩
/-- tuple(sorted([pair + (known[pair],) for pair in known])) -/
theorem r_tail {K : PySem.W.Frag} {σ : L2.St} {i j : Nat} {vs : List Nat} {H : Hp} {d : Addr} {L0 : List Grp} {Q : VK} (hi : σ[i]? = some (some (.ref d))) (hd : H d = some (.dT (L0.map enc))) (nd : (L0.map pr).Nodup) (hz : L0.length ≤ 16000000)
    (hw : ∀ x, wipe ((wipe σ vs).set j (some x)) vs = wipe σ vs) (hwi : ∀ x, ((wipe σ vs).set j (some x))[i]? = some (some (.ref d))) (hwj : ∀ x, ((wipe σ vs).set j (some x))[j]? = some (some x))
    (k : ∀ g L H', Same H H' → L.Perm L0 → L.Pairwise ascP → GrpsAt H' g L → Q (.ref g) H') :
    tCB (qTup K) (tCons (tCB (MyS.rSortedTI K) (tCons (tLockE (tLc (iKeys (tVar i)) (gName j) tYes (tOp (rCatT K) (tVar j) (tTup (tCons (tDGet (tVar i) (tVar j)) tNil))) vs)) tNil)) tNil) σ H Q := by
  refine r_cb (r_cons (r_cb (r_cons ?_)))
  refine ⟨d, _, hd, trivial, fun od => ?_⟩
  have hf : (upd H d (.frz od (.dT (L0.map enc)))) d = some (.frz od (.dT (L0.map enc))) := upd_same
  generalize ef : upd H d (.frz od (.dT (L0.map enc))) = Hf at hf
  refine r_lc ⟨_, hi, d, od, rfl, .inr ⟨_, hf, ?_⟩⟩
  intro D hD
  have hDd : D ≠ d := fun e => by
    rw [e, hf] at hD
    cases hD
  refine lc_map walk_keysT hD (by rw [List.length_map]; exact hz) (fun H' s => s _ _ hf) (fun m v H' => ∃ t x, v = V.ref t ∧ L0[m]? = some x ∧ H' t = some (.tup (gv x))) ?_ ?_ ?_
  · rintro m v H1 H2 s ⟨t, x, e1, e2, e3⟩
    exact ⟨t, x, e1, e2, s _ _ e3⟩
  · rintro m x H1 H2 hm s1 ⟨rfl, ke, va, q, e1, rfl, hq⟩ Add hAdd
    rw [List.getElem?_map] at e1
    obtain ⟨x, hx, e2⟩ := Option.map_eq_some_iff.mp e1
    have ek : ke = [.inl x.1, .inl x.2.1] := (congrArg Prod.fst e2).symm
    subst ek
    refine r_name ⟨hw _, ?_⟩
    refine r_op (r_var (hwj _) ?_)
    refine r_tup (r_cons ⟨_, hwi _, _, hwj _, d, .int x.2.2, rfl, ?_, ?_⟩)
    · refine .inr ⟨_, [.inl x.1, .inl x.2.1], q, .inr ⟨od, s1 _ _ hf⟩, rfl, hq, ?_⟩
      exact (valV_enc nd hx).symm
    · refine r_nil (r_mkT (szl (by simp)) fun t H3 nt s3 h3 => ?_)
      refine MyK.r_catT (xs := [.int x.1, .int x.2.1]) (sqT (s3 _ _ hq)) (sqT h3) (by simp) (by simp) (szl (by simp)) fun u H4 nu s4 h4 => ?_
      exact hAdd _ _ (s3.trans s4) ⟨u, x, rfl, hx, h4⟩
  · intro H2 ys s2 h2 hl hR
    have hf2 := s2 _ _ hf
    refine ⟨hf2, ?_⟩
    have s3 : Same H (upd H2 d (.dT (L0.map enc))) := fun b o e => by
      by_cases c : b = d
      · subst c
        rw [upd_same]
        rw [hd] at e
        exact e
      · rw [upd_ne c]
        refine s2 b o ?_
        rw [← ef, upd_ne c]
        exact e
    have h3 : (upd H2 d (.dT (L0.map enc))) D = some (.lst ys) := by
      rw [upd_ne hDd]
      exact h2
    have hR3 : ∀ (m : Nat) (v : V), ys[m]? = some v → ∃ t x, v = V.ref t ∧ L0[m]? = some x ∧ (upd H2 d (.dT (L0.map enc))) t = some (.tup (gv x)) := fun m v e => by
      obtain ⟨t, x, e1, e2, e3⟩ := hR m v e
      refine ⟨t, x, e1, e2, ?_⟩
      rw [upd_ne (ne_of e3 hf2 (by intro z; cases z))]
      exact e3
    generalize upd H2 d (.dT (L0.map enc)) = H3 at s3 h3 hR3
    refine r_nil ⟨D, ys, kH H3, rfl, sqL h3, ?_, ?_⟩
    · intro y hy
      obtain ⟨m, hm⟩ := List.getElem?_of_mem hy
      obtain ⟨t, x, rfl, _, ht⟩ := hR3 m y hm
      rw [kH_at (ns := gl x) ht]
      exact ⟨by simp, t, rfl, ht⟩
    · intro zs p hs hp hn
      rw [List.length_map] at hl
      obtain ⟨L, as, q1, q2, rfl, q3⟩ := sorted_groups hl hR3 nd hs hp
      have s4 : Same H3 (upd H3 p (.lst (as.map V.ref))) := Same.new0 hn
      refine r_nil (r_tupL (sqL upd_same) fun g H5 ng s5 h5 => ?_)
      have s6 := s4.trans s5
      exact k g L H5 (s3.trans s6) q1 q2 ⟨as, h5, Paired.mapP q3 fun a x z => s6 _ _ z⟩
theorem right_of {fl : Int} {L L0 : List Grp} (hp : L.Perm L0) (ha : L.Pairwise ascP) (hl : L0.length ≤ 400) (ho : ∀ x ∈ L0, 0 ≤ x.1 ∧ x.1 < fl ∧ 0 ≤ x.2.1 ∧ x.2.1 < fl ∧ 1 ≤ x.2.2 ∧ x.2.2 ≤ 10 ^ 30) : Right fl L :=
  ⟨by rw [hp.length_eq]; exact hl, fun x hx => ho x (hp.mem_iff.mp hx), ha⟩
/-- a dict store by a pair of floors -/
theorem r_setD {H : Hp} {d t : Addr} {L0 : List Grp} {s w m : Int} {R : Hp → Prop} (hd : H d = some (.dT (L0.map enc))) (ht : H t = some (.tup [.int s, .int w])) (hl : L0.length < 16000000)
    (k : ∀ H', (∀ b o, b ≠ d → H b = some o → H' b = some o) → H' d = some (.dT ((putG L0 s w m).map enc)) → R H') : rSetD (.ref d) (.ref t) (.int m) H R := by
  refine ⟨d, _, rfl, DPut.t (k := [.inl s, .inl w]) hd ht (by rw [List.length_map]; exact szlt hl), ?_⟩
  rw [putK_enc]
  exact k _ (Kp.refl H).at upd_same
section
variable {P : Program} {w : World} {K : PySem.W.Frag} {mg : Str → Option Value} {base : Heap} {CH CS CR : Addr}
/-- what is right of a drawn group -/
def OkG (fl : Int) (x : Grp) : Prop := 0 ≤ x.1 ∧ x.1 < fl ∧ 0 ≤ x.2.1 ∧ x.2.1 < fl ∧ 1 ≤ x.2.2 ∧ x.2.2 ≤ 10 ^ 30
def spGroupsD : Sp := fun vs H Q _ => ∃ (a c : Addr) (fl mn mo : Int), vs = [.ref a, .int fl, .int mn, .int mo] ∧ Hand H a c ∧ 0 < fl ∧ fl ≤ 40 ∧ 0 ≤ mn ∧ mn ≤ 399 ∧ 0 < mo ∧ mo < 1000000000 ∧
  ∀ g L H', Right fl L → GrpsAt H' g L → Hand H' a c → Kp a H H' → Q (.ref g) H'
theorem D__law_groups (B : Bi mg) (R__law_groups : Raw K mg "_law_groups" s__law_groups) (D__law_draw : IsDef P w K mg base 2 "_law_draw" ["_law_hand_here", "_law_many"] spDraw) :
    IsDef P w K mg base 3 "_law_groups" ["_law_hand_here", "_law_floors", "_law_many", "_law_most"] spGroupsD := by
  refine R__law_groups.ok (N := N__law_groups) (ps := ["_law_hand_here", "_law_floors", "_law_many", "_law_most"]) sc__law_groups (fun _ _ _ _ _ _ us hl => match us, hl with | [_, _, _, _], _ => rfl) (fun vs H Q E h => ?_) (fun f cdv A outer s H vs Q E hr h => ?_)
  · obtain ⟨a, c, fl, mn, mo, rfl, _⟩ := h
    rfl
  · obtain ⟨a, c, fl, mn, mo, rfl, hh, f1, f2, m1, m2, o1, o2, k⟩ := h
    have hu := hu_of hr
    refine ⟨_, (pss_cons (ps_set (i := 4) sc__law_groups.nd rfl (Or.inr rfl) pe_dnewT)
  (pss_cons (ps_for PassesOwn.never rfl (pi_range1 (by rfl) B.range (pa_cons (pe_callD D__law_draw (hr.mono (by decide)) rfl (pa_cons (pv 0) (pa_cons (pe_op op_add (pv 2) pe_int) pa_nil))) pa_nil)) (pg_name (i := 5) sc__law_groups.nd rfl (Or.inl rfl))
    (pss_cons (ps_set (i := 6) sc__law_groups.nd rfl (Or.inl rfl) (pe_tup (pa_cons (pe_callD D__law_draw (hr.mono (by decide)) rfl (pa_cons (pv 0) (pa_cons (pv 1) pa_nil))) (pa_cons (pe_callD D__law_draw (hr.mono (by decide)) rfl (pa_cons (pv 0) (pa_cons (pv 1) pa_nil))) pa_nil))))
      (pss_one (ps_asg (pe_op op_add pe_int (pe_callD D__law_draw (hr.mono (by decide)) rfl (pa_cons (pv 0) (pa_cons (pv 3) pa_nil)))) (pg_sub (pv 4) (pv 6) (set_dict hu))))))
  (pss_one (ps_ret (pe_callTy (MyK.q_tup (K := K) rfl) (by rfl) B.tuple (by decide +kernel) (pa_cons (pe_callB (MyK.cr_sortedTI (K := K) rfl) (by rfl) B.sorted (by decide +kernel) (pa_cons (pe_lock (pe_lc (own := [("_law_pair", 6)]) rfl sc__law_groups.nd (pi_keys (pv 4)) (blkOk_by (own := [("_law_pair", 6)]) (N := N__law_groups) (sc := defScope s__law_groups) (by decide +kernel)) (fun _ _ _ _ _ => (pg_name (i := 6) sc__law_groups.nd rfl (Or.inl rfl))) (fun _ _ _ _ _ => pts_nil) (fun _ _ _ _ _ => (pe_op (MyK.op_catT (K := K) rfl) (pv 6) (pe_tup (pa_cons (pe_dget hu (pv 4) (pv 6) (fun _ _ => rfl)) pa_nil)))))) pa_nil)) pa_nil)))))), ?_⟩
    walk_at "rd*"
    refine r_dnewT fun d H1 nd1 s1 hd1 => ?_
    walk_at "rd*"
    have hh1 : Hand H1 a c := hand_same hh s1
    refine ⟨a, c, _, rfl, hh1, by omega, by omega, fun n H2 b0 b1 hh2 k2 => ?_⟩
    walk_at "rd*"
    have nda : d ≠ a := fun e => by
      obtain ⟨_, _, _, _, _, e2, _⟩ := hh.ex
      rw [← e, nd1] at e2
      cases e2
    have hd2 := k2 _ _ nda hd1
    refine ⟨n, rfl, by omega, by omega, ?_⟩
    refine for_range (n := n.toNat) (fun i σ' H' => ∃ (L0 : List Grp) (v1 v2 : Option V), σ' = [some (.ref a), some (.int fl), some (.int mn), some (.int mo), some (.ref d), v1, v2] ∧ Hand H' a c ∧ Kp a H H' ∧ H' d = some (.dT (L0.map enc)) ∧ L0.length ≤ i ∧ (L0.map pr).Nodup ∧ ∀ x ∈ L0, 0 ≤ x.1 ∧ x.1 < fl ∧ 0 ≤ x.2.1 ∧ x.2.1 < fl ∧ 1 ≤ x.2.2 ∧ x.2.2 ≤ 10 ^ 30)
      ⟨[], none, none, rfl, hh2, (Kp.of s1).trans k2, hd2, Nat.le_refl _, List.nodup_nil, fun x hx => by simp at hx⟩ ?_ ?_
    · rintro i σ' H3 hi ⟨L0, v1, v2, rfl, hh3, k3, hd3, hl3, hn3, ho3⟩
      walk_at "rd*"
      refine ⟨a, c, _, rfl, hh3, by omega, by omega, fun s4 H4 b40 b41 hh4 k4 => ?_⟩
      walk_at "rd*"
      refine ⟨a, c, _, rfl, hh4, by omega, by omega, fun s5 H5 b50 b51 hh5 k5 => ?_⟩
      walk_at "rd*"
      refine r_mkT (szl (by simp)) fun t H6 nt s6 h6 => ?_
      walk_at "rd*"
      have hh6 := hand_same hh5 s6
      refine ⟨a, c, _, rfl, hh6, by omega, by omega, fun s7 H7 b70 b71 hh7 k7 => ?_⟩
      walk_at "rd*"
      have hd7 := k7 _ _ nda (s6 _ _ (k5 _ _ nda (k4 _ _ nda hd3)))
      have nta : t ≠ a := fun e => by
        obtain ⟨_, _, _, _, _, e2, _⟩ := hh5.ex
        rw [← e, nt] at e2
        cases e2
      have ht7 := k7 _ _ nta h6
      refine r_setD hd7 ht7 (by omega) fun H8 k8 hd8 => ?_
      have had : a ≠ d := fun e => nda e.symm
      refine ⟨_, _, _, rfl, hand_but hh7 k8 hd7, ?_, hd8, Nat.le_trans (putG_len _ _ _ _) (by omega), putG_nodup hn3, putG_all ho3 ?_⟩
      · intro b o nb e
        have e2 := k7 _ _ nb (s6 _ _ (k5 _ _ nb (k4 _ _ nb (k3 _ _ nb e))))
        refine k8 b o (fun z => ?_) e2
        rw [z] at e
        rw [nd1] at e
        cases e
      · refine ⟨by omega, by omega, by omega, by omega, ?_, ?_⟩
        · show 1 ≤ 1 + s7
          omega
        · show 1 + s7 ≤ 10 ^ 30
          omega
    · rintro σ' H3 ⟨L0, v1, v2, rfl, hh3, k3, hd3, hl3, hn3, ho3⟩
      refine r_ret (r_tail (d := d) rfl hd3 hn3 (by omega) (fun _ => rfl) (fun _ => rfl) (fun _ => rfl) fun g L H4 s4 p1 p2 p3 => ?_)
      exact k g L H4 (right_of p1 p2 (by omega) ho3) p3 (hand_same hh3 s4) (k3.trans (Kp.of s4))
def spGreatGroups : Sp := fun vs H Q _ => ∃ (a c : Addr) (fl : Int), vs = [.ref a, .int fl] ∧ Hand H a c ∧ 0 < fl ∧ fl ≤ 40 ∧
  ∀ g L H', Right fl L → GrpsAt H' g L → Hand H' a c → Kp a H H' → Q (.ref g) H'
theorem D__law_great_groups (B : Bi mg) (R__law_great_groups : Raw K mg "_law_great_groups" s__law_great_groups) (D__law_draw : IsDef P w K mg base 2 "_law_draw" ["_law_hand_here", "_law_many"] spDraw)
    (D__law_great : IsDef P w K mg base 3 "_law_great" ["_law_hand_here", "_law_most"] spGreat) : IsDef P w K mg base 4 "_law_great_groups" ["_law_hand_here", "_law_floors"] spGreatGroups := by
  refine R__law_great_groups.ok (N := N__law_great_groups) (ps := ["_law_hand_here", "_law_floors"]) sc__law_great_groups (fun _ _ _ _ _ _ us hl => match us, hl with | [_, _], _ => rfl) (fun vs H Q E h => ?_) (fun f cdv A outer s H vs Q E hr h => ?_)
  · obtain ⟨a, c, fl, rfl, _⟩ := h
    rfl
  · obtain ⟨a, c, fl, rfl, hh, f1, f2, k⟩ := h
    have hu := hu_of hr
    have fs0 : 0 < fl * fl := Int.mul_pos f1 f1
    have fs1 : fl * fl ≤ 1600 := by
      have := Int.mul_le_mul f2 f2 (by omega) (by omega : (0 : Int) ≤ 40)
      omega
    refine ⟨_, (pss_cons (ps_par (i := 2) (j := 3) (by rfl) sc__law_great_groups.nd rfl rfl (by decide) rfl rfl (pa_cons (pe_callD D__law_draw (hr.mono (by decide)) rfl (pa_cons (pv 0) (pa_cons (pe_op op_mul (pv 1) (pv 1)) pa_nil))) (pa_cons (pe_ix (MyK.ix_list (K := K) rfl) (pe_lst (pa_cons pe_int (pa_cons pe_int (pa_cons pe_int (pa_cons pe_int (pa_cons pe_int (pa_cons pe_int pa_nil))))))) (pe_callD D__law_draw (hr.mono (by decide)) rfl (pa_cons (pv 0) (pa_cons pe_int pa_nil))) (fun _ _ => rfl)) pa_nil)) (by rfl))
  (pss_cons (ps_set (i := 4) sc__law_great_groups.nd rfl (Or.inl rfl) (pe_ix (MyK.ix_list (K := K) rfl) (pe_lst (pa_cons pe_int (pa_cons (pe_op op_pow pe_int pe_int) (pa_cons (pe_op op_pow pe_int pe_int) pa_nil)))) (pe_callD D__law_draw (hr.mono (by decide)) rfl (pa_cons (pv 0) (pa_cons pe_int pa_nil))) (fun _ _ => rfl)))
  (pss_cons (ps_set (i := 5) sc__law_great_groups.nd rfl (Or.inl rfl) (pe_callD D__law_great (hr.mono (by decide)) rfl (pa_cons (pv 0) (pa_cons (pv 4) pa_nil))))
  (pss_cons (ps_set (i := 6) sc__law_great_groups.nd rfl (Or.inr rfl) pe_dnewT)
  (pss_cons (ps_for PassesOwn.never rfl (pi_range1 (by rfl) B.range (pa_cons (pe_ix (MyK.ix_list (K := K) rfl) (pe_lst (pa_cons (pe_callD D__law_draw (hr.mono (by decide)) rfl (pa_cons (pv 0) (pa_cons pe_int pa_nil))) (pa_cons (pe_callD D__law_draw (hr.mono (by decide)) rfl (pa_cons (pv 0) (pa_cons pe_int pa_nil))) (pa_cons pe_int pa_nil)))) (pe_callD D__law_draw (hr.mono (by decide)) rfl (pa_cons (pv 0) (pa_cons pe_int pa_nil))) (fun _ _ => rfl)) pa_nil)) (pg_name (i := 7) sc__law_great_groups.nd rfl (Or.inl rfl))
    (pss_cons (ps_set (i := 8) sc__law_great_groups.nd rfl (Or.inl rfl) (pe_op op_mod (pe_callTy q_int (by rfl) B.int (by decide +kernel) (pa_cons (pe_op op_add (pv 2) (pe_op op_mul (pv 7) (pv 3))) pa_nil)) (pe_op op_mul (pv 1) (pv 1))))
      (pss_one (ps_asg (pe_op op_add pe_int (pe_op op_mod (pe_callTy q_int (by rfl) B.int (by decide +kernel) (pa_cons (pe_op op_mul (pe_op op_add (pv 5) (pv 7)) (pe_op op_add (pe_op op_mul pe_int (pv 7)) pe_int)) pa_nil)) (pv 4))) (pg_sub (pv 6) (pe_tup (pa_cons (pe_op op_fdiv (pv 8) (pv 1)) (pa_cons (pe_op op_mod (pe_callTy q_int (by rfl) B.int (by decide +kernel) (pa_cons (pv 8) pa_nil)) (pv 1)) pa_nil))) (set_dict hu))))))
  (pss_one (ps_ret (pe_callTy (MyK.q_tup (K := K) rfl) (by rfl) B.tuple (by decide +kernel) (pa_cons (pe_callB (MyK.cr_sortedTI (K := K) rfl) (by rfl) B.sorted (by decide +kernel) (pa_cons (pe_lock (pe_lc (own := [("_law_pair", 9)]) rfl sc__law_great_groups.nd (pi_keys (pv 6)) (blkOk_by (own := [("_law_pair", 9)]) (N := N__law_great_groups) (sc := defScope s__law_great_groups) (by decide +kernel)) (fun _ _ _ _ _ => (pg_name (i := 9) sc__law_great_groups.nd rfl (Or.inl rfl))) (fun _ _ _ _ _ => pts_nil) (fun _ _ _ _ _ => (pe_op (MyK.op_catT (K := K) rfl) (pv 9) (pe_tup (pa_cons (pe_dget hu (pv 6) (pv 9) (fun _ _ => rfl)) pa_nil)))))) pa_nil)) pa_nil))))))))), ?_⟩
    walk_at "rd*"
    refine ⟨a, c, _, rfl, hh, fs0, by omega, fun st H1 b10 b11 hh1 k1 => ?_⟩
    walk_at "rd*"
    refine r_mkL (szl (by simp)) fun l2 H2 nl2 s2 h2 => ?_
    walk_at "rd*"
    refine ⟨a, c, _, rfl, hand_same hh1 s2, by decide, by decide, fun n3 H3 b30 b31 hh3 k3 => ?_⟩
    have nl2a : l2 ≠ a := hand_ne hh1 nl2
    have h23 := k3 _ _ nl2a h2
    obtain ⟨sd, esd, sd0, sd1⟩ : ∃ sd : Int, atI [V.int 1, V.int 3, V.int 7, V.int 11, V.int 13, V.int 33] n3 = some (.int sd) ∧ 0 ≤ sd ∧ sd ≤ 33 := by
      rcases (by omega : n3 = 0 ∨ n3 = 1 ∨ n3 = 2 ∨ n3 = 3 ∨ n3 = 4 ∨ n3 = 5) with rfl | rfl | rfl | rfl | rfl | rfl <;> exact ⟨_, rfl, by decide, by decide⟩
    refine r_ixL (sqL h23) esd ?_
    walk_at "rd*"
    refine r_mkL (szl (by simp)) fun l4 H4 nl4 s4 h4 => ?_
    walk_at "rd*"
    refine ⟨a, c, _, rfl, hand_same hh3 s4, by decide, by decide, fun n5 H5 b50 b51 hh5 k5 => ?_⟩
    have nl4a : l4 ≠ a := hand_ne hh3 nl4
    have h45 := k5 _ _ nl4a h4
    obtain ⟨mo, emo, mo0, mo1⟩ : ∃ mo : Int, atI [V.int 3, V.int (10 ^ Int.toNat 6), V.int (10 ^ Int.toNat 29)] n5 = some (.int mo) ∧ 0 < mo ∧ mo ≤ 10 ^ 29 := by
      rcases (by omega : n5 = 0 ∨ n5 = 1 ∨ n5 = 2) with rfl | rfl | rfl <;> exact ⟨_, rfl, by decide, by decide⟩
    refine r_ixL (sqL h45) emo ?_
    walk_at "rd*"
    refine ⟨a, c, _, rfl, hh5, mo0, fun ba H6 b60 b61 hh6 k6 => ?_⟩
    walk_at "rd*"
    refine r_dnewT fun d H7 nd7 s7 hd7 => ?_
    walk_at "rd*"
    have hh7 := hand_same hh6 s7
    have nda : d ≠ a := hand_ne hh6 nd7
    refine ⟨a, c, _, rfl, hh7, by decide, by decide, fun n8 H8 b80 b81 hh8 k8 => ?_⟩
    walk_at "rd*"
    refine ⟨a, c, _, rfl, hh8, by decide, by decide, fun n9 H9 b90 b91 hh9 k9 => ?_⟩
    walk_at "rd*"
    refine r_mkL (szl (by simp)) fun l10 H10 nl10 s10 h10 => ?_
    walk_at "rd*"
    refine ⟨a, c, _, rfl, hand_same hh9 s10, by decide, by decide, fun n11 H11 b110 b111 hh11 k11 => ?_⟩
    have nl10a : l10 ≠ a := hand_ne hh9 nl10
    obtain ⟨n, en, n0, n1⟩ : ∃ n : Int, atI [V.int n8, V.int n9, V.int 400] n11 = some (.int n) ∧ 0 ≤ n ∧ n ≤ 400 := by
      rcases (by omega : n11 = 0 ∨ n11 = 1 ∨ n11 = 2) with rfl | rfl | rfl
      · exact ⟨n8, rfl, by omega, by omega⟩
      · exact ⟨n9, rfl, by omega, by omega⟩
      · exact ⟨400, rfl, by omega, by omega⟩
    refine r_ixL (sqL (k11 _ _ nl10a h10)) en ?_
    walk_at "rd*"
    have hd11 := k11 _ _ nda (s10 _ _ (k9 _ _ nda (k8 _ _ nda hd7)))
    have kA : Kp a H H6 := k1.trans ((Kp.of s2).trans (k3.trans ((Kp.of s4).trans (k5.trans k6))))
    have kB : Kp a H H11 := kA.trans ((Kp.of s7).trans (k8.trans (k9.trans ((Kp.of s10).trans k11))))
    refine ⟨n, rfl, by omega, by omega, ?_⟩
    refine for_range (n := n.toNat) (fun i σ' H' => ∃ (L0 : List Grp) (v1 v2 v3 : Option V), σ' = [some (.ref a), some (.int fl), some (.int st), some (.int sd), some (.int mo), some (.int ba), some (.ref d), v1, v2, v3] ∧ Hand H' a c ∧ Kp a H H' ∧ H' d = some (.dT (L0.map enc)) ∧ L0.length ≤ i ∧ (L0.map pr).Nodup ∧ ∀ x ∈ L0, 0 ≤ x.1 ∧ x.1 < fl ∧ 0 ≤ x.2.1 ∧ x.2.1 < fl ∧ 1 ≤ x.2.2 ∧ x.2.2 ≤ 10 ^ 30)
      ⟨[], none, none, none, rfl, hh11, kB, hd11, Nat.le_refl _, List.nodup_nil, fun x hx => by simp at hx⟩ ?_ ?_
    · rintro i σ' H3 hi ⟨L0, v1, v2, v3, rfl, hh3, k3, hd3, hl3, hn3, ho3⟩
      walk_at "rd*"
      have at0 : 0 ≤ (st + (0 + (i : Int)) * sd) % (fl * fl) := Int.emod_nonneg _ (by omega)
      have at1 : (st + (0 + (i : Int)) * sd) % (fl * fl) < fl * fl := Int.emod_lt_of_pos _ fs0
      generalize (st + (0 + (i : Int)) * sd) % (fl * fl) = at' at at0 at1 ⊢
      have va0 : 0 ≤ (ba + (0 + (i : Int))) * (48271 * (0 + (i : Int)) + 1) % mo := Int.emod_nonneg _ (by omega)
      have va1 : (ba + (0 + (i : Int))) * (48271 * (0 + (i : Int)) + 1) % mo < mo := Int.emod_lt_of_pos _ mo0
      generalize (ba + (0 + (i : Int))) * (48271 * (0 + (i : Int)) + 1) % mo = va at va0 va1 ⊢
      refine r_mkT (szl (by simp)) fun t H4 nt s4 h4 => ?_
      have s40 : 0 ≤ at' / fl := Int.ediv_nonneg at0 (by omega)
      have s41 : at' / fl < fl := Int.ediv_lt_of_lt_mul f1 at1
      have w40 : 0 ≤ at' % fl := Int.emod_nonneg _ (by omega)
      have w41 : at' % fl < fl := Int.emod_lt_of_pos _ f1
      have hh4 := hand_same hh3 s4
      have hd4 := s4 _ _ hd3
      refine r_setD hd4 h4 (by omega) fun H8 k8 hd8 => ?_
      refine ⟨_, _, _, _, rfl, hand_but hh4 k8 hd4, ?_, hd8, Nat.le_trans (putG_len _ _ _ _) (by omega), putG_nodup hn3, putG_all ho3 ?_⟩
      · intro b o nb e
        refine k8 b o (fun z => ?_) (s4 _ _ (k3 _ _ nb e))
        rw [z] at e
        have e2 := kA _ _ nda e
        rw [nd7] at e2
        cases e2
      · refine ⟨s40, s41, w40, w41, ?_, ?_⟩
        · show 1 ≤ 1 + va
          omega
        · show 1 + va ≤ 10 ^ 30
          omega
    · rintro σ' H3 ⟨L0, v1, v2, v3, rfl, hh3, k3, hd3, hl3, hn3, ho3⟩
      refine r_ret (r_tail (d := d) rfl hd3 hn3 (by omega) (fun _ => rfl) (fun _ => rfl) (fun _ => rfl) fun g L H4 s4 p1 p2 p3 => ?_)
      exact k g L H4 (right_of p1 p2 (by omega) ho3) p3 (hand_same hh3 s4) (k3.trans (Kp.of s4))
/-- world(hand): floors, room, lift, groups, all right -/
def spWorld : Sp := fun vs H Q _ => ∃ (a c : Addr), vs = [.ref a] ∧ Hand H a c ∧
  ∀ t fl rm lift g L H', 2 ≤ fl → fl ≤ 40 → 1 ≤ rm → rm ≤ 10 ^ 12 → 0 ≤ lift → lift < fl → Right fl L → GrpsAt H' g L → H' t = some (.tup [.int fl, .int rm, .int lift, .ref g]) → Hand H' a c → Kp a H H' → Q (.ref t) H'
theorem D__law_world (B : Bi mg) (R__law_world : Raw K mg "_law_world" s__law_world) (D__law_draw : IsDef P w K mg base 2 "_law_draw" ["_law_hand_here", "_law_many"] spDraw)
    (D__law_great : IsDef P w K mg base 3 "_law_great" ["_law_hand_here", "_law_most"] spGreat) (D__law_groups : IsDef P w K mg base 3 "_law_groups" ["_law_hand_here", "_law_floors", "_law_many", "_law_most"] spGroupsD)
    (D__law_great_groups : IsDef P w K mg base 4 "_law_great_groups" ["_law_hand_here", "_law_floors"] spGreatGroups) : IsDef P w K mg base 5 "_law_world" ["_law_hand_here"] spWorld := by
  refine R__law_world.ok (N := N__law_world) (ps := ["_law_hand_here"]) sc__law_world (fun _ _ _ _ _ _ us hl => match us, hl with | [_], _ => rfl) (fun vs H Q E h => ?_) (fun f cdv A outer s H vs Q E hr h => ?_)
  · obtain ⟨a, c, rfl, _⟩ := h
    rfl
  · obtain ⟨a, c, rfl, hh, k⟩ := h
    have hu := hu_of hr
    refine ⟨_, (pss_cons (ps_set (i := 1) sc__law_world.nd rfl (Or.inl rfl) (pe_callD D__law_draw (hr.mono (by decide)) rfl (pa_cons (pv 0) (pa_cons pe_int pa_nil))))
  (Evl.pss_cut (ps_if (pt_cmpR op_lt (pv 1) pe_int (nomark _))
    (pss_cons (ps_par (i := 2) (j := 3) (by rfl) sc__law_world.nd rfl rfl (by decide) rfl rfl (pa_cons (pe_op op_add pe_int (pe_callD D__law_draw (hr.mono (by decide)) rfl (pa_cons (pv 0) (pa_cons (pe_ix (MyK.ix_list (K := K) rfl) (pe_lst (pa_cons pe_int (pa_cons pe_int (pa_cons pe_int pa_nil)))) (pe_op op_fdiv (pv 1) pe_int) (fun _ _ => rfl)) pa_nil)))) (pa_cons (pe_op op_add pe_int (pe_callD D__law_draw (hr.mono (by decide)) rfl (pa_cons (pv 0) (pa_cons pe_int pa_nil)))) pa_nil)) (by rfl))
      (pss_one (ps_set (i := 4) sc__law_world.nd rfl (Or.inl rfl) (pe_callD D__law_groups (hr.mono (by decide)) rfl (pa_cons (pv 0) (pa_cons (pv 2) (pa_cons pe_int (pa_cons pe_int pa_nil))))))))
    (Evl.pss_cut (ps_set (i := 2) sc__law_world.nd rfl (Or.inl rfl) (pe_ifExp (pt_cmpR op_eq (pv 1) pe_int (nomark _)) pe_int (pe_op op_add pe_int (pe_callD D__law_draw (hr.mono (by decide)) rfl (pa_cons (pv 0) (pa_cons pe_int pa_nil))))))
      (pss_cons (ps_set (i := 3) sc__law_world.nd rfl (Or.inl rfl) (pe_callD D__law_great (hr.mono (by decide)) rfl (pa_cons (pv 0) (pa_cons (pe_ix (MyK.ix_list (K := K) rfl) (pe_lst (pa_cons pe_int (pa_cons (pe_op op_pow pe_int pe_int) (pa_cons (pe_op op_pow pe_int pe_int) pa_nil)))) (pe_callD D__law_draw (hr.mono (by decide)) rfl (pa_cons (pv 0) (pa_cons pe_int pa_nil))) (fun _ _ => rfl)) pa_nil))))
      (pss_one (ps_set (i := 4) sc__law_world.nd rfl (Or.inl rfl) (pe_callD D__law_great_groups (hr.mono (by decide)) rfl (pa_cons (pv 0) (pa_cons (pv 2) pa_nil))))))))
  (pss_one (ps_ret (pe_tup (pa_cons (pv 2) (pa_cons (pv 3) (pa_cons (pe_callD D__law_draw (hr.mono (by decide)) rfl (pa_cons (pv 0) (pa_cons (pv 2) pa_nil))) (pa_cons (pv 4) pa_nil))))))))), ?_⟩
    walk_at "rd*"
    refine ⟨a, c, _, rfl, hh, by decide, by decide, fun kd H1 b10 b11 hh1 k1 => ?_⟩
    walk_at "rd*"
    refine ⟨fun σ' H' => ∃ (fl rm : Int) (g : Addr) (L : List Grp), σ' = [some (.ref a), some (.int kd), some (.int fl), some (.int rm), some (.ref g)] ∧ 2 ≤ fl ∧ fl ≤ 40 ∧ 1 ≤ rm ∧ rm ≤ 10 ^ 12 ∧ Right fl L ∧ GrpsAt H' g L ∧ Hand H' a c ∧ Kp a H H', ?_, ?_⟩
    · walk_at "rd*"
      refine ite_dec (fun c6 => ?_) (fun c6 => ?_)
      · walk_at "rd*"
        refine r_mkL (szl (by simp)) fun l2 H2 nl2 s2 h2 => ?_
        walk_at "rd*"
        obtain ⟨m, em, m0, m1⟩ : ∃ m : Int, atI [V.int 2, V.int 4, V.int 9] (kd / 2) = some (.int m) ∧ 2 ≤ m ∧ m ≤ 9 := by
          rcases (by omega : kd / 2 = 0 ∨ kd / 2 = 1 ∨ kd / 2 = 2) with e | e | e <;> rw [e] <;> exact ⟨_, rfl, by decide, by decide⟩
        refine r_ixL (sqL h2) em ?_
        walk_at "rd*"
        refine ⟨a, c, _, rfl, hand_same hh1 s2, by omega, by omega, fun n3 H3 b30 b31 hh3 k3 => ?_⟩
        walk_at "rd*"
        refine ⟨a, c, _, rfl, hh3, by decide, by decide, fun n4 H4 b40 b41 hh4 k4 => ?_⟩
        walk_at "rd*"
        refine ⟨a, c, _, _, _, rfl, hh4, by omega, by omega, by decide, by decide, by decide, by decide, fun g L H5 r5 g5 hh5 k5 => ?_⟩
        walk_at "rd*"
        exact ⟨_, _, g, L, rfl, by omega, by omega, by omega, by omega, r5, g5, hh5, k1.trans ((Kp.of s2).trans (k3.trans (k4.trans k5)))⟩
      · walk_at "rd*"
        refine ⟨fun σ' H' => ∃ fl : Int, σ' = [some (.ref a), some (.int kd), some (.int fl), none, none] ∧ 2 ≤ fl ∧ fl ≤ 40 ∧ Hand H' a c ∧ Kp a H H', ?_, ?_⟩
        · walk_at "rd*"
          refine ite_dec (fun c7 => ?_) (fun c7 => ?_)
          · walk_at "rd*"
            exact ⟨40, rfl, by decide, by decide, hh1, k1⟩
          · walk_at "rd*"
            refine ⟨a, c, _, rfl, hh1, by decide, by decide, fun n4 H4 b40 b41 hh4 k4 => ?_⟩
            walk_at "rd*"
            exact ⟨_, rfl, by omega, by omega, hh4, k1.trans k4⟩
        · rintro σ' H2 ⟨fl, rfl, f1, f2, hh2, k2⟩
          walk_at "rd*"
          refine r_mkL (szl (by simp)) fun l3 H3 nl3 s3 h3 => ?_
          walk_at "rd*"
          refine ⟨a, c, _, rfl, hand_same hh2 s3, by decide, by decide, fun n4 H4 b40 b41 hh4 k4 => ?_⟩
          obtain ⟨m, em, m0, m1⟩ : ∃ m : Int, atI [V.int 5, V.int (10 ^ Int.toNat 6), V.int (10 ^ Int.toNat 12)] n4 = some (.int m) ∧ 0 < m ∧ m ≤ 10 ^ 12 := by
            rcases (by omega : n4 = 0 ∨ n4 = 1 ∨ n4 = 2) with rfl | rfl | rfl <;> exact ⟨_, rfl, by decide, by decide⟩
          refine r_ixL (sqL (k4 _ _ (hand_ne hh2 nl3) h3)) em ?_
          walk_at "rd*"
          refine ⟨a, c, _, rfl, hh4, m0, fun rm H5 b50 b51 hh5 k5 => ?_⟩
          walk_at "rd*"
          refine ⟨a, c, _, rfl, hh5, by omega, f2, fun g L H6 r6 g6 hh6 k6 => ?_⟩
          walk_at "rd*"
          exact ⟨_, _, g, L, rfl, f1, f2, b50, by omega, r6, g6, hh6, k2.trans ((Kp.of s3).trans (k4.trans (k5.trans k6)))⟩
    · rintro σ' H2 ⟨fl, rm, g, L, rfl, f1, f2, r1, r2, hR, hg, hh2, k2⟩
      walk_at "rd*"
      refine ⟨a, c, _, rfl, hh2, by omega, by omega, fun lift H3 b30 b31 hh3 k3 => ?_⟩
      walk_at "rd*"
      refine r_mkT (szl (by simp)) fun t H4 nt s4 h4 => ?_
      obtain ⟨p', q', z', t', cells', ea, _⟩ := hh2.ex
      have n23 : NLK H2 H3 := NLK.kp ea k3
      exact k t fl rm lift g L H4 f1 f2 r1 r2 b30 b31 hR (hg.mono ((n23.trans (NLK.of s4)).tups)) h4 (hand_same hh3 s4) (k2.trans (k3.trans (Kp.of s4)))
end
end Law

namespace Law
open PySem L2 MyB MyR MyD MyC
local macro_rules | `(tactic| walk_at "hp") => `(tactic| first | assumption | exact upd_same | ((repeat rw [upd_ne (by assumption)]); assumption))
local macro_rules | `(tactic| walk_at "sq") => `(tactic| first | assumption | exact sqL (by assumption) | exact sqT (by assumption) | exact sqL upd_same | exact sqT upd_same | exact sqL (by walk_at "hp") | exact sqT (by walk_at "hp"))
local macro_rules | `(tactic| walk_at "rd") => `(tactic| with_reducible (first
  | refine r_seq ?_ | refine r_asg ?_ | refine r_op ?_ | refine r_un ?_
  | (refine' r_var ?rdh ?_; (case rdh => (with_unfolding_all rfl)))
  | refine r_c ?_ | refine r_I0 ?_ | refine r_U ?_ | refine r_eqI ?_ | refine r_neI ?_ | refine r_eqB ?_ | refine r_neB ?_
  | refine r_test ?_ | refine r_tB ?_ | refine r_not ?_ | refine r_and ?_ | refine r_or ?_ | refine r_yes ?_
  | refine r_andV ?_ | refine r_orV ?_ | refine r_notV ?_ | refine r_chain ?_ | refine r_if ?_ | refine r_next ?_ | refine r_ifS ?_
  | refine r_ret ?_ | refine r_drop ?_ | refine r_name ?_ | refine r_sub ?_ | refine r_gCons ?_ | refine r_gNil ?_
  | refine r_cons ?_ | refine r_nil ?_ | refine r_cb ?_ | refine r_call ?_ | refine r_make ?_ | refine r_fld ?_ | refine r_tup ?_ | refine r_lst ?_
  | refine r_par ?_ | refine r_par3 ?_ | refine r_rng1 ?_ | refine r_rng2 ?_ | refine r_for ?_ | refine r_iList ?_ | refine r_iTup ?_ | refine r_lc ?_ | refine r_bm ?_ | refine MyK.r_zip ?_ | refine MyK.r_enum ?_ | refine MyK.r_listRg ?_ | refine MyK.r_max3 ?_ | refine r_fldS ?_
  | refine r_sl ?_ | refine r_noPart ?_ | refine r_part ?_ | refine r_abs ?_ | refine r_int ?_ | refine r_intB ?_ | refine r_max ?_ | refine r_min ?_ | refine r_bl ?_ | refine r_theInt ?_ | refine r_par2 ?_
  | (refine' r_ixL ?rdh ?rdi ?_; (case rdh => (with_unfolding_all (walk_at "sq"))); (case rdi => (with_unfolding_all rfl)))
  | (refine' r_ixT ?rdh ?rdi ?_; (case rdh => (with_unfolding_all (walk_at "sq"))); (case rdi => (with_unfolding_all rfl)))
  | (refine' r_setL ?rdh ?rdi ?_; (case rdh => (with_unfolding_all (walk_at "hp"))); (case rdi => (with_unfolding_all rfl)))
  | (refine' r_lenL ?rdh ?_; (case rdh => (with_unfolding_all (walk_at "sq"))))
  | (refine' r_lenT ?rdh ?_; (case rdh => (with_unfolding_all (walk_at "sq"))))
  | (refine' r_gTup ?rdh ?rdi ?_; (case rdh => (with_unfolding_all (walk_at "sq"))); (case rdi => (with_unfolding_all rfl)))
  | (refine' r_I ?rdh ?_; (case rdh => (with_unfolding_all (first | assumption | decide | exact ⟨by decide, by decide⟩ | exact .inr ⟨by decide, by decide⟩ | exact ⟨by decide, by decide, by decide⟩ | exact ⟨by omega, by omega⟩ | exact .inl ⟨by omega, by omega⟩ | exact .inr ⟨by omega, by omega⟩))))
  | (refine' r_aug ?rdh ?_; (case rdh => (with_unfolding_all rfl)))))
local macro_rules | `(tactic| walk_at "rd*") => `(tactic| (repeat (walk_at "rd")))

/-- what has gone aboard of the first i of those here -/
structure Abo (F : List Grp) (i : Nat) (rm left : Int) (A : List (Int × Int)) : Prop where
  of : ∀ y ∈ A, ∃ x ∈ F.take i, y.1 = x.2.1 ∧ 1 ≤ y.2 ∧ y.2 ≤ x.2.2
  asc : A.Pairwise fun x y => x.1 < y.1
  sum : left + (A.map fun x => x.2).sum = rm
  pos : 0 ≤ left
  len : A.length ≤ i
theorem Abo.stay {F : List Grp} {i : Nat} {rm left : Int} {A : List (Int × Int)} (h : Abo F i rm left A) : Abo F (i + 1) rm left A :=
  ⟨fun y hy => by
    obtain ⟨x, hx, r⟩ := h.of y hy
    exact ⟨x, (List.take_subset_take_left F (Nat.le_succ i)) hx, r⟩, h.asc, h.sum, h.pos, Nat.le_succ_of_le h.len⟩
theorem Abo.more {F : List Grp} {i : Nat} {rm left s : Int} {A : List (Int × Int)} {x : Grp} (h : Abo F i rm left A) (hF : F.Pairwise fun x y => x.2.1 < y.2.1) (hx : F[i]? = some x) (h1 : 1 ≤ s) (h2 : s ≤ x.2.2) (h3 : s ≤ left) : Abo F (i + 1) rm (left - s) (A ++ [(x.2.1, s)]) := by
  have e : F.take (i + 1) = F.take i ++ [x] := by rw [List.take_succ, hx]; rfl
  refine ⟨fun y hy => ?_, ?_, ?_, by omega, by rw [List.length_append]; have := h.len; simp; omega⟩
  · rw [e]
    rcases List.mem_append.mp hy with q | q
    · obtain ⟨z, hz, r⟩ := h.of y q
      exact ⟨z, List.mem_append_left _ hz, r⟩
    · rw [List.mem_singleton.mp q]
      exact ⟨x, List.mem_append_right _ (List.mem_singleton.mpr rfl), rfl, h1, h2⟩
  · refine List.pairwise_append.mpr ⟨h.asc, List.pairwise_singleton _ _, fun y hy z hz => ?_⟩
    rw [List.mem_singleton.mp hz]
    obtain ⟨v, hv, ev, _⟩ := h.of y hy
    obtain ⟨j, hj⟩ := List.getElem?_of_mem hv
    have hji : j < i := by
      have := (List.getElem?_eq_some_iff.mp hj).1
      rw [List.length_take] at this
      omega
    rw [List.getElem?_take, if_pos hji] at hj
    have q := List.pairwise_iff_getElem.mp hF j i (List.getElem?_eq_some_iff.mp hj).1 (List.getElem?_eq_some_iff.mp hx).1 hji
    rw [(List.getElem?_eq_some_iff.mp hj).2, (List.getElem?_eq_some_iff.mp hx).2] at q
    show y.1 < x.2.1
    omega
  · rw [List.map_append, List.sum_append]
    have := h.sum
    simp
    omega
theorem floor_asc {L : List Grp} (h : L.Pairwise ascP) (f : Int) : (L.filter fun x => decide (x.1 = f)).Pairwise fun x y => x.2.1 < y.2.1 := by
  refine (List.Pairwise.and_mem.mp (h.sublist List.filter_sublist)).imp fun {x y} q => ?_
  obtain ⟨hx, hy, q⟩ := q
  have ex : x.1 = f := by simpa using (List.mem_filter.mp hx).2
  have ey : y.1 = f := by simpa using (List.mem_filter.mp hy).2
  unfold ascP at q
  omega
/-- all that went aboard can go -/
theorem Abo.can {L : List Grp} {f rm left : Int} {A : List (Int × Int)} {i : Nat} (nd : (L.map pr).Nodup) (h : Abo (L.filter fun x => decide (x.1 = f)) i rm left A) : CanGo L f A := by
  refine ⟨h.asc, fun y hy => ?_⟩
  obtain ⟨x, hx, e, h1, h2⟩ := h.of y hy
  have hm := List.mem_filter.mp (List.mem_of_mem_take hx)
  have ex : x.1 = f := by simpa using hm.2
  have g := mem_get nd hm.1
  rw [ex, ← e] at g
  omega
theorem paired_vals {F : Nat → V → Prop} {l : List Nat} {ys : List V} (h : Paired F l ys) : ys.length = l.length ∧ ∀ (j : Nat) (y : V), ys[j]? = some y → ∃ i, i ∈ l ∧ F i y := by
  induction h with
  | nil => exact ⟨rfl, fun j y e => by simp at e⟩
  | cons r _ ih =>
    refine ⟨by rw [List.length_cons, List.length_cons, ih.1], fun j y e => ?_⟩
    cases j with
    | zero =>
      simp at e
      subst e
      exact ⟨_, List.mem_cons_self, r⟩
    | succ j =>
      obtain ⟨i, hi, f⟩ := ih.2 j y (by simpa using e)
      exact ⟨i, List.mem_cons_of_mem _ hi, f⟩
theorem paired_snoc {F : Addr → Int × Int → Prop} {as : List Addr} {L : List (Int × Int)} {a : Addr} {x : Int × Int} (h : Paired F as L) (r : F a x) : Paired F (as ++ [a]) (L ++ [x]) := by
  induction h with
  | nil => exact .cons r .nil
  | cons r' _ ih => exact .cons r' ih
theorem hand_upd2 {H : Hp} {a c r : Addr} {o : HO} (h : Hand H a c) (n1 : r ≠ a) (n2 : r ≠ c) : Hand (upd H r o) a c := by
  obtain ⟨p, q, z, t, cells, e1, e2, m⟩ := h.ex
  exact ⟨p, q, z, t, cells, by rw [upd_ne (Ne.symm n1)]; exact e1, by rw [upd_ne (Ne.symm n2)]; exact e2, m⟩
theorem ne_of_none' {H : Hp} {r ab : Addr} {o : HO} (e : H ab = some o) (n : H r = none) : r ≠ ab := fun z => by
  rw [z, e] at n
  cases n
section
variable {P : Program} {w : World} {K : PySem.W.Frag} {mg : Str → Option Value} {base : Heap} {CH CS CR : Addr}
def spLMove : Sp := fun vs H Q _ => ∃ (a c st g : Addr) (fl rm lift : Int) (L : List Grp), vs = [.ref a, .int fl, .int rm, .ref st] ∧ Hand H a c ∧ 2 ≤ fl ∧ fl ≤ 40 ∧ 1 ≤ rm ∧ 0 ≤ lift ∧ lift < fl ∧ H st = some (.tup [.int lift, .ref g]) ∧ GrpsAt H g L ∧ L.length ≤ 1600 ∧ StOk fl L ∧
  ∀ m ab n A H', Hand H' a c → Kp a H H' → MoveOk H' m ab n A L fl rm lift → CanGo L lift A → (∀ x ∈ A, 0 ≤ x.1 ∧ x.1 < fl) → Q (.ref m) H'
theorem D__law_move (B : Bi mg) (R__law_move : Raw K mg "_law_move" s__law_move) (D__law_draw : IsDef P w K mg base 2 "_law_draw" ["_law_hand_here", "_law_many"] spDraw) (D__law_here : IsDef P w K mg base 2 "_law_here" ["_law_state"] spHere) :
    IsDef P w K mg base 3 "_law_move" ["_law_hand_here", "_law_floors", "_law_room", "_law_state"] spLMove := by
  refine R__law_move.ok (N := N__law_move) (ps := ["_law_hand_here", "_law_floors", "_law_room", "_law_state"]) sc__law_move (fun _ _ _ _ _ _ us hl => match us, hl with | [_, _, _, _], _ => rfl) (fun vs H Q E h => ?_) (fun f cdv A outer s H vs Q E hr h => ?_)
  · obtain ⟨a, c, st, g, fl, rm, lift, L, rfl, _⟩ := h
    rfl
  · obtain ⟨a, c, st, g, fl, rm, lift, L, rfl, hh, f1, f2, r1, l1, l2, hst, hg, hz, hS, k⟩ := h
    refine ⟨_, (pss_cons (ps_set (i := 4) sc__law_move.nd rfl (Or.inl rfl) (pv 2))
  (pss_cons (ps_set (i := 5) sc__law_move.nd rfl (Or.inl rfl) (pe_lst pa_nil))
  (pss_cons (ps_set (i := 6) sc__law_move.nd rfl (Or.inl rfl) (pe_callD D__law_draw (hr.mono (by decide)) rfl (pa_cons (pv 0) (pa_cons pe_int pa_nil))))
  (pss_cons (ps_for PassesOwn.never rfl (MyK.pi_list (K := K) rfl (pe_callD D__law_here (hr.mono (by decide)) rfl (pa_cons (pv 3) pa_nil))) (MyK.pg_tup (K := K) (n := 2) rfl rfl (pgs_cons (pg_name (i := 7) sc__law_move.nd rfl (Or.inl rfl)) (pgs_cons (pg_name (i := 8) sc__law_move.nd rfl (Or.inl rfl)) pgs_nil)))
    (pss_cons (ps_set (i := 9) sc__law_move.nd rfl (Or.inl rfl) (pe_callB (q_min rfl) (by rfl) B.min (by decide +kernel) (pa_cons (pv 4) (pa_cons (pv 8) pa_nil))))
      (pss_cons (ps_set (i := 10) sc__law_move.nd rfl (Or.inl rfl) (pe_ix (MyK.ix_list (K := K) rfl) (pe_lst (pa_cons pe_int (pa_cons (pv 9) (pa_cons (pe_callB (q_min rfl) (by rfl) B.min (by decide +kernel) (pa_cons (pv 9) (pa_cons (pe_op op_add pe_int (pe_callD D__law_draw (hr.mono (by decide)) rfl (pa_cons (pv 0) (pa_cons pe_int pa_nil)))) pa_nil))) pa_nil)))) (pe_callD D__law_draw (hr.mono (by decide)) rfl (pa_cons (pv 0) (pa_cons pe_int pa_nil))) (fun _ _ => rfl)))
      (Evl.pss_cut (ps_if (pt_cmpR op_eq (pv 6) pe_int (nomark _))
        (pss_one (ps_set (i := 10) sc__law_move.nd rfl (Or.inl rfl) (pv 9)))
        pss_nil)
      (pss_one (ps_if (pt_cmpR op_gt (pv 10) pe_int (nomark _))
        (pss_cons (ps_expr (pe_bm PySem.F.plainAttrs_list PySem.F.slot_list_append PySem.F.type_list_append mt_append (pv 5) (pa_cons (pe_tup (pa_cons (pv 7) (pa_cons (pv 10) pa_nil))) pa_nil)))
          (pss_one (ps_set (i := 4) sc__law_move.nd rfl (Or.inl rfl) (pe_op op_sub (pv 4) (pv 10)))))
        pss_nil))))))
  (pss_cons (ps_setLc (i := 11) (own := [("_law_way", 12)]) rfl sc__law_move.nd rfl rfl (sw_true rfl rfl rfl (by decide +kernel)) (MyK.pi_list (K := K) rfl (pe_lst (pa_cons (pe_un un_neg pe_int) (pa_cons pe_int pa_nil)))) (blkOk_by (own := [("_law_way", 12)]) (N := N__law_move) (sc := defScope s__law_move) (by decide +kernel)) (fun _ _ _ _ _ => (pg_name (i := 12) sc__law_move.nd rfl (Or.inl rfl))) (fun _ _ _ _ _ => (pts_one (pt_chain op_le op_lt pe_int (pe_op op_add (pe_ix (MyK.ix_tup (K := K) rfl) (pv 3) pe_int (fun _ _ => rfl)) (pv 12)) (pv 1)))) (fun _ _ _ _ _ => (pv 12)))
  (pss_one (ps_ret (pe_tup (pa_cons (pe_ix (MyK.ix_list (K := K) rfl) (pv 11) (pe_callD D__law_draw (hr.mono (by decide)) rfl (pa_cons (pv 0) (pa_cons (pe_callB (MyK.q_len (K := K) rfl) (by rfl) B.len (by decide +kernel) (pa_cons (pv 11) pa_nil)) pa_nil))) (fun _ _ => rfl)) (pa_cons (pe_callTy (MyK.q_tup (K := K) rfl) (by rfl) B.tuple (by decide +kernel) (pa_cons (pv 5) pa_nil)) pa_nil)))))))))), ?_⟩
    walk_at "rd*"
    refine r_mkL (szl (by simp)) fun ab H1 nab s1 hab => ?_
    walk_at "rd*"
    have hh1 := hand_same hh s1
    have naba : ab ≠ a := hand_ne hh nab
    refine ⟨a, c, _, rfl, hh1, by decide, by decide, fun gr H2 b20 b21 hh2 k2 => ?_⟩
    obtain ⟨p', q', z', t', cells', ea, _⟩ := hh1.ex
    have n12 := NLK.kp ea k2
    have hst2 := n12.tups _ _ (s1 _ _ hst)
    have hg2 : GrpsAt H2 g L := (hg.mono (.of s1)).mono n12.tups
    have hab2 := k2 _ _ naba hab
    walk_at "rd*"
    refine ⟨st, g, lift, L, rfl, hst2, hg2, by omega, fun r ts H3 nr s3 hr3 pt => ?_⟩
    have hst3 := s3 _ _ hst2
    have nabc : ab ≠ c := by
      obtain ⟨_, _, _, _, _, _, e2, _⟩ := hh.ex
      exact fun e => by rw [← e, nab] at e2; cases e2
    have hab3 := s3 _ _ hab2
    have hh3 := hand_same hh2 s3
    have rna : r ≠ a := hand_ne hh2 nr
    have rnab : r ≠ ab := ne_of_none' hab2 nr
    have k03 : Kp a H H3 := (Kp.of s1).trans (k2.trans (Kp.of s3))
    have nabH : H ab = none := nab
    have hF := floor_asc hS.asc lift
    have hlF : (L.filter fun x => decide (x.1 = lift)).length ≤ 1600 := Nat.le_trans (List.length_filter_le _ _) hz
    have hokF : ∀ x ∈ L.filter fun x => decide (x.1 = lift), 0 ≤ x.2.1 ∧ x.2.1 < fl ∧ 1 ≤ x.2.2 := fun x hx => by
      have := hS.ok x (List.mem_filter.mp hx).1
      omega
    have hcan : ∀ {i : Nat} {left : Int} {A : List (Int × Int)}, Abo (L.filter fun x => decide (x.1 = lift)) i rm left A → CanGo L lift A := fun h => h.can hS.nd
    generalize (L.filter fun x => decide (x.1 = lift)) = F at pt hF hlF hokF hcan
    have hlen : (ts.map V.ref).length = F.length := by rw [List.length_map]; exact pt.length
    refine r_list1 (sqL hr3) ?_
    refine for_it walk_list (fun i σ' H' => (∀ b o, b ≠ a → b ≠ ab → H3 b = some o → H' b = some o) ∧ Hand H' a c ∧ ∃ (left : Int) (us : List Addr) (A : List (Int × Int)) (v7 v8 v9 v10 v11 v12 : Option V), σ' = [some (.ref a), some (.int fl), some (.int rm), some (.ref st), some (.int left), some (.ref ab), some (.int gr), v7, v8, v9, v10, v11, v12] ∧
        H' ab = some (.lst (us.map V.ref)) ∧ Paired (fun t (x : Int × Int) => H' t = some (.tup [.int x.1, .int x.2])) us A ∧ Abo F i rm left A)
      ⟨fun b o _ _ z => z, hh3, rm, [], [], _, _, _, _, _, _, rfl, hab3, .nil, ⟨fun y hy => (List.not_mem_nil hy).elim, List.Pairwise.nil, by simp, by omega, Nat.le_refl _⟩⟩ (fun i σ' H' _ q => sqL (q.1 _ _ rna rnab hr3)) ?_ ?_
    · rintro i x σ' H4 HX hi ⟨k4, hh4, left, us, A, v7, v8, v9, v10, v11, v12, rfl, hab4, pA, hA⟩ ⟨rfl, hx⟩
      obtain ⟨t, et, rfl⟩ : ∃ t, ts[i]? = some t ∧ x = V.ref t := by
        rw [List.getElem?_map] at hx
        obtain ⟨t, e1, e2⟩ := Option.map_eq_some_iff.mp hx
        exact ⟨t, e1, e2.symm⟩
      obtain ⟨z, hzF, hzt⟩ := pairedAt pt et
      have okz := hokF z (List.mem_of_getElem? hzF)
      have tna : t ≠ a := fun e => by
        obtain ⟨_, _, _, _, _, e2, _⟩ := hh3.ex
        rw [← e, hzt] at e2
        cases e2
      have tnab : t ≠ ab := ne_of hzt hab3 (by intro z; cases z)
      have hzt4 := k4 _ _ tna tnab hzt
      have pos := hA.pos
      refine r_gTup (xs := [.int z.2.1, .int z.2.2]) (sqT hzt4) rfl ?_
      walk_at "rd*"
      refine ⟨a, c, _, rfl, hh4, by decide, by decide, fun n5 H5 b50 b51 hh5 k5 => ?_⟩
      walk_at "rd*"
      refine r_mkL (szl (by simp)) fun lb H6 nlb s6 hlb => ?_
      walk_at "rd*"
      have hh6 := hand_same hh5 s6
      refine ⟨a, c, _, rfl, hh6, by decide, by decide, fun n7 H7 b70 b71 hh7 k7 => ?_⟩
      have hlb7 := k7 _ _ (hand_ne hh5 nlb) hlb
      have nlb2 : lb ≠ a := hand_ne hh5 nlb
      obtain ⟨sv, esv, sv1⟩ : ∃ sv : Int, atI [V.int 0, V.int (min left z.2.2), V.int (min (min left z.2.2) (1 + n5))] n7 = some (.int sv) ∧ sv ≤ min left z.2.2 := by
        rcases (by omega : n7 = 0 ∨ n7 = 1 ∨ n7 = 2) with rfl | rfl | rfl <;> exact ⟨_, rfl, by omega⟩
      refine r_ixL (sqL hlb7) esv ?_
      walk_at "rd*"
      have k47 : ∀ b o, b ≠ a → HX b = some o → H7 b = some o := fun b o nb e => k7 _ _ nb (s6 _ _ (k5 _ _ nb e))
      have hab7 := k47 _ _ naba hab4
      obtain ⟨p', q', z', t', cells', ea, _⟩ := hh4.ex
      obtain ⟨p'', q'', z'', t'', cells'', ea6, _⟩ := hh6.ex
      have t47 : TupsK HX H7 := (NLK.kp ea k5).tups.trans ((TupsK.of s6).trans (NLK.kp ea6 k7).tups)
      have pA7 := Paired.mapP pA fun t x e => t47 _ _ e
      refine ⟨fun σ' H' => H' = H7 ∧ ∃ sv : Int, sv ≤ min left z.2.2 ∧ σ' = [some (.ref a), some (.int fl), some (.int rm), some (.ref st), some (.int left), some (.ref ab), some (.int gr), some (.int z.2.1), some (.int z.2.2), some (.int (min left z.2.2)), some (.int sv), v11, v12], ?_, ?_⟩
      · walk_at "rd*"
        refine ite_dec (fun c0 => ?_) (fun c0 => ?_)
        · walk_at "rd*"
          exact ⟨rfl, _, Int.le_refl _, rfl⟩
        · walk_at "rd*"
          exact ⟨rfl, _, sv1, rfl⟩
      clear esv sv1
      rintro σ' H8 ⟨rfl, sv, sv1, rfl⟩
      walk_at "rd*"
      refine ite_dec (fun c0 => ?_) (fun c0 => ?_)
      · walk_at "rd*"
        refine ⟨tyL (sqL hab7), ?_⟩
        walk_at "rd*"
        refine r_mkT (szl (by simp)) fun tt H9 nt s9 htt => ?_
        have hab9 := s9 _ _ hab7
        walk_at "rd*"
        refine r_append hab9 (by rw [List.length_map]; have := pA.length; have := hA.len; have := (List.getElem?_eq_some_iff.mp hzF).1; unfold sizeLine; omega) ?_
        have n9 : NLK H9 (upd H9 ab (.lst (us.map V.ref ++ [.ref tt]))) := NLK.lst hab9
        walk_at "rd*"
        refine ⟨fun b o n1 n2 e => ?_, hand_upd2 (hand_same hh7 s9) naba nabc, left - sv, us ++ [tt], A ++ [(z.2.1, sv)], _, _, _, _, _, _, rfl, ?_, ?_, hA.more hF hzF (by omega) (by omega) (by omega)⟩
        · rw [upd_ne n2]
          exact s9 _ _ (k47 _ _ n1 (k4 b o n1 n2 e))
        · rw [upd_same, List.map_append]
          rfl
        · exact paired_snoc (Paired.mapP pA7 fun t x e => n9.tups _ _ (s9 _ _ e)) (n9.tups _ _ htt)
      · walk_at "rd*"
        exact ⟨fun b o n1 n2 e => k47 _ _ n1 (k4 b o n1 n2 e), hh7, left, us, A, _, _, _, _, _, _, rfl, hab7, pA7, hA.stay⟩
    · rintro σ' H4 ⟨k4, hh4, left, us, A, v7, v8, v9, v10, v11, v12, rfl, hab4, pA, hA⟩
      rw [hlen] at hA
      have hstna : st ≠ a := fun e => by
        obtain ⟨_, _, _, _, _, e2, _⟩ := hh3.ex
        rw [← e, hst3] at e2
        cases e2
      have hst4 := k4 _ _ hstna (ne_of hst3 hab3 (by intro z; cases z)) hst3
      walk_at "rd*"
      refine r_mkL (szl (by simp)) fun wl H5 nwl s5 hwl => ?_
      refine r_list1 (sqL hwl) ?_
      intro D hD
      have hst5 := s5 _ _ hst4
      refine lc_filter walk_list hD (by simp) (fun H' s => s.seq (sqL hwl)) (fun i => decide (0 ≤ lift + (if i = 0 then -1 else 1) ∧ lift + (if i = 0 then -1 else 1) < fl)) (fun i v _ => i < 2 ∧ v = V.int (if i = 0 then -1 else 1)) (fun _ _ _ _ _ h => h) ?_ ?_
      · rintro m x HA HB hm sA ⟨rfl, hx⟩ Add Nx hAdd hNx
        have hm2 : m < 2 := hm
        have ex : x = V.int (if m = 0 then -1 else 1) := by
          rcases (by omega : m = 0 ∨ m = 1) with rfl | rfl
          · simpa using hx.symm
          · simpa using hx.symm
        subst ex
        have hstA := sA _ _ hst5
        walk_at "rd*"
        refine ⟨rfl, ?_⟩
        walk_at "rd*"
        generalize (if m = 0 then (-1 : Int) else 1) = wv at hAdd hNx ⊢
        refine ite_dec (fun c0 => ?_) (fun c0 => ?_)
        · walk_at "rd*"
          refine ite_dec (fun c1 => ?_) (fun c1 => ?_)
          · walk_at "rd*"
            exact hAdd (decide_eq_true ⟨c0, c1⟩) _ _ (Same.refl _) ⟨hm2, rfl⟩
          · exact hNx (decide_eq_false fun z => c1 z.2) _ (Same.refl _)
        · refine ⟨false, rfl, iteF ?_⟩
          exact hNx (decide_eq_false fun z => c0 z.1) _ (Same.refl _)
      intro H6 ys s6 h6 hP
      obtain ⟨hl, hv⟩ := paired_vals hP
      have hfl : ((List.range 2).filter fun i => decide (0 ≤ lift + (if i = 0 then -1 else 1) ∧ lift + (if i = 0 then -1 else 1) < fl)).length ≤ 2 := Nat.le_trans (List.length_filter_le _ _) (by simp)
      have hpos : 0 < ((List.range 2).filter fun i => decide (0 ≤ lift + (if i = 0 then -1 else 1) ∧ lift + (if i = 0 then -1 else 1) < fl)).length := by
        rw [List.length_pos_iff_exists_mem]
        by_cases c0 : lift = 0
        · exact ⟨1, List.mem_filter.mpr ⟨by simp, by simp; omega⟩⟩
        · exact ⟨0, List.mem_filter.mpr ⟨by simp, by simp; omega⟩⟩
      have hh6 := hand_same hh4 (s5.trans s6)
      have hab6 := (s5.trans s6) _ _ hab4
      have pA6 := Paired.mapP pA fun t x e => (s5.trans s6) _ _ e
      walk_at "rd*"
      have hlp : 0 < ys.length := by rw [hl]; exact hpos
      have hl2 : ys.length ≤ 2 := by rw [hl]; exact hfl
      refine ⟨a, c, _, rfl, hh6, by omega, by omega, fun n7 H7 b70 b71 hh7 k7 => ?_⟩
      have hDa : D ≠ a := fun e => by
        obtain ⟨_, _, _, _, _, e2, _⟩ := (hand_same hh4 s5).ex
        rw [← e, hD] at e2
        cases e2
      obtain ⟨j, rfl⟩ := Int.eq_ofNat_of_zero_le b70
      have hj : j < ys.length := by omega
      obtain ⟨i, hi, hi2, ey⟩ := hv j _ (List.getElem?_eq_getElem hj)
      have hi3 := of_decide_eq_true (List.mem_filter.mp hi).2
      refine r_ixL (sqL (k7 _ _ hDa h6)) (at_nat (by omega) (by rw [Int.toNat_natCast]; exact List.getElem?_eq_getElem hj)) ?_
      rw [ey]
      have hab7 := k7 _ _ naba hab6
      obtain ⟨p', q', z', t', cells', ea6, _⟩ := hh6.ex
      have t7 := (NLK.kp ea6 k7).tups
      walk_at "rd*"
      refine r_tupL (sqL hab7) fun g8 H8 n8 s8 h8 => ?_
      walk_at "rd*"
      refine r_mkT (szl (by simp)) fun tt H9 nt s9 htt => ?_
      walk_at "rd*"
      have hcanA := hcan hA
      refine k tt g8 _ A H9 (hand_same hh7 (s8.trans s9)) ?_ ⟨htt, ?_, ⟨us, s9 _ _ h8, Paired.mapP pA6 fun t x e => (s8.trans s9) _ _ (t7 _ _ e)⟩, ⟨by have := hA.len; omega, fun x hx => ?_, hA.asc⟩, hi3.1, hi3.2, ?_, fun x hx => (hcanA.here hS.nd x hx).2⟩ hcanA fun x hx => ?_
      · intro b o nb e
        exact (s8.trans s9) _ _ (k7 _ _ nb ((s5.trans s6) _ _ (k4 b o nb (fun z => by rw [z, nabH] at e; cases e) (k03 b o nb e))))
      · rcases (by omega : i = 0 ∨ i = 1) with rfl | rfl
        · exact .inr rfl
        · exact .inl rfl
      · obtain ⟨z, hz, e, e1, e2⟩ := hA.of x hx
        have := hokF z (List.mem_of_mem_take hz)
        omega
      · have := hA.sum
        have := hA.pos
        omega
      · obtain ⟨z, hz, e, e1, e2⟩ := hA.of x hx
        have := hokF z (List.mem_of_mem_take hz)
        omega
end
end Law

namespace Law
open PySem L2 MyB MyR MyD MyC
/-- things apart, all among ys: no more than ys -/
theorem nd_len {α : Type} [DecidableEq α] : ∀ {xs ys : List α}, xs.Nodup → (∀ x ∈ xs, x ∈ ys) → xs.length ≤ ys.length
  | [], _, _, _ => Nat.zero_le _
  | x :: xs, ys, h, s => by
    rw [List.nodup_cons] at h
    have hx := s x List.mem_cons_self
    have ih := nd_len (xs := xs) (ys := ys.erase x) h.2 fun z hz => (List.mem_erase_of_ne (fun e => h.1 (by rw [← e]; exact hz))).mpr (s z (List.mem_cons_of_mem _ hz))
    have e := List.length_erase_of_mem hx
    have p := List.length_pos_of_mem hx
    rw [List.length_cons]
    omega
theorem StOk.len {fl : Int} {L : List Grp} (h : StOk fl L) (f2 : fl ≤ 40) : L.length ≤ 1600 := by
  have q := nd_len (xs := L.map fun x => (x.1 * 40 + x.2.1).toNat) (ys := List.range 1600) ?_ ?_
  · simpa using q
  · refine List.pairwise_map.mpr (((List.Pairwise.and_mem.mp h.asc)).imp fun {x y} z e => ?_)
    obtain ⟨hx, hy, a⟩ := z
    have ox := h.ok x hx
    have oy := h.ok y hy
    unfold ascP at a
    omega
  · intro n hn
    obtain ⟨x, hx, rfl⟩ := List.mem_map.mp hn
    have ox := h.ok x hx
    rw [List.mem_range]
    omega
end Law

namespace Law
open PySem L2 MyB MyR MyD MyC
local macro_rules | `(tactic| walk_at "hp") => `(tactic| first | assumption | exact upd_same | ((repeat rw [upd_ne (by assumption)]); assumption))
local macro_rules | `(tactic| walk_at "sq") => `(tactic| first | assumption | exact sqL (by assumption) | exact sqT (by assumption) | exact sqL upd_same | exact sqT upd_same | exact sqL (by walk_at "hp") | exact sqT (by walk_at "hp"))
local macro_rules | `(tactic| walk_at "rd") => `(tactic| with_reducible (first
  | refine r_seq ?_ | refine r_asg ?_ | refine r_op ?_ | refine r_un ?_
  | (refine' r_var ?rdh ?_; (case rdh => (with_unfolding_all rfl)))
  | refine r_c ?_ | refine r_I0 ?_ | refine r_U ?_ | refine r_eqI ?_ | refine r_neI ?_ | refine r_eqB ?_ | refine r_neB ?_
  | refine r_test ?_ | refine r_tB ?_ | refine r_not ?_ | refine r_and ?_ | refine r_or ?_ | refine r_yes ?_
  | refine r_andV ?_ | refine r_orV ?_ | refine r_notV ?_ | refine r_chain ?_ | refine r_if ?_ | refine r_next ?_ | refine r_ifS ?_
  | refine r_ret ?_ | refine r_drop ?_ | refine r_name ?_ | refine r_sub ?_ | refine r_gCons ?_ | refine r_gNil ?_
  | refine r_cons ?_ | refine r_nil ?_ | refine r_cb ?_ | refine r_call ?_ | refine r_make ?_ | refine r_fld ?_ | refine r_tup ?_ | refine r_lst ?_
  | refine r_par ?_ | refine r_par3 ?_ | refine r_rng1 ?_ | refine r_rng2 ?_ | refine r_for ?_ | refine r_iList ?_ | refine r_iTup ?_ | refine r_lc ?_ | refine r_bm ?_ | refine MyK.r_zip ?_ | refine MyK.r_enum ?_ | refine MyK.r_listRg ?_ | refine MyK.r_max3 ?_ | refine r_fldS ?_
  | refine r_sl ?_ | refine r_noPart ?_ | refine r_part ?_ | refine r_abs ?_ | refine r_int ?_ | refine r_intB ?_ | refine r_max ?_ | refine r_min ?_ | refine r_bl ?_ | refine r_theInt ?_ | refine r_par2 ?_
  | (refine' r_ixL ?rdh ?rdi ?_; (case rdh => (with_unfolding_all (walk_at "sq"))); (case rdi => (with_unfolding_all rfl)))
  | (refine' r_ixT ?rdh ?rdi ?_; (case rdh => (with_unfolding_all (walk_at "sq"))); (case rdi => (with_unfolding_all rfl)))
  | (refine' r_setL ?rdh ?rdi ?_; (case rdh => (with_unfolding_all (walk_at "hp"))); (case rdi => (with_unfolding_all rfl)))
  | (refine' r_lenL ?rdh ?_; (case rdh => (with_unfolding_all (walk_at "sq"))))
  | (refine' r_lenT ?rdh ?_; (case rdh => (with_unfolding_all (walk_at "sq"))))
  | (refine' r_gTup ?rdh ?rdi ?_; (case rdh => (with_unfolding_all (walk_at "sq"))); (case rdi => (with_unfolding_all rfl)))
  | (refine' r_I ?rdh ?_; (case rdh => (with_unfolding_all (first | assumption | decide | exact ⟨by decide, by decide⟩ | exact .inr ⟨by decide, by decide⟩ | exact ⟨by decide, by decide, by decide⟩ | exact ⟨by omega, by omega⟩ | exact .inl ⟨by omega, by omega⟩ | exact .inr ⟨by omega, by omega⟩))))
  | (refine' r_aug ?rdh ?_; (case rdh => (with_unfolding_all rfl)))))
local macro_rules | `(tactic| walk_at "rd*") => `(tactic| (repeat (walk_at "rd")))

theorem Right.st {fl : Int} {L : List Grp} (h : Right fl L) : StOk fl L := ⟨fun x hx => by have := h.ok x hx; omega, h.asc⟩
theorem eqv_none (L : List Grp) : PyData.eqv (gD L) (gD []) = decide (L = []) := by
  cases L with
  | nil => simp [gD, PyData.eqv, PyData.eqvAll]
  | cons x M => simp [gD, PyData.eqv, PyData.eqvAll]
section
variable {P : Program} {w : World} {K : PySem.W.Frag} {mg : Str → Option Value} {base : Heap} {CH CS CR : Addr}
def spLaw (K : PySem.W.Frag) : Sp := fun vs H Q _ => ∃ (a : Addr) (ns : List Int), vs = [.ref a] ∧ SqL K H a (ns.map V.int) ∧ ns.length ≤ 63 ∧ ∀ H', Q (.bl true) H'
theorem D_law {f : Addr} {fd : FuncData} (F : Fun K "law" "law" s_law f fd) (B : Bi mg) (T : Txt K mg CH CS CR) (kRS : PySem.W.kitOne K (.ref CR) (.ref CS) = some true)
    (D__law_hand : IsDef P w K mg base 2 "_law_hand" ["_law_script"] (spHand K)) (D__law_draw : IsDef P w K mg base 2 "_law_draw" ["_law_hand_here", "_law_many"] spDraw) (D__law_world : IsDef P w K mg base 5 "_law_world" ["_law_hand_here"] spWorld)
    (M_House : IsMake P w K mg base 4 "House" CH ["self", "floors", "room"] (spHouse K CH)) (M_Standing : IsMake P w K mg base 7 "Standing" CS ["self", "house", "lift", "groups"] (spStanding K CH CS)) (D_people : IsDef P w K mg base 2 "people" ["standing"] (spPeople K CH))
    (D__law_move : IsDef P w K mg base 3 "_law_move" ["_law_hand_here", "_law_floors", "_law_room", "_law_state"] spLMove) (D__law_made : IsDef P w K mg base 2 "_law_made" ["_law_state", "_law_move_here"] spLMade) (D_moved : IsDef P w K mg base 7 "moved" ["standing", "move"] (spMoved K CH CR))
    (D__law_is_told : IsDef P w K mg base 4 "_law_is_told" ["_law_told", "_law_house", "_law_state"] (spTold K CH CS)) (E_R : MyO.EqOf P w K mg base 4 CR (spSEq K CH CS)) : FnOk P w K mg base CX0 10 f fd ["_law_script"] (spLaw K) := by
  refine F.ok (N := N_law) (ps := ["_law_script"]) sc_law (fun vs H Q E h => ?_) (fun cdv A outer s H vs Q E hr h => ?_)
  · obtain ⟨a, ns, rfl, _⟩ := h
    rfl
  · obtain ⟨sc, ns, rfl, hS, hl, k⟩ := h
    refine ⟨_, (pss_cons (ps_set (i := 1) sc_law.nd rfl (Or.inl rfl) (pe_callD D__law_hand (hr.mono (by decide)) rfl (pa_cons (pv 0) pa_nil)))
  (pss_cons (ps_for PassesOwn.never rfl (pi_range1 (by rfl) B.range (pa_cons pe_int pa_nil)) (pg_name (i := 2) sc_law.nd rfl (Or.inl rfl))
    (pss_cons (ps_asg (pe_callD D__law_world (hr.mono (by decide)) rfl (pa_cons (pv 1) pa_nil)) (MyK.pg_tup (K := K) (n := 4) rfl rfl (pgs_cons (pg_name (i := 3) sc_law.nd rfl (Or.inl rfl)) (pgs_cons (pg_name (i := 4) sc_law.nd rfl (Or.inl rfl)) (pgs_cons (pg_name (i := 5) sc_law.nd rfl (Or.inl rfl)) (pgs_cons (pg_name (i := 6) sc_law.nd rfl (Or.inl rfl)) pgs_nil))))))
      (Evl.pss_cut (ps_if (pt_cmpR (MyK.op_neD (K := K) rfl hr.units) (pv 6) (pe_tup pa_nil) (nomark _))
        (pss_one (ps_set (i := 5) sc_law.nd rfl (Or.inl rfl) (pe_ix (MyK.ix_tup (K := K) rfl) (pe_ix (MyK.ix_tup (K := K) rfl) (pv 6) (pe_callD D__law_draw (hr.mono (by decide)) rfl (pa_cons (pv 1) (pa_cons (pe_callB (MyK.q_len (K := K) rfl) (by rfl) B.len (by decide +kernel) (pa_cons (pv 6) pa_nil)) pa_nil))) (fun _ _ => rfl)) pe_int (fun _ _ => rfl))))
        pss_nil)
      (pss_cons (ps_set (i := 7) sc_law.nd rfl (Or.inl rfl) (pe_makeD M_House (hr.mono (by decide)) rfl (pa_cons (pv 3) (pa_cons (pv 4) pa_nil))))
      (pss_cons (ps_set (i := 8) sc_law.nd rfl (Or.inl rfl) (pe_tup (pa_cons (pv 5) (pa_cons (pv 6) pa_nil))))
      (pss_cons (ps_set (i := 9) sc_law.nd rfl (Or.inl rfl) (pe_makeD M_Standing (hr.mono (by decide)) rfl (pa_cons (pv 7) (pa_cons (pv 5) (pa_cons (pv 6) pa_nil)))))
      (pss_cons (ps_set (i := 10) sc_law.nd rfl (Or.inl rfl) (pe_callD D_people (hr.mono (by decide)) rfl (pa_cons (pv 9) pa_nil)))
      (pss_one (ps_for PassesOwn.never rfl (pi_range1 (by rfl) B.range (pa_cons (pe_ix (MyK.ix_list (K := K) rfl) (pe_lst (pa_cons pe_int (pa_cons pe_int pa_nil))) (pe_callTy q_int (by rfl) B.int (by decide +kernel) (pa_cons (pe_cmpR op_gt (pe_callB (MyK.q_len (K := K) rfl) (by rfl) B.len (by decide +kernel) (pa_cons (pv 6) pa_nil)) pe_int (nomark _)) pa_nil)) (fun _ _ => rfl)) pa_nil)) (pg_name (i := 11) sc_law.nd rfl (Or.inl rfl))
        (pss_cons (ps_set (i := 12) sc_law.nd rfl (Or.inl rfl) (pe_callD D__law_move (hr.mono (by decide)) rfl (pa_cons (pv 1) (pa_cons (pv 3) (pa_cons (pv 4) (pa_cons (pv 8) pa_nil))))))
          (pss_cons (ps_set (i := 13) sc_law.nd rfl (Or.inl rfl) (pe_callD D__law_made (hr.mono (by decide)) rfl (pa_cons (pv 8) (pa_cons (pv 12) pa_nil))))
          (pss_cons (ps_set (i := 14) sc_law.nd rfl (Or.inl rfl) (pe_callD D_moved (hr.mono (by decide)) rfl (pa_cons (pv 9) (pa_cons (pv 12) pa_nil))))
          (pss_cons (ps_if (PW.pt (pw_or (pt_not (pt_val (pe_callD D__law_is_told (hr.mono (by decide)) rfl (pa_cons (pv 14) (pa_cons (pv 7) (pa_cons (pv 13) pa_nil)))))) (pw_or1 (pt_cmpR op_ne (pe_callD D_people (hr.mono (by decide)) rfl (pa_cons (pv 14) pa_nil)) (pv 10) (nomark _)))))
            (pss_one (ps_ret pe_bl))
            pss_nil)
          (pss_cons (ps_if (pt_not (pt_val (pe_callD D__law_is_told (hr.mono (by decide)) rfl (pa_cons (pe_callD D_moved (hr.mono (by decide)) rfl (pa_cons (pv 14) (pa_cons (pe_tup (pa_cons (pe_un un_neg (pe_ix (MyK.ix_tup (K := K) rfl) (pv 12) pe_int (fun _ _ => rfl))) (pa_cons (pe_ix (MyK.ix_tup (K := K) rfl) (pv 12) pe_int (fun _ _ => rfl)) pa_nil))) pa_nil))) (pa_cons (pv 7) (pa_cons (pv 8) pa_nil))))))
            (pss_one (ps_ret pe_bl))
            pss_nil)
          (pss_cons (ps_if (pt_not (pt_val (pe_callD D__law_is_told (hr.mono (by decide)) rfl (pa_cons (pv 9) (pa_cons (pv 7) (pa_cons (pv 8) pa_nil))))))
            (pss_one (ps_ret pe_bl))
            pss_nil)
          (pss_cons (ps_if (pt_not (pt_cmpR (MyO.op_eqO E_R (hr.mono (by decide))) (pe_callD D_moved (hr.mono (by decide)) rfl (pa_cons (pv 9) (pa_cons (pv 12) pa_nil))) (pv 14) (nomark _)))
            (pss_one (ps_ret pe_bl))
            pss_nil)
          (pss_one (ps_par (i := 8) (j := 9) (by rfl) sc_law.nd rfl rfl (by decide) rfl rfl (pa_cons (pv 13) (pa_cons (pv 14) pa_nil)) (by rfl)))))))))))))))))))
  (pss_one (ps_ret pe_bl)))), ?_⟩
    walk_at "rd*"
    refine ⟨sc, ns, rfl, hS, hl, fun a c H1 s1 hh1 na nc => ?_⟩
    walk_at "rd*"
    refine ⟨3, rfl, by decide, by decide, ?_⟩
    refine for_range (n := 3) (fun i σ' H' => Hand H' a c ∧ ∃ v2 v3 v4 v5 v6 v7 v8 v9 v10 v11 v12 v13 v14 : Option V, σ' = [some (.ref sc), some (.ref a), v2, v3, v4, v5, v6, v7, v8, v9, v10, v11, v12, v13, v14])
      ⟨hh1, _, _, _, _, _, _, _, _, _, _, _, _, _, rfl⟩ ?_ ?_
    · rintro i σ' H2 hi ⟨hh2, v2, v3, v4, v5, v6, v7, v8, v9, v10, v11, v12, v13, v14, rfl⟩
      walk_at "rd*"
      refine ⟨a, c, rfl, hh2, fun t fl rm lift g L H3 f1 f2 r1 r2 l1 l2 hR hg ht hh3 k3 => ?_⟩
      refine r_gTup (sqT ht) rfl ?_
      walk_at "rd*"
      refine ⟨fun σ' H' => ∃ (lift : Int) , 0 ≤ lift ∧ lift < fl ∧ GrpsAt H' g L ∧ Hand H' a c ∧ σ' = [some (.ref sc), some (.ref a), some (.int (0 + (i : Int))), some (.int fl), some (.int rm), some (.int lift), some (.ref g), v7, v8, v9, v10, v11, v12, v13, v14], ?_, ?_⟩
      · walk_at "rd*"
        obtain ⟨as, ga, gp⟩ := id hg
        have l400 := hR.len
        have hml : (as.map V.ref).length = L.length := by rw [List.length_map]; exact gp.length
        refine r_mkT (szl (by simp)) fun ee H4 ne s4 hee => ?_
        have ga4 := s4 _ _ ga
        have gp4 := Paired.mapP gp fun a x e => s4 _ _ e
        have hh4 := hand_same hh3 s4
        refine ⟨gD L, gD [], .tup (sqT ga4) (dpAll_groups gp4), .tup (sqT hee) .nil, gD_shaped _, gD_shaped _, ?_⟩
        rw [eqv_none]
        walk_at "rd*"
        refine ite_b (fun c0 => ?_) (fun c0 => ?_)
        · have hL0 : L ≠ [] := by simpa using c0
          have hpos : 0 < L.length := List.length_pos_iff.mpr hL0
          walk_at "rd*"
          refine ⟨a, c, _, rfl, hh4, by rw [hml]; omega, by rw [hml]; omega, fun n5 H5 b50 b51 hh5 k5 => ?_⟩
          rw [hml] at b51
          obtain ⟨p', q', z', t', cells', ea, _⟩ := hh4.ex
          have t5 := (NLK.kp ea k5).tups
          obtain ⟨j, rfl⟩ := Int.eq_ofNat_of_zero_le b50
          have hj : j < as.length := by rw [← List.length_map (f := V.ref), hml]; omega
          obtain ⟨z, hz, hza⟩ := pairedAt gp4 (List.getElem?_eq_getElem hj)
          have ok := hR.ok z (List.mem_of_getElem? hz)
          refine r_ixT (v := .ref as[j]) (sqT (t5 _ _ ga4)) (at_nat (by omega) (by rw [Int.toNat_natCast, List.getElem?_map, List.getElem?_eq_getElem hj]; rfl)) ?_
          walk_at "rd*"
          refine r_ixT (v := .int z.1) (sqT (t5 _ _ hza)) rfl ?_
          walk_at "rd*"
          exact ⟨z.1, by omega, by omega, (hg.mono (.of s4)).mono t5, hh5, rfl⟩
        · walk_at "rd*"
          exact ⟨lift, l1, l2, hg.mono (.of s4), hh4, rfl⟩
      clear ht k3 hh3 l1 l2 hg
      rintro σ' H4 ⟨lift, l1, l2, hg4, hh4, rfl⟩
      walk_at "rd*"
      intro x dx nx ndx nd
      have s3 := made_same (C := CH) nx ndx
      refine ⟨x, dx, fl, rm, rfl, upd_same, f1, f2, r1, r2, fun H5 hH5 k5 => ⟨rfl, ?_⟩⟩
      have s5 : Same H4 H5 := fun b o e => k5 b o (ne_of_none e nx) (s3 _ _ e)
      clear s3 k5
      walk_at "rd*"
      refine r_mkT (szl (by simp)) fun st H6 nst s6 hst => ?_
      walk_at "rd*"
      have hH6 := hH5.mono (.of s6)
      intro x2 dx2 nx2 ndx2 nd2
      have s7 := made_same (C := CS) nx2 ndx2
      obtain ⟨dh, fh, eh, _⟩ := hH6.ex
      have s46 := s5.trans s6
      refine ⟨x2, dx2, x, g, fl, rm, lift, L, rfl, upd_same, hH6.mono (.of s7), ne_of_none eh nx2, l1, l2, hg4.mono (.of (s46.trans s7)), hR, fun H8 hS8 k8 => ⟨rfl, ?_⟩⟩
      have s8 : Same H6 H8 := fun b o e => k8 b o (ne_of_none e nx2) (s7 _ _ e)
      have s48 := s46.trans s8
      have hg8 : GrpsAt H8 g L := hg4.mono (.of s48)
      have hh8 := hand_same hh4 s48
      have hst8 := s8 _ _ hst
      have l400 := hR.len
      clear s7 k8 hg4 hh4 hH5 hH6 hst eh s48 s46 s8 s6 s5
      walk_at "rd*"
      refine ⟨x2, x, g, fl, rm, lift, L, rfl, hS8.2, hg8, by omega, fun H9 s9 => ?_⟩
      have hS9 := hS8.mono (.of s9)
      have hg9 : GrpsAt H9 g L := hg8.mono (.of s9)
      have hh9 := hand_same hh8 s9
      have hst9 := s9 _ _ hst8
      walk_at "rd*"
      obtain ⟨as9, ga9, gp9⟩ := id hg9
      have hml : (as9.map V.ref).length = L.length := by rw [List.length_map]; exact gp9.length
      refine r_mkL (szl (by simp)) fun ll H10 nl s10 hll => ?_
      have hst10 := s10 _ _ hst9
      have ga10 := s10 _ _ ga9
      walk_at "rd*"
      have hix : ∃ cnt : Nat, cnt ≤ 12 ∧ rIxL K (V.ref ll) (V.int (if decide ((40 : Int) < ((List.map V.ref as9).length : Int)) = true then 1 else 0)) H10 = rIxL K (V.ref ll) (V.int (if decide ((40 : Int) < ((List.map V.ref as9).length : Int)) = true then 1 else 0)) H10 ∧
          atI [V.int 12, V.int 3] (if decide ((40 : Int) < ((List.map V.ref as9).length : Int)) = true then 1 else 0) = some (V.int (cnt : Nat)) := by
        by_cases c4 : (40 : Int) < ((List.map V.ref as9).length : Int)
        · exact ⟨3, by omega, rfl, by rw [decide_eq_true c4]; rfl⟩
        · exact ⟨12, by omega, rfl, by rw [decide_eq_false c4]; rfl⟩
      obtain ⟨cnt, hcnt, _, hat⟩ := hix
      refine r_ixL (v := .int (cnt : Nat)) (sqL hll) hat ?_
      walk_at "rd*"
      refine ⟨(cnt : Nat), rfl, by omega, by omega, ?_⟩
      rw [Int.toNat_natCast]
      have hS10 := hS9.mono (.of s10)
      have hg10 : GrpsAt H10 g L := hg9.mono (.of s10)
      have hh10 := hand_same hh9 s10
      have hho : HouseAt K CH H10 x fl rm := hS10.2.ho
      have hst0 := hR.st
      clear hS8 hg8 hh8 hst8 hS9 hg9 hh9 hst9 s9 s10 ga9 gp9 ga10 hll
      refine for_range (n := cnt) (fun k' σ' H' => ∃ (lift : Int) (st x2 hp g gS C : Addr) (L' : List Grp) (w11 w12 w13 w14 : Option V), 0 ≤ lift ∧ lift < fl ∧ StOk fl L' ∧ sumG L' = (L.map fun x => x.2.2).sum ∧ Hand H' a c ∧ HouseAt K CH H' x fl rm ∧ H' st = some (.tup [.int lift, .ref g]) ∧ GrpsAt H' g L' ∧
          StC K CH C H' x2 hp fl rm lift gS ∧ GrpsAt H' gS L' ∧ C8.InsC K C ∧ PySem.W.kitOne K (.ref C) (.ref CS) = some true ∧
          ∃ v5 v6, σ' = [some (.ref sc), some (.ref a), some (.int (0 + (i : Int))), some (.int fl), some (.int rm), v5, v6, some (.ref x), some (.ref st), some (.ref x2), some (.int (L.map fun x => x.2.2).sum), w11, w12, w13, w14])
        ⟨lift, st, x2, x, g, g, CS, L, _, _, _, _, l1, l2, hst0, rfl, hh10, hho, hst10, hg10, hS10, hg10, T.iS, T.iS.me, _, _, rfl⟩ ?_ ?_
      · clear hS10 hg10 hh10 hho hst0 hst10 hR l400 l1 l2
        rintro k' σ' H' hk' ⟨lift, st, x2, hp, g, gS, C, L1, w11, w12, w13, w14, l1, l2, hok, hsum, hh, hho, hst, hg, hS, hgS, iC, kC, v5', v6', rfl⟩
        have len1 := hok.len f2
        walk_at "rd*"
        refine ⟨a, c, st, g, fl, rm, lift, L1, rfl, hh, f1, f2, r1, l1, l2, hst, hg, len1, hok, fun m ab n A Ha hha ka hM hC hA => ?_⟩
        obtain ⟨p', q', z', t', cells', ea, _⟩ := hh.ex
        have na : NLK H' Ha := NLK.kp ea ka
        have hhoA := hho.mono na
        have hstA := na.tups _ _ hst
        have hgA : GrpsAt Ha g L1 := hg.mono na.tups
        have hSA := hS.mono na
        have hgSA : GrpsAt Ha gS L1 := hgS.mono na.tups
        have hway := hM.way
        have hab : lift ≠ lift + n := by rcases hway with rfl | rfl <;> omega
        clear hh hho hst hg hS hgS na ka ea
        walk_at "rd*"
        have hmA := hM.hm
        refine ⟨st, g, m, ab, lift, n, L1, A, rfl, hstA, hgA, by omega, hok.nd, hmA, hM.hA, hM.hR.len, fun x hx => (hC.here hok.nd x hx).1, fun tl gl L2 Hb sb htl hgl hp2 ha2 => ?_⟩
        have hok2 := behind_ok hok hab hC hA ⟨hM.lo, hM.hi⟩ hp2 ha2
        have len2 := hok2.len f2
        have hhoB := hhoA.mono (.of sb)
        have hstB := sb _ _ hstA
        have hgB : GrpsAt Hb g L1 := hgA.mono (.of sb)
        have hSB := hSA.mono (.of sb)
        have hgSB : GrpsAt Hb gS L1 := hgSA.mono (.of sb)
        have hhB := hand_same hha sb
        have hMB := hM.mono (.of sb)
        clear hhoA hstA hgA hSA hgSA hha hM sb hmA
        walk_at "rd*"
        refine ⟨x2, hp, gS, m, ab, fl, rm, lift, n, L1, A, rfl, hSB.2, hgSB, by omega, hok, hMB, hC, fun tx gt L3 Hc sc3 hTc hgt hp3 ha3 => ?_⟩
        have e32 : L3 = L2 := asc_one (hp3.trans hp2.symm) ha3 ha2
        subst e32
        have hhoC := hhoB.mono (.of sc3)
        have hstC := sc3 _ _ hstB
        have htlC := sc3 _ _ htl
        have hglC : GrpsAt Hc gl L3 := hgl.mono (.of sc3)
        have hgC : GrpsAt Hc g L1 := hgB.mono (.of sc3)
        have hSC := hSB.mono (.of sc3)
        have hgSC : GrpsAt Hc gS L1 := hgSB.mono (.of sc3)
        have hhC := hand_same hhB sc3
        have hMC := hMB.mono (.of sc3)
        clear hhoB hstB hgB hSB hgSB hhB hMB sc3 htl hgl
        walk_at "rd*"
        refine ⟨tx, CR, hp, x, gt, tl, gl, fl, rm, lift + n, L3, rfl, hTc, T.iR, kRS, hhoC, htlC, hgt, hglC, ?_⟩
        walk_at "rd*"
        refine iteF ?_
        walk_at "rd*"
        refine ⟨tx, hp, gt, fl, rm, lift + n, L3, rfl, hTc.2, hgt, by omega, fun Hd sd => ?_⟩
        have es : (L3.map fun x => x.2.2).sum = (L.map fun x => x.2.2).sum := (behind_sum hok hab hC hp2).trans hsum
        rw [es]
        have hhoD := hhoC.mono (.of sd)
        have hstD := sd _ _ hstC
        have htlD := sd _ _ htlC
        have hglD : GrpsAt Hd gl L3 := hglC.mono (.of sd)
        have hgtD : GrpsAt Hd gt L3 := hgt.mono (.of sd)
        have hTD := hTc.mono (.of sd)
        have hgD : GrpsAt Hd g L1 := hgC.mono (.of sd)
        have hSD := hSC.mono (.of sd)
        have hgSD : GrpsAt Hd gS L1 := hgSC.mono (.of sd)
        have hhD := hand_same hhC sd
        have hMD := hMC.mono (.of sd)
        clear hhoC hstC htlC hglC hgt hTc hgC hSC hgSC hhC hMC sd
        have hmD := hMD.hm
        walk_at "rd*"
        refine ite_no (by simp) ?_
        walk_at "rd*"
        refine r_mkT (szl (by simp)) fun bm He nbm se hbm => ?_
        walk_at "rd*"
        have hMb : MoveOk He bm ab (-n) A L3 fl rm (lift + n) := ⟨hbm, by rcases hway with rfl | rfl <;> simp, hMD.hA.mono (.of se), hMD.hR, by omega, by omega, hMD.fit, fun x hx => ((back_can hok hab hC hp2).here hok2.nd x hx).2⟩
        refine ⟨tx, hp, gt, bm, ab, fl, rm, lift + n, -n, L3, A, rfl, (hTD.mono (.of se)).2, hgtD.mono (.of se), by omega, hok2, hMb, back_can hok hab hC hp2, fun tb gb L4 Hf sf hTb hgb hp4 ha4 => ?_⟩
        have eback : lift + n + -n = lift := by omega
        rw [eback] at hTb hp4
        have e41 : L4 = L1 := there_back hok hok2 hab hC hp2 hp4 ha4
        subst e41
        have sef := se.trans sf
        have hhoF := hhoD.mono (.of sef)
        have hstF := sef _ _ hstD
        have htlF := sef _ _ htlD
        have hglF : GrpsAt Hf gl L3 := hglD.mono (.of sef)
        have hgtF : GrpsAt Hf gt L3 := hgtD.mono (.of sef)
        have hTF := hTD.mono (.of sef)
        have hgF : GrpsAt Hf g L4 := hgD.mono (.of sef)
        have hSF := hSD.mono (.of sef)
        have hgSF : GrpsAt Hf gS L4 := hgSD.mono (.of sef)
        have hhF := hand_same hhD sef
        have hMF := hMD.mono (.of sef)
        clear hhoD hstD htlD hglD hgtD hTD hgD hSD hgSD hhD hMD sef se sf hbm hmD
        walk_at "rd*"
        refine ⟨tb, CR, hp, x, gb, st, g, fl, rm, lift, L4, rfl, hTb, T.iR, kRS, hhoF, hstF, hgb, hgF, ?_⟩
        walk_at "rd*"
        refine iteF ?_
        walk_at "rd*"
        refine ⟨x2, C, hp, x, gS, st, g, fl, rm, lift, L4, rfl, hSF, iC, kC, hhoF, hstF, hgSF, hgF, ?_⟩
        walk_at "rd*"
        refine iteF ?_
        walk_at "rd*"
        refine ⟨x2, hp, gS, m, ab, fl, rm, lift, n, L4, A, rfl, hSF.2, hgSF, by omega, hok, hMF, hC, fun ty gy L5 Hg sg hTy hgy hp5 ha5 => ?_⟩
        have e53 : L5 = L3 := asc_one (hp5.trans hp2.symm) ha5 ha2
        subst e53
        obtain ⟨⟨d5, f5, e5⟩, _⟩ := id hTy
        have hTG := hTF.mono (.of sg)
        obtain ⟨⟨d6, f6, e6⟩, _⟩ := id hTG
        have hgtG : GrpsAt Hg gt L5 := hgtF.mono (.of sg)
        walk_at "rd*"
        refine ⟨ty, d5, f5, tx, CR, d6, f6, rfl, rfl, e5, e6, first_self K CR, ty, tx, CR, hp, hp, gy, gt, fl, rm, lift + n, L5, rfl, hTy.2, hTG, hgy, hgtG, T.iR, kRS, true, rfl, ?_⟩
        walk_at "rd*"
        refine iteF ?_
        walk_at "rd*"
        exact ⟨lift + n, tl, tx, hp, gl, gt, CR, L5, _, _, _, _, hMF.lo, hMF.hi, hok2, es, hand_same hhF sg, hhoF.mono (.of sg), sg _ _ htlF, hglF.mono (.of sg), hTG, hgtG, T.iR, kRS, _, _, rfl⟩
      · rintro σ' H' ⟨lift, st, x2, hp, g, gS, C, L1, w11, w12, w13, w14, l1, l2, hok, hsum, hh, hho, hst, hg, hS, hgS, iC, kC, v5', v6', rfl⟩
        exact ⟨hh, _, _, _, _, _, _, _, _, _, _, _, _, _, rfl⟩
    · rintro σ' H2 ⟨hh2, v2, v3, v4, v5, v6, v7, v8, v9, v10, v11, v12, v13, v14, rfl⟩
      walk_at "rd*"
      exact k H2
end
end Law
namespace Law
open PySem L2 MyB MyR MyD
theorem all_mk {l : PySem.W.OpenLaw} {w : World} {K : PySem.W.Frag} {h : Heap} {mg : Str → Option Value} {fa CH CS CR : Addr} (X : K.In h) (G : h.Ns mainGlobals mg) (hfa : mg "law" = some (.ref fa))
    {od_is_integer an_is_integer : Option Addr} {sl_is_integer : Array (Option Value)} {oc_is_integer kV_is_integer dc_is_integer pm_is_integer cd_is_integer ct_is_integer : Value} {f_is_integer : Addr}
    {od_is_within an_is_within : Option Addr} {sl_is_within : Array (Option Value)} {oc_is_within kV_is_within dc_is_within pm_is_within cd_is_within ct_is_within : Value} {f_is_within : Addr}
    {od_is_floor an_is_floor : Option Addr} {sl_is_floor : Array (Option Value)} {oc_is_floor kV_is_floor dc_is_floor pm_is_floor cd_is_floor ct_is_floor : Value} {f_is_floor : Addr}
    {od_is_group an_is_group : Option Addr} {sl_is_group : Array (Option Value)} {oc_is_group kV_is_group dc_is_group pm_is_group cd_is_group ct_is_group : Value} {f_is_group : Addr}
    {od_is_groups an_is_groups : Option Addr} {sl_is_groups : Array (Option Value)} {oc_is_groups kV_is_groups dc_is_groups pm_is_groups cd_is_groups ct_is_groups : Value} {f_is_groups : Addr}
    {od_people an_people : Option Addr} {sl_people : Array (Option Value)} {oc_people kV_people dc_people pm_people cd_people ct_people : Value} {f_people : Addr}
    {od_wants_at an_wants_at : Option Addr} {sl_wants_at : Array (Option Value)} {oc_wants_at kV_wants_at dc_wants_at pm_wants_at cd_wants_at ct_wants_at : Value} {f_wants_at : Addr}
    {od_raw_standing an_raw_standing : Option Addr} {sl_raw_standing : Array (Option Value)} {oc_raw_standing kV_raw_standing dc_raw_standing pm_raw_standing cd_raw_standing ct_raw_standing : Value} {f_raw_standing : Addr}
    {od_known_of an_known_of : Option Addr} {sl_known_of : Array (Option Value)} {oc_known_of kV_known_of dc_known_of pm_known_of cd_known_of ct_known_of : Value} {f_known_of : Addr}
    {od_is_way an_is_way : Option Addr} {sl_is_way : Array (Option Value)} {oc_is_way kV_is_way dc_is_way pm_is_way cd_is_way ct_is_way : Value} {f_is_way : Addr}
    {od_is_aboard an_is_aboard : Option Addr} {sl_is_aboard : Array (Option Value)} {oc_is_aboard kV_is_aboard dc_is_aboard pm_is_aboard cd_is_aboard ct_is_aboard : Value} {f_is_aboard : Addr}
    {od_is_built_move an_is_built_move : Option Addr} {sl_is_built_move : Array (Option Value)} {oc_is_built_move kV_is_built_move dc_is_built_move pm_is_built_move cd_is_built_move ct_is_built_move : Value} {f_is_built_move : Addr}
    {od_can_go an_can_go : Option Addr} {sl_can_go : Array (Option Value)} {oc_can_go kV_can_go dc_can_go pm_can_go cd_can_go ct_can_go : Value} {f_can_go : Addr}
    {od_is_move an_is_move : Option Addr} {sl_is_move : Array (Option Value)} {oc_is_move kV_is_move dc_is_move pm_is_move cd_is_move ct_is_move : Value} {f_is_move : Addr}
    {od_behind_move an_behind_move : Option Addr} {sl_behind_move : Array (Option Value)} {oc_behind_move kV_behind_move dc_behind_move pm_behind_move cd_behind_move ct_behind_move : Value} {f_behind_move : Addr}
    {od_moved an_moved : Option Addr} {sl_moved : Array (Option Value)} {oc_moved kV_moved dc_moved pm_moved cd_moved ct_moved : Value} {f_moved : Addr}
    {od__law_hand an__law_hand : Option Addr} {sl__law_hand : Array (Option Value)} {oc__law_hand kV__law_hand dc__law_hand pm__law_hand cd__law_hand ct__law_hand : Value} {f__law_hand : Addr}
    {od__law_draw an__law_draw : Option Addr} {sl__law_draw : Array (Option Value)} {oc__law_draw kV__law_draw dc__law_draw pm__law_draw cd__law_draw ct__law_draw : Value} {f__law_draw : Addr}
    {od__law_great an__law_great : Option Addr} {sl__law_great : Array (Option Value)} {oc__law_great kV__law_great dc__law_great pm__law_great cd__law_great ct__law_great : Value} {f__law_great : Addr}
    {od__law_groups an__law_groups : Option Addr} {sl__law_groups : Array (Option Value)} {oc__law_groups kV__law_groups dc__law_groups pm__law_groups cd__law_groups ct__law_groups : Value} {f__law_groups : Addr}
    {od__law_great_groups an__law_great_groups : Option Addr} {sl__law_great_groups : Array (Option Value)} {oc__law_great_groups kV__law_great_groups dc__law_great_groups pm__law_great_groups cd__law_great_groups ct__law_great_groups : Value} {f__law_great_groups : Addr}
    {od__law_world an__law_world : Option Addr} {sl__law_world : Array (Option Value)} {oc__law_world kV__law_world dc__law_world pm__law_world cd__law_world ct__law_world : Value} {f__law_world : Addr}
    {od__law_here an__law_here : Option Addr} {sl__law_here : Array (Option Value)} {oc__law_here kV__law_here dc__law_here pm__law_here cd__law_here ct__law_here : Value} {f__law_here : Addr}
    {od__law_made an__law_made : Option Addr} {sl__law_made : Array (Option Value)} {oc__law_made kV__law_made dc__law_made pm__law_made cd__law_made ct__law_made : Value} {f__law_made : Addr}
    {od__law_move an__law_move : Option Addr} {sl__law_move : Array (Option Value)} {oc__law_move kV__law_move dc__law_move pm__law_move cd__law_move ct__law_move : Value} {f__law_move : Addr}
    {od__law_is_told an__law_is_told : Option Addr} {sl__law_is_told : Array (Option Value)} {oc__law_is_told kV__law_is_told dc__law_is_told pm__law_is_told cd__law_is_told ct__law_is_told : Value} {f__law_is_told : Addr}
    {od_law an_law : Option Addr} {sl_law : Array (Option Value)} {oc_law kV_law dc_law pm_law cd_law ct_law : Value} {f_law : Addr}
    {od_House_i an_House_i : Option Addr} {sl_House_i : Array (Option Value)} {oc_House_i kV_House_i dc_House_i pm_House_i cd_House_i ct_House_i : Value} {f_House_i : Addr}
    {od_Standing_i an_Standing_i : Option Addr} {sl_Standing_i : Array (Option Value)} {oc_Standing_i kV_Standing_i dc_Standing_i pm_Standing_i cd_Standing_i ct_Standing_i : Value} {f_Standing_i : Addr}
    {od_RawStanding_i an_RawStanding_i : Option Addr} {sl_RawStanding_i : Array (Option Value)} {oc_RawStanding_i kV_RawStanding_i dc_RawStanding_i pm_RawStanding_i cd_RawStanding_i ct_RawStanding_i : Value} {f_RawStanding_i : Addr}
    {od_HE an_HE : Option Addr} {sl_HE : Array (Option Value)} {oc_HE kV_HE dc_HE pm_HE cd_HE ct_HE : Value} {f_HE : Addr}
    {od_RE an_RE : Option Addr} {sl_RE : Array (Option Value)} {oc_RE kV_RE dc_RE pm_RE cd_RE ct_RE : Value} {f_RE : Addr}
    {t_MOST_FLOORS : Tok}
    {t_MOST_ROOM : Tok}
    {t_MOST_GROUPS : Tok}
    {t_MOST_PEOPLE : Tok}
    {t_UP : Tok}
    {t_DOWN : Tok}
    (a_is_integer : PySem.W.nsIn K mainGlobals "is_integer" = some (some (.ref f_is_integer)))
    (l_is_integer : K.lookup f_is_integer = some ⟨oc_is_integer, od_is_integer, .func (PySem.W.fnOf "is_integer" "is_integer" (defArgs s_is_integer) (defBody s_is_integer) (defScope s_is_integer) .none kV_is_integer dc_is_integer pm_is_integer an_is_integer cd_is_integer ct_is_integer), sl_is_integer⟩)
    (c_is_integer : PySem.W.codeIn K cd_is_integer "is_integer" = true) (k_is_integer : PySem.W.keepIn K (.ref f_is_integer) = true)
    (a_is_within : PySem.W.nsIn K mainGlobals "is_within" = some (some (.ref f_is_within)))
    (l_is_within : K.lookup f_is_within = some ⟨oc_is_within, od_is_within, .func (PySem.W.fnOf "is_within" "is_within" (defArgs s_is_within) (defBody s_is_within) (defScope s_is_within) .none kV_is_within dc_is_within pm_is_within an_is_within cd_is_within ct_is_within), sl_is_within⟩)
    (c_is_within : PySem.W.codeIn K cd_is_within "is_within" = true) (k_is_within : PySem.W.keepIn K (.ref f_is_within) = true)
    (a_is_floor : PySem.W.nsIn K mainGlobals "is_floor" = some (some (.ref f_is_floor)))
    (l_is_floor : K.lookup f_is_floor = some ⟨oc_is_floor, od_is_floor, .func (PySem.W.fnOf "is_floor" "is_floor" (defArgs s_is_floor) (defBody s_is_floor) (defScope s_is_floor) .none kV_is_floor dc_is_floor pm_is_floor an_is_floor cd_is_floor ct_is_floor), sl_is_floor⟩)
    (c_is_floor : PySem.W.codeIn K cd_is_floor "is_floor" = true) (k_is_floor : PySem.W.keepIn K (.ref f_is_floor) = true)
    (a_is_group : PySem.W.nsIn K mainGlobals "is_group" = some (some (.ref f_is_group)))
    (l_is_group : K.lookup f_is_group = some ⟨oc_is_group, od_is_group, .func (PySem.W.fnOf "is_group" "is_group" (defArgs s_is_group) (defBody s_is_group) (defScope s_is_group) .none kV_is_group dc_is_group pm_is_group an_is_group cd_is_group ct_is_group), sl_is_group⟩)
    (c_is_group : PySem.W.codeIn K cd_is_group "is_group" = true) (k_is_group : PySem.W.keepIn K (.ref f_is_group) = true)
    (a_is_groups : PySem.W.nsIn K mainGlobals "is_groups" = some (some (.ref f_is_groups)))
    (l_is_groups : K.lookup f_is_groups = some ⟨oc_is_groups, od_is_groups, .func (PySem.W.fnOf "is_groups" "is_groups" (defArgs s_is_groups) (defBody s_is_groups) (defScope s_is_groups) .none kV_is_groups dc_is_groups pm_is_groups an_is_groups cd_is_groups ct_is_groups), sl_is_groups⟩)
    (c_is_groups : PySem.W.codeIn K cd_is_groups "is_groups" = true) (k_is_groups : PySem.W.keepIn K (.ref f_is_groups) = true)
    (a_people : PySem.W.nsIn K mainGlobals "people" = some (some (.ref f_people)))
    (l_people : K.lookup f_people = some ⟨oc_people, od_people, .func (PySem.W.fnOf "people" "people" (defArgs s_people) (defBody s_people) (defScope s_people) .none kV_people dc_people pm_people an_people cd_people ct_people), sl_people⟩)
    (c_people : PySem.W.codeIn K cd_people "people" = true) (k_people : PySem.W.keepIn K (.ref f_people) = true)
    (a_wants_at : PySem.W.nsIn K mainGlobals "wants_at" = some (some (.ref f_wants_at)))
    (l_wants_at : K.lookup f_wants_at = some ⟨oc_wants_at, od_wants_at, .func (PySem.W.fnOf "wants_at" "wants_at" (defArgs s_wants_at) (defBody s_wants_at) (defScope s_wants_at) .none kV_wants_at dc_wants_at pm_wants_at an_wants_at cd_wants_at ct_wants_at), sl_wants_at⟩)
    (c_wants_at : PySem.W.codeIn K cd_wants_at "wants_at" = true) (k_wants_at : PySem.W.keepIn K (.ref f_wants_at) = true)
    (a_raw_standing : PySem.W.nsIn K mainGlobals "raw_standing" = some (some (.ref f_raw_standing)))
    (l_raw_standing : K.lookup f_raw_standing = some ⟨oc_raw_standing, od_raw_standing, .func (PySem.W.fnOf "raw_standing" "raw_standing" (defArgs s_raw_standing) (defBody s_raw_standing) (defScope s_raw_standing) .none kV_raw_standing dc_raw_standing pm_raw_standing an_raw_standing cd_raw_standing ct_raw_standing), sl_raw_standing⟩)
    (c_raw_standing : PySem.W.codeIn K cd_raw_standing "raw_standing" = true) (k_raw_standing : PySem.W.keepIn K (.ref f_raw_standing) = true)
    (a_known_of : PySem.W.nsIn K mainGlobals "known_of" = some (some (.ref f_known_of)))
    (l_known_of : K.lookup f_known_of = some ⟨oc_known_of, od_known_of, .func (PySem.W.fnOf "known_of" "known_of" (defArgs s_known_of) (defBody s_known_of) (defScope s_known_of) .none kV_known_of dc_known_of pm_known_of an_known_of cd_known_of ct_known_of), sl_known_of⟩)
    (c_known_of : PySem.W.codeIn K cd_known_of "known_of" = true) (k_known_of : PySem.W.keepIn K (.ref f_known_of) = true)
    (a_is_way : PySem.W.nsIn K mainGlobals "is_way" = some (some (.ref f_is_way)))
    (l_is_way : K.lookup f_is_way = some ⟨oc_is_way, od_is_way, .func (PySem.W.fnOf "is_way" "is_way" (defArgs s_is_way) (defBody s_is_way) (defScope s_is_way) .none kV_is_way dc_is_way pm_is_way an_is_way cd_is_way ct_is_way), sl_is_way⟩)
    (c_is_way : PySem.W.codeIn K cd_is_way "is_way" = true) (k_is_way : PySem.W.keepIn K (.ref f_is_way) = true)
    (a_is_aboard : PySem.W.nsIn K mainGlobals "is_aboard" = some (some (.ref f_is_aboard)))
    (l_is_aboard : K.lookup f_is_aboard = some ⟨oc_is_aboard, od_is_aboard, .func (PySem.W.fnOf "is_aboard" "is_aboard" (defArgs s_is_aboard) (defBody s_is_aboard) (defScope s_is_aboard) .none kV_is_aboard dc_is_aboard pm_is_aboard an_is_aboard cd_is_aboard ct_is_aboard), sl_is_aboard⟩)
    (c_is_aboard : PySem.W.codeIn K cd_is_aboard "is_aboard" = true) (k_is_aboard : PySem.W.keepIn K (.ref f_is_aboard) = true)
    (a_is_built_move : PySem.W.nsIn K mainGlobals "is_built_move" = some (some (.ref f_is_built_move)))
    (l_is_built_move : K.lookup f_is_built_move = some ⟨oc_is_built_move, od_is_built_move, .func (PySem.W.fnOf "is_built_move" "is_built_move" (defArgs s_is_built_move) (defBody s_is_built_move) (defScope s_is_built_move) .none kV_is_built_move dc_is_built_move pm_is_built_move an_is_built_move cd_is_built_move ct_is_built_move), sl_is_built_move⟩)
    (c_is_built_move : PySem.W.codeIn K cd_is_built_move "is_built_move" = true) (k_is_built_move : PySem.W.keepIn K (.ref f_is_built_move) = true)
    (a_can_go : PySem.W.nsIn K mainGlobals "can_go" = some (some (.ref f_can_go)))
    (l_can_go : K.lookup f_can_go = some ⟨oc_can_go, od_can_go, .func (PySem.W.fnOf "can_go" "can_go" (defArgs s_can_go) (defBody s_can_go) (defScope s_can_go) .none kV_can_go dc_can_go pm_can_go an_can_go cd_can_go ct_can_go), sl_can_go⟩)
    (c_can_go : PySem.W.codeIn K cd_can_go "can_go" = true) (k_can_go : PySem.W.keepIn K (.ref f_can_go) = true)
    (a_is_move : PySem.W.nsIn K mainGlobals "is_move" = some (some (.ref f_is_move)))
    (l_is_move : K.lookup f_is_move = some ⟨oc_is_move, od_is_move, .func (PySem.W.fnOf "is_move" "is_move" (defArgs s_is_move) (defBody s_is_move) (defScope s_is_move) .none kV_is_move dc_is_move pm_is_move an_is_move cd_is_move ct_is_move), sl_is_move⟩)
    (c_is_move : PySem.W.codeIn K cd_is_move "is_move" = true) (k_is_move : PySem.W.keepIn K (.ref f_is_move) = true)
    (a_behind_move : PySem.W.nsIn K mainGlobals "behind_move" = some (some (.ref f_behind_move)))
    (l_behind_move : K.lookup f_behind_move = some ⟨oc_behind_move, od_behind_move, .func (PySem.W.fnOf "behind_move" "behind_move" (defArgs s_behind_move) (defBody s_behind_move) (defScope s_behind_move) .none kV_behind_move dc_behind_move pm_behind_move an_behind_move cd_behind_move ct_behind_move), sl_behind_move⟩)
    (c_behind_move : PySem.W.codeIn K cd_behind_move "behind_move" = true) (k_behind_move : PySem.W.keepIn K (.ref f_behind_move) = true)
    (a_moved : PySem.W.nsIn K mainGlobals "moved" = some (some (.ref f_moved)))
    (l_moved : K.lookup f_moved = some ⟨oc_moved, od_moved, .func (PySem.W.fnOf "moved" "moved" (defArgs s_moved) (defBody s_moved) (defScope s_moved) .none kV_moved dc_moved pm_moved an_moved cd_moved ct_moved), sl_moved⟩)
    (c_moved : PySem.W.codeIn K cd_moved "moved" = true) (k_moved : PySem.W.keepIn K (.ref f_moved) = true)
    (a__law_hand : PySem.W.nsIn K mainGlobals "_law_hand" = some (some (.ref f__law_hand)))
    (l__law_hand : K.lookup f__law_hand = some ⟨oc__law_hand, od__law_hand, .func (PySem.W.fnOf "_law_hand" "_law_hand" (defArgs s__law_hand) (defBody s__law_hand) (defScope s__law_hand) .none kV__law_hand dc__law_hand pm__law_hand an__law_hand cd__law_hand ct__law_hand), sl__law_hand⟩)
    (c__law_hand : PySem.W.codeIn K cd__law_hand "_law_hand" = true) (k__law_hand : PySem.W.keepIn K (.ref f__law_hand) = true)
    (a__law_draw : PySem.W.nsIn K mainGlobals "_law_draw" = some (some (.ref f__law_draw)))
    (l__law_draw : K.lookup f__law_draw = some ⟨oc__law_draw, od__law_draw, .func (PySem.W.fnOf "_law_draw" "_law_draw" (defArgs s__law_draw) (defBody s__law_draw) (defScope s__law_draw) .none kV__law_draw dc__law_draw pm__law_draw an__law_draw cd__law_draw ct__law_draw), sl__law_draw⟩)
    (c__law_draw : PySem.W.codeIn K cd__law_draw "_law_draw" = true) (k__law_draw : PySem.W.keepIn K (.ref f__law_draw) = true)
    (a__law_great : PySem.W.nsIn K mainGlobals "_law_great" = some (some (.ref f__law_great)))
    (l__law_great : K.lookup f__law_great = some ⟨oc__law_great, od__law_great, .func (PySem.W.fnOf "_law_great" "_law_great" (defArgs s__law_great) (defBody s__law_great) (defScope s__law_great) .none kV__law_great dc__law_great pm__law_great an__law_great cd__law_great ct__law_great), sl__law_great⟩)
    (c__law_great : PySem.W.codeIn K cd__law_great "_law_great" = true) (k__law_great : PySem.W.keepIn K (.ref f__law_great) = true)
    (a__law_groups : PySem.W.nsIn K mainGlobals "_law_groups" = some (some (.ref f__law_groups)))
    (l__law_groups : K.lookup f__law_groups = some ⟨oc__law_groups, od__law_groups, .func (PySem.W.fnOf "_law_groups" "_law_groups" (defArgs s__law_groups) (defBody s__law_groups) (defScope s__law_groups) .none kV__law_groups dc__law_groups pm__law_groups an__law_groups cd__law_groups ct__law_groups), sl__law_groups⟩)
    (c__law_groups : PySem.W.codeIn K cd__law_groups "_law_groups" = true) (k__law_groups : PySem.W.keepIn K (.ref f__law_groups) = true)
    (a__law_great_groups : PySem.W.nsIn K mainGlobals "_law_great_groups" = some (some (.ref f__law_great_groups)))
    (l__law_great_groups : K.lookup f__law_great_groups = some ⟨oc__law_great_groups, od__law_great_groups, .func (PySem.W.fnOf "_law_great_groups" "_law_great_groups" (defArgs s__law_great_groups) (defBody s__law_great_groups) (defScope s__law_great_groups) .none kV__law_great_groups dc__law_great_groups pm__law_great_groups an__law_great_groups cd__law_great_groups ct__law_great_groups), sl__law_great_groups⟩)
    (c__law_great_groups : PySem.W.codeIn K cd__law_great_groups "_law_great_groups" = true) (k__law_great_groups : PySem.W.keepIn K (.ref f__law_great_groups) = true)
    (a__law_world : PySem.W.nsIn K mainGlobals "_law_world" = some (some (.ref f__law_world)))
    (l__law_world : K.lookup f__law_world = some ⟨oc__law_world, od__law_world, .func (PySem.W.fnOf "_law_world" "_law_world" (defArgs s__law_world) (defBody s__law_world) (defScope s__law_world) .none kV__law_world dc__law_world pm__law_world an__law_world cd__law_world ct__law_world), sl__law_world⟩)
    (c__law_world : PySem.W.codeIn K cd__law_world "_law_world" = true) (k__law_world : PySem.W.keepIn K (.ref f__law_world) = true)
    (a__law_here : PySem.W.nsIn K mainGlobals "_law_here" = some (some (.ref f__law_here)))
    (l__law_here : K.lookup f__law_here = some ⟨oc__law_here, od__law_here, .func (PySem.W.fnOf "_law_here" "_law_here" (defArgs s__law_here) (defBody s__law_here) (defScope s__law_here) .none kV__law_here dc__law_here pm__law_here an__law_here cd__law_here ct__law_here), sl__law_here⟩)
    (c__law_here : PySem.W.codeIn K cd__law_here "_law_here" = true) (k__law_here : PySem.W.keepIn K (.ref f__law_here) = true)
    (a__law_made : PySem.W.nsIn K mainGlobals "_law_made" = some (some (.ref f__law_made)))
    (l__law_made : K.lookup f__law_made = some ⟨oc__law_made, od__law_made, .func (PySem.W.fnOf "_law_made" "_law_made" (defArgs s__law_made) (defBody s__law_made) (defScope s__law_made) .none kV__law_made dc__law_made pm__law_made an__law_made cd__law_made ct__law_made), sl__law_made⟩)
    (c__law_made : PySem.W.codeIn K cd__law_made "_law_made" = true) (k__law_made : PySem.W.keepIn K (.ref f__law_made) = true)
    (a__law_move : PySem.W.nsIn K mainGlobals "_law_move" = some (some (.ref f__law_move)))
    (l__law_move : K.lookup f__law_move = some ⟨oc__law_move, od__law_move, .func (PySem.W.fnOf "_law_move" "_law_move" (defArgs s__law_move) (defBody s__law_move) (defScope s__law_move) .none kV__law_move dc__law_move pm__law_move an__law_move cd__law_move ct__law_move), sl__law_move⟩)
    (c__law_move : PySem.W.codeIn K cd__law_move "_law_move" = true) (k__law_move : PySem.W.keepIn K (.ref f__law_move) = true)
    (a__law_is_told : PySem.W.nsIn K mainGlobals "_law_is_told" = some (some (.ref f__law_is_told)))
    (l__law_is_told : K.lookup f__law_is_told = some ⟨oc__law_is_told, od__law_is_told, .func (PySem.W.fnOf "_law_is_told" "_law_is_told" (defArgs s__law_is_told) (defBody s__law_is_told) (defScope s__law_is_told) .none kV__law_is_told dc__law_is_told pm__law_is_told an__law_is_told cd__law_is_told ct__law_is_told), sl__law_is_told⟩)
    (c__law_is_told : PySem.W.codeIn K cd__law_is_told "_law_is_told" = true) (k__law_is_told : PySem.W.keepIn K (.ref f__law_is_told) = true)
    (a_law : PySem.W.nsIn K mainGlobals "law" = some (some (.ref f_law)))
    (l_law : K.lookup f_law = some ⟨oc_law, od_law, .func (PySem.W.fnOf "law" "law" (defArgs s_law) (defBody s_law) (defScope s_law) .none kV_law dc_law pm_law an_law cd_law ct_law), sl_law⟩)
    (c_law : PySem.W.codeIn K cd_law "law" = true) (k_law : PySem.W.keepIn K (.ref f_law) = true)
    (a_House_i : PySem.W.nsIn K mainGlobals "House" = some (some (.ref CH)))
    (i_House_i : PySem.W.findIn K (.ref CH) "__init__" = some (some (.ref f_House_i))) (n_House_i : PySem.W.isFn K (.ref f_House_i) = true)
    (l_House_i : K.lookup f_House_i = some ⟨oc_House_i, od_House_i, .func (PySem.W.fnOf "__init__" "House.__init__" (defArgs s_House___init__) (defBody s_House___init__) (defScope s_House___init__) .none kV_House_i dc_House_i pm_House_i an_House_i cd_House_i ct_House_i), sl_House_i⟩)
    (c_House_i : PySem.W.codeIn K cd_House_i "House.__init__" = true) (k_House_i : PySem.W.keepIn K (.ref f_House_i) = true) (m_House_i : PySem.W.makesIn K CH = true) (kc_House_i : PySem.W.keepIn K (.ref CH) = true)
    (pg_House_i : PySem.W.plainGet K CH Str.empty = true) (hd_House_i : PySem.W.hasDictIn K CH = true) (po_House_i : PySem.W.plainOver K CH = true) (sa_House_i : PySem.W.findIn K (.ref CH) "__setattr__" = some (some (.builtin "object.__setattr__")))
    (ha_House_i : PySem.W.findIn K (.ref CH) "__class__" = some (some (.builtin "object.__class__"))) (hm_House_i : PySem.W.mroIn K CH (.type "object") = some true) (me_House_i : PySem.W.kitOne K (.ref CH) (.ref CH) = some true)
    (na_H_floors : PySem.W.findIn K (.ref CH) "floors" = some none)
    (na_H_room : PySem.W.findIn K (.ref CH) "room" = some none)
    (a_Standing_i : PySem.W.nsIn K mainGlobals "Standing" = some (some (.ref CS)))
    (i_Standing_i : PySem.W.findIn K (.ref CS) "__init__" = some (some (.ref f_Standing_i))) (n_Standing_i : PySem.W.isFn K (.ref f_Standing_i) = true)
    (l_Standing_i : K.lookup f_Standing_i = some ⟨oc_Standing_i, od_Standing_i, .func (PySem.W.fnOf "__init__" "Standing.__init__" (defArgs s_Standing___init__) (defBody s_Standing___init__) (defScope s_Standing___init__) .none kV_Standing_i dc_Standing_i pm_Standing_i an_Standing_i cd_Standing_i ct_Standing_i), sl_Standing_i⟩)
    (c_Standing_i : PySem.W.codeIn K cd_Standing_i "Standing.__init__" = true) (k_Standing_i : PySem.W.keepIn K (.ref f_Standing_i) = true) (m_Standing_i : PySem.W.makesIn K CS = true) (kc_Standing_i : PySem.W.keepIn K (.ref CS) = true)
    (pg_Standing_i : PySem.W.plainGet K CS Str.empty = true) (hd_Standing_i : PySem.W.hasDictIn K CS = true) (po_Standing_i : PySem.W.plainOver K CS = true) (sa_Standing_i : PySem.W.findIn K (.ref CS) "__setattr__" = some (some (.builtin "object.__setattr__")))
    (ha_Standing_i : PySem.W.findIn K (.ref CS) "__class__" = some (some (.builtin "object.__class__"))) (hm_Standing_i : PySem.W.mroIn K CS (.type "object") = some true) (me_Standing_i : PySem.W.kitOne K (.ref CS) (.ref CS) = some true)
    (na_S_house : PySem.W.findIn K (.ref CS) "house" = some none)
    (na_S_lift : PySem.W.findIn K (.ref CS) "lift" = some none)
    (na_S_groups : PySem.W.findIn K (.ref CS) "groups" = some none)
    (a_RawStanding_i : PySem.W.nsIn K mainGlobals "RawStanding" = some (some (.ref CR)))
    (i_RawStanding_i : PySem.W.findIn K (.ref CR) "__init__" = some (some (.ref f_RawStanding_i))) (n_RawStanding_i : PySem.W.isFn K (.ref f_RawStanding_i) = true)
    (l_RawStanding_i : K.lookup f_RawStanding_i = some ⟨oc_RawStanding_i, od_RawStanding_i, .func (PySem.W.fnOf "__init__" "RawStanding.__init__" (defArgs s_RawStanding___init__) (defBody s_RawStanding___init__) (defScope s_RawStanding___init__) .none kV_RawStanding_i dc_RawStanding_i pm_RawStanding_i an_RawStanding_i cd_RawStanding_i ct_RawStanding_i), sl_RawStanding_i⟩)
    (c_RawStanding_i : PySem.W.codeIn K cd_RawStanding_i "RawStanding.__init__" = true) (k_RawStanding_i : PySem.W.keepIn K (.ref f_RawStanding_i) = true) (m_RawStanding_i : PySem.W.makesIn K CR = true) (kc_RawStanding_i : PySem.W.keepIn K (.ref CR) = true)
    (pg_RawStanding_i : PySem.W.plainGet K CR Str.empty = true) (hd_RawStanding_i : PySem.W.hasDictIn K CR = true) (po_RawStanding_i : PySem.W.plainOver K CR = true) (sa_RawStanding_i : PySem.W.findIn K (.ref CR) "__setattr__" = some (some (.builtin "object.__setattr__")))
    (ha_RawStanding_i : PySem.W.findIn K (.ref CR) "__class__" = some (some (.builtin "object.__class__"))) (hm_RawStanding_i : PySem.W.mroIn K CR (.type "object") = some true) (me_RawStanding_i : PySem.W.kitOne K (.ref CR) (.ref CR) = some true)
    (na_R_house : PySem.W.findIn K (.ref CR) "house" = some none)
    (na_R_lift : PySem.W.findIn K (.ref CR) "lift" = some none)
    (na_R_groups : PySem.W.findIn K (.ref CR) "groups" = some none)
    (i_HE : PySem.W.findIn K (.ref CH) "__eq__" = some (some (.ref f_HE))) (n_HE : PySem.W.isFn K (.ref f_HE) = true)
    (l_HE : K.lookup f_HE = some ⟨oc_HE, od_HE, .func (PySem.W.fnOf "__eq__" "House.__eq__" (defArgs s_House___eq__) (defBody s_House___eq__) (defScope s_House___eq__) .none kV_HE dc_HE pm_HE an_HE cd_HE ct_HE), sl_HE⟩)
    (c_HE : PySem.W.codeIn K cd_HE "House.__eq__" = true) (k_HE : PySem.W.keepIn K (.ref f_HE) = true) (e_HE : PySem.W.findIn K (.ref CH) "__ne__" = some (some (.builtin "object.__ne__"))) (b_HE : PySem.W.subIn K (.ref CH) (.type "object") = some true)
    (i_RE : PySem.W.findIn K (.ref CR) "__eq__" = some (some (.ref f_RE))) (n_RE : PySem.W.isFn K (.ref f_RE) = true)
    (l_RE : K.lookup f_RE = some ⟨oc_RE, od_RE, .func (PySem.W.fnOf "__eq__" "Standing.__eq__" (defArgs s_Standing___eq__) (defBody s_Standing___eq__) (defScope s_Standing___eq__) .none kV_RE dc_RE pm_RE an_RE cd_RE ct_RE), sl_RE⟩)
    (c_RE : PySem.W.codeIn K cd_RE "Standing.__eq__" = true) (k_RE : PySem.W.keepIn K (.ref f_RE) = true) (e_RE : PySem.W.findIn K (.ref CR) "__ne__" = some (some (.builtin "object.__ne__"))) (b_RE : PySem.W.subIn K (.ref CR) (.type "object") = some true)
    (kRS : PySem.W.kitOne K (.ref CR) (.ref CS) = some true)
    (hn : PySem.W.specialIn K (.builtin "object.__class__") "__get__" = some (some (.builtin "getset_descriptor.__get__"))) (htk : PySem.W.takesIn K (.builtin "object.__class__") = some true)
    (q_MOST_FLOORS : PySem.W.nsIn K mainGlobals "MOST_FLOORS" = some (some (.int 40 t_MOST_FLOORS)))
    (q_MOST_ROOM : PySem.W.nsIn K mainGlobals "MOST_ROOM" = some (some (.int (10 ^ 12) t_MOST_ROOM)))
    (q_MOST_GROUPS : PySem.W.nsIn K mainGlobals "MOST_GROUPS" = some (some (.int 400 t_MOST_GROUPS)))
    (q_MOST_PEOPLE : PySem.W.nsIn K mainGlobals "MOST_PEOPLE" = some (some (.int (10 ^ 30) t_MOST_PEOPLE)))
    (q_UP : PySem.W.nsIn K mainGlobals "UP" = some (some (.int 1 t_UP)))
    (q_DOWN : PySem.W.nsIn K mainGlobals "DOWN" = some (some (.int (-1) t_DOWN)))
    (z_len : PySem.W.nsIn K mainGlobals "len" = some none)
    (z_sum : PySem.W.nsIn K mainGlobals "sum" = some none)
    (z_all : PySem.W.nsIn K mainGlobals "all" = some none)
    (z_any : PySem.W.nsIn K mainGlobals "any" = some none)
    (z_max : PySem.W.nsIn K mainGlobals "max" = some none)
    (z_min : PySem.W.nsIn K mainGlobals "min" = some none)
    (z_abs : PySem.W.nsIn K mainGlobals "abs" = some none)
    (z_int : PySem.W.nsIn K mainGlobals "int" = some none)
    (z_bool : PySem.W.nsIn K mainGlobals "bool" = some none)
    (z_tuple : PySem.W.nsIn K mainGlobals "tuple" = some none)
    (z_list : PySem.W.nsIn K mainGlobals "list" = some none)
    (z_dict : PySem.W.nsIn K mainGlobals "dict" = some none)
    (z_str : PySem.W.nsIn K mainGlobals "str" = some none)
    (z_isinstance : PySem.W.nsIn K mainGlobals "isinstance" = some none)
    (z_sorted : PySem.W.nsIn K mainGlobals "sorted" = some none)
    (z_range : PySem.W.nsIn K mainGlobals "range" = some none)
    (z_zip : PySem.W.nsIn K mainGlobals "zip" = some none)
    (z_enumerate : PySem.W.nsIn K mainGlobals "enumerate" = some none)
    : ∃ fd : FuncData, (∀ (s : Shared) (v : Value), BindsTo s fd ⟨[v], []⟩ [("_law_script", v)]) ∧ ∀ base : Heap, K.In base → base.Ns mainGlobals mg → FnOk l.prog w K mg base CX0 10 fa fd ["_law_script"] (spLaw K) := by
  have e := hfa.symm.trans (PySem.W.mg_of X G a_law)
  cases e
  have B : Bi mg := ⟨PySem.W.mg_none_of X G z_len, PySem.W.mg_none_of X G z_sum, PySem.W.mg_none_of X G z_all, PySem.W.mg_none_of X G z_any, PySem.W.mg_none_of X G z_max, PySem.W.mg_none_of X G z_min, PySem.W.mg_none_of X G z_abs, PySem.W.mg_none_of X G z_int, PySem.W.mg_none_of X G z_bool, PySem.W.mg_none_of X G z_tuple, PySem.W.mg_none_of X G z_list, PySem.W.mg_none_of X G z_dict, PySem.W.mg_none_of X G z_str, PySem.W.mg_none_of X G z_isinstance, PySem.W.mg_none_of X G z_sorted, PySem.W.mg_none_of X G z_range, PySem.W.mg_none_of X G z_zip, PySem.W.mg_none_of X G z_enumerate⟩
  have R_is_integer : Raw K mg "is_integer" s_is_integer := raw_mk X G a_is_integer l_is_integer c_is_integer k_is_integer
  have R_is_within : Raw K mg "is_within" s_is_within := raw_mk X G a_is_within l_is_within c_is_within k_is_within
  have R_is_floor : Raw K mg "is_floor" s_is_floor := raw_mk X G a_is_floor l_is_floor c_is_floor k_is_floor
  have R_is_group : Raw K mg "is_group" s_is_group := raw_mk X G a_is_group l_is_group c_is_group k_is_group
  have R_is_groups : Raw K mg "is_groups" s_is_groups := raw_mk X G a_is_groups l_is_groups c_is_groups k_is_groups
  have R_people : Raw K mg "people" s_people := raw_mk X G a_people l_people c_people k_people
  have R_wants_at : Raw K mg "wants_at" s_wants_at := raw_mk X G a_wants_at l_wants_at c_wants_at k_wants_at
  have R_raw_standing : Raw K mg "raw_standing" s_raw_standing := raw_mk X G a_raw_standing l_raw_standing c_raw_standing k_raw_standing
  have R_known_of : Raw K mg "known_of" s_known_of := raw_mk X G a_known_of l_known_of c_known_of k_known_of
  have R_is_way : Raw K mg "is_way" s_is_way := raw_mk X G a_is_way l_is_way c_is_way k_is_way
  have R_is_aboard : Raw K mg "is_aboard" s_is_aboard := raw_mk X G a_is_aboard l_is_aboard c_is_aboard k_is_aboard
  have R_is_built_move : Raw K mg "is_built_move" s_is_built_move := raw_mk X G a_is_built_move l_is_built_move c_is_built_move k_is_built_move
  have R_can_go : Raw K mg "can_go" s_can_go := raw_mk X G a_can_go l_can_go c_can_go k_can_go
  have R_is_move : Raw K mg "is_move" s_is_move := raw_mk X G a_is_move l_is_move c_is_move k_is_move
  have R_behind_move : Raw K mg "behind_move" s_behind_move := raw_mk X G a_behind_move l_behind_move c_behind_move k_behind_move
  have R_moved : Raw K mg "moved" s_moved := raw_mk X G a_moved l_moved c_moved k_moved
  have R__law_hand : Raw K mg "_law_hand" s__law_hand := raw_mk X G a__law_hand l__law_hand c__law_hand k__law_hand
  have R__law_draw : Raw K mg "_law_draw" s__law_draw := raw_mk X G a__law_draw l__law_draw c__law_draw k__law_draw
  have R__law_great : Raw K mg "_law_great" s__law_great := raw_mk X G a__law_great l__law_great c__law_great k__law_great
  have R__law_groups : Raw K mg "_law_groups" s__law_groups := raw_mk X G a__law_groups l__law_groups c__law_groups k__law_groups
  have R__law_great_groups : Raw K mg "_law_great_groups" s__law_great_groups := raw_mk X G a__law_great_groups l__law_great_groups c__law_great_groups k__law_great_groups
  have R__law_world : Raw K mg "_law_world" s__law_world := raw_mk X G a__law_world l__law_world c__law_world k__law_world
  have R__law_here : Raw K mg "_law_here" s__law_here := raw_mk X G a__law_here l__law_here c__law_here k__law_here
  have R__law_made : Raw K mg "_law_made" s__law_made := raw_mk X G a__law_made l__law_made c__law_made k__law_made
  have R__law_move : Raw K mg "_law_move" s__law_move := raw_mk X G a__law_move l__law_move c__law_move k__law_move
  have R__law_is_told : Raw K mg "_law_is_told" s__law_is_told := raw_mk X G a__law_is_told l__law_is_told c__law_is_told k__law_is_told
  have R_law : Raw K mg "law" s_law := raw_mk X G a_law l_law c_law k_law
  have R_House___init__ : RawC K mg "House" "House.__init__" s_House___init__ CH := rawC_mk X G a_House_i i_House_i n_House_i l_House_i c_House_i k_House_i m_House_i kc_House_i
  have i_CH : C8.InsC K CH := ⟨⟨pg_House_i, hd_House_i, po_House_i, sa_House_i⟩, ha_House_i, hn, htk, hm_House_i, me_House_i⟩
  have g_House : mg "House" = some (.ref CH) := PySem.W.mg_of X G a_House_i
  have R_Standing___init__ : RawC K mg "Standing" "Standing.__init__" s_Standing___init__ CS := rawC_mk X G a_Standing_i i_Standing_i n_Standing_i l_Standing_i c_Standing_i k_Standing_i m_Standing_i kc_Standing_i
  have i_CS : C8.InsC K CS := ⟨⟨pg_Standing_i, hd_Standing_i, po_Standing_i, sa_Standing_i⟩, ha_Standing_i, hn, htk, hm_Standing_i, me_Standing_i⟩
  have g_Standing : mg "Standing" = some (.ref CS) := PySem.W.mg_of X G a_Standing_i
  have R_RawStanding___init__ : RawC K mg "RawStanding" "RawStanding.__init__" s_RawStanding___init__ CR := rawC_mk X G a_RawStanding_i i_RawStanding_i n_RawStanding_i l_RawStanding_i c_RawStanding_i k_RawStanding_i m_RawStanding_i kc_RawStanding_i
  have i_CR : C8.InsC K CR := ⟨⟨pg_RawStanding_i, hd_RawStanding_i, po_RawStanding_i, sa_RawStanding_i⟩, ha_RawStanding_i, hn, htk, hm_RawStanding_i, me_RawStanding_i⟩
  have g_RawStanding : mg "RawStanding" = some (.ref CR) := PySem.W.mg_of X G a_RawStanding_i
  have RE_HE : MyO.RawE K "House.__eq__" s_House___eq__ CH := MyO.rawE_mk i_HE n_HE l_HE c_HE k_HE e_HE b_HE
  have RE_RE : MyO.RawE K "Standing.__eq__" s_Standing___eq__ CR := MyO.rawE_mk i_RE n_RE l_RE c_RE k_RE e_RE b_RE
  have c_MOST_FLOORS := PySem.W.mg_of X G q_MOST_FLOORS
  have c_MOST_ROOM := PySem.W.mg_of X G q_MOST_ROOM
  have c_MOST_GROUPS := PySem.W.mg_of X G q_MOST_GROUPS
  have c_MOST_PEOPLE := PySem.W.mg_of X G q_MOST_PEOPLE
  have c_UP := PySem.W.mg_of X G q_UP
  have c_DOWN := PySem.W.mg_of X G q_DOWN
  have F := fun_mk (st := s_law) l_law c_law k_law
  refine ⟨PySem.W.fnOf "law" "law" (defArgs s_law) (defBody s_law) (defScope s_law) .none kV_law dc_law pm_law an_law cd_law ct_law, fun s v => .of_eq rfl, fun base _ _ => ?_⟩

  have T : Txt K mg CH CS CR := ⟨i_CH, i_CS, i_CR, na_H_floors, na_H_room, na_S_house, na_S_lift, na_S_groups, na_R_house, na_R_lift, na_R_groups⟩
  have d1 := D_is_integer (P := l.prog) (w := w) (base := base) B R_is_integer
  have d2 := D_is_within B R_is_within d1
  have m1 := D_House B T c_MOST_FLOORS c_MOST_ROOM R_House___init__ d2
  have d3 := D_is_floor (CH := CH) B R_is_floor d2
  have d4 := D_is_group B R_is_group d1 d3
  have d5 := D_is_groups B c_MOST_GROUPS c_MOST_PEOPLE R_is_groups d4
  have m2 := D_Standing B T g_House R_Standing___init__ d3 d5
  have m3 := D_RawStanding (P := l.prog) (w := w) (base := base) B T R_RawStanding___init__
  have p2 := D_people (P := l.prog) (w := w) (base := base) (CH := CH) B R_people
  have p3 := D_wants_at (P := l.prog) (w := w) (base := base) (CH := CH) B R_wants_at
  have d7 := D_raw_standing B R_raw_standing m3
  have d8 := D_known_of (P := l.prog) (w := w) (base := base) (CH := CH) B R_known_of
  have q1 := D_is_way B c_UP c_DOWN R_is_way d1
  have q2 := D_is_aboard B R_is_aboard d1
  have q3 := D_is_built_move B R_is_built_move q1 q2
  have q4 := D_can_go B R_can_go d3
  have q5 := D_is_move B R_is_move q3 q4 p3
  have q6 := D_behind_move B R_behind_move d8 d7
  have q7 := D_moved B R_moved q5 q6
  have e1 := E_House (P := l.prog) (w := w) (base := base) B T g_House RE_HE
  have e2 := E_Standing B g_Standing RE_RE e1
  have w1 := D__law_hand (P := l.prog) (w := w) (base := base) B R__law_hand
  have w2 := D__law_draw (P := l.prog) (w := w) (K := K) (base := base) B R__law_draw
  have w3 := D__law_great B R__law_great w2
  have w4 := D__law_groups B R__law_groups w2
  have w5 := D__law_great_groups B R__law_great_groups w2 w3
  have w6 := D__law_world B R__law_world w2 w3 w4 w5
  have w7 := D__law_here (P := l.prog) (w := w) (K := K) (base := base) B R__law_here
  have w8 := D__law_made (P := l.prog) (w := w) (K := K) (base := base) B R__law_made
  have w9 := D__law_move B R__law_move w2 w7
  have w10 := D__law_is_told B g_Standing R__law_is_told e1
  exact D_law F B T kRS w1 w2 w6 m1 m2 p2 w9 w8 q7 w10 e2
theorem walk {l : PySem.W.OpenLaw} {q : Program} {loose : List Str} {XP : (Str → Option Value) → Heap → Prop} {YP : World → Heap → Prop} {d : DefRec} {K : Params → PySem.W.Frag} (hn : l.most = some 63) (hdf : d.params.defaults = [])
    (hY : ∀ (w : World) (h : Heap), YP w h → (K w.params).In h)
    (F : ∀ (w : World) (mg : Str → Option Value) (fa : Addr) (h : Heap), (K w.params).In h → h.Ns mainGlobals mg → mg d.name = some (.ref fa) →
      ∃ fd : FuncData, (∀ (s : Shared) (u : Value), BindsTo s fd ⟨[u], []⟩ [("_law_script", u)]) ∧ ∀ base : Heap, (K w.params).In base → base.Ns mainGlobals mg → FnOk l.prog w (K w.params) mg base CX0 10 fa fd ["_law_script"] (spLaw (K w.params))) :
    PySem.W.WalkO q loose XP YP l.row.toRowW d [] (fun f vs => PySem.call f vs) :=
  L2.walk_of (n := 63) (k := 10) (x := "_law_script") (CX := fun _ => CX0) (sp := fun w => spLaw (K w.params)) hn (by decide) hdf ⟨rfl, by decide, by decide⟩ hY F (fun _ _ a ns hl _ hS => ⟨a, ns, rfl, hS, hl, fun _ => rfl⟩) fun _ _ _ _ _ z => z
end Law
open PySem PySem.W PyProof.Rows
set_option maxRecDepth 100000 in
set_option maxHeartbeats 0 in
theorem PySem.Challenge.cw_willinglift_k08_whole_standings_behind_m_holds : PySem.Challenge.rw_willinglift_k08_whole_standings_behind_m.Holds := by
  w_on; o_law; k_head; (case hw => w_witness2)
  k_fill
  refine Law.walk (l := PySem.Challenge.rw_willinglift_k08_whole_standings_behind_m) rfl rfl (fun w h Y => PySem.W.kIn_of Y) ?F
  case F =>
    intro w mg fa h KX G hmg
    refine' Law.all_mk KX G hmg ?a_is_integer ?l_is_integer ?c_is_integer ?k_is_integer ?a_is_within ?l_is_within ?c_is_within ?k_is_within ?a_is_floor ?l_is_floor ?c_is_floor ?k_is_floor ?a_is_group ?l_is_group ?c_is_group ?k_is_group ?a_is_groups ?l_is_groups ?c_is_groups ?k_is_groups ?a_people ?l_people ?c_people ?k_people ?a_wants_at ?l_wants_at ?c_wants_at ?k_wants_at ?a_raw_standing ?l_raw_standing ?c_raw_standing ?k_raw_standing ?a_known_of ?l_known_of ?c_known_of ?k_known_of ?a_is_way ?l_is_way ?c_is_way ?k_is_way ?a_is_aboard ?l_is_aboard ?c_is_aboard ?k_is_aboard ?a_is_built_move ?l_is_built_move ?c_is_built_move ?k_is_built_move ?a_can_go ?l_can_go ?c_can_go ?k_can_go ?a_is_move ?l_is_move ?c_is_move ?k_is_move ?a_behind_move ?l_behind_move ?c_behind_move ?k_behind_move ?a_moved ?l_moved ?c_moved ?k_moved ?a__law_hand ?l__law_hand ?c__law_hand ?k__law_hand ?a__law_draw ?l__law_draw ?c__law_draw ?k__law_draw ?a__law_great ?l__law_great ?c__law_great ?k__law_great ?a__law_groups ?l__law_groups ?c__law_groups ?k__law_groups ?a__law_great_groups ?l__law_great_groups ?c__law_great_groups ?k__law_great_groups ?a__law_world ?l__law_world ?c__law_world ?k__law_world ?a__law_here ?l__law_here ?c__law_here ?k__law_here ?a__law_made ?l__law_made ?c__law_made ?k__law_made ?a__law_move ?l__law_move ?c__law_move ?k__law_move ?a__law_is_told ?l__law_is_told ?c__law_is_told ?k__law_is_told ?a_law ?l_law ?c_law ?k_law ?a_House_i ?i_House_i ?n_House_i ?l_House_i ?c_House_i ?k_House_i ?m_House_i ?kc_House_i ?pg_House_i ?hd_House_i ?po_House_i ?sa_House_i ?ha_House_i ?hm_House_i ?me_House_i ?na_H_floors ?na_H_room ?a_Standing_i ?i_Standing_i ?n_Standing_i ?l_Standing_i ?c_Standing_i ?k_Standing_i ?m_Standing_i ?kc_Standing_i ?pg_Standing_i ?hd_Standing_i ?po_Standing_i ?sa_Standing_i ?ha_Standing_i ?hm_Standing_i ?me_Standing_i ?na_S_house ?na_S_lift ?na_S_groups ?a_RawStanding_i ?i_RawStanding_i ?n_RawStanding_i ?l_RawStanding_i ?c_RawStanding_i ?k_RawStanding_i ?m_RawStanding_i ?kc_RawStanding_i ?pg_RawStanding_i ?hd_RawStanding_i ?po_RawStanding_i ?sa_RawStanding_i ?ha_RawStanding_i ?hm_RawStanding_i ?me_RawStanding_i ?na_R_house ?na_R_lift ?na_R_groups ?i_HE ?n_HE ?l_HE ?c_HE ?k_HE ?e_HE ?b_HE ?i_RE ?n_RE ?l_RE ?c_RE ?k_RE ?e_RE ?b_RE ?kRS ?hn ?htk ?q_MOST_FLOORS ?q_MOST_ROOM ?q_MOST_GROUPS ?q_MOST_PEOPLE ?q_UP ?q_DOWN ?z_len ?z_sum ?z_all ?z_any ?z_max ?z_min ?z_abs ?z_int ?z_bool ?z_tuple ?z_list ?z_dict ?z_str ?z_isinstance ?z_sorted ?z_range ?z_zip ?z_enumerate
    (case a_is_integer => first | k_is | rfl | decide)
    (case l_is_integer => first | k_is | rfl | decide)
    (case c_is_integer => first | k_is | rfl | decide)
    (case k_is_integer => first | k_is | rfl | decide)
    (case a_is_within => first | k_is | rfl | decide)
    (case l_is_within => first | k_is | rfl | decide)
    (case c_is_within => first | k_is | rfl | decide)
    (case k_is_within => first | k_is | rfl | decide)
    (case a_is_floor => first | k_is | rfl | decide)
    (case l_is_floor => first | k_is | rfl | decide)
    (case c_is_floor => first | k_is | rfl | decide)
    (case k_is_floor => first | k_is | rfl | decide)
    (case a_is_group => first | k_is | rfl | decide)
    (case l_is_group => first | k_is | rfl | decide)
    (case c_is_group => first | k_is | rfl | decide)
    (case k_is_group => first | k_is | rfl | decide)
    (case a_is_groups => first | k_is | rfl | decide)
    (case l_is_groups => first | k_is | rfl | decide)
    (case c_is_groups => first | k_is | rfl | decide)
    (case k_is_groups => first | k_is | rfl | decide)
    (case a_people => first | k_is | rfl | decide)
    (case l_people => first | k_is | rfl | decide)
    (case c_people => first | k_is | rfl | decide)
    (case k_people => first | k_is | rfl | decide)
    (case a_wants_at => first | k_is | rfl | decide)
    (case l_wants_at => first | k_is | rfl | decide)
    (case c_wants_at => first | k_is | rfl | decide)
    (case k_wants_at => first | k_is | rfl | decide)
    (case a_raw_standing => first | k_is | rfl | decide)
    (case l_raw_standing => first | k_is | rfl | decide)
    (case c_raw_standing => first | k_is | rfl | decide)
    (case k_raw_standing => first | k_is | rfl | decide)
    (case a_known_of => first | k_is | rfl | decide)
    (case l_known_of => first | k_is | rfl | decide)
    (case c_known_of => first | k_is | rfl | decide)
    (case k_known_of => first | k_is | rfl | decide)
    (case a_is_way => first | k_is | rfl | decide)
    (case l_is_way => first | k_is | rfl | decide)
    (case c_is_way => first | k_is | rfl | decide)
    (case k_is_way => first | k_is | rfl | decide)
    (case a_is_aboard => first | k_is | rfl | decide)
    (case l_is_aboard => first | k_is | rfl | decide)
    (case c_is_aboard => first | k_is | rfl | decide)
    (case k_is_aboard => first | k_is | rfl | decide)
    (case a_is_built_move => first | k_is | rfl | decide)
    (case l_is_built_move => first | k_is | rfl | decide)
    (case c_is_built_move => first | k_is | rfl | decide)
    (case k_is_built_move => first | k_is | rfl | decide)
    (case a_can_go => first | k_is | rfl | decide)
    (case l_can_go => first | k_is | rfl | decide)
    (case c_can_go => first | k_is | rfl | decide)
    (case k_can_go => first | k_is | rfl | decide)
    (case a_is_move => first | k_is | rfl | decide)
    (case l_is_move => first | k_is | rfl | decide)
    (case c_is_move => first | k_is | rfl | decide)
    (case k_is_move => first | k_is | rfl | decide)
    (case a_behind_move => first | k_is | rfl | decide)
    (case l_behind_move => first | k_is | rfl | decide)
    (case c_behind_move => first | k_is | rfl | decide)
    (case k_behind_move => first | k_is | rfl | decide)
    (case a_moved => first | k_is | rfl | decide)
    (case l_moved => first | k_is | rfl | decide)
    (case c_moved => first | k_is | rfl | decide)
    (case k_moved => first | k_is | rfl | decide)
    (case a__law_hand => first | k_is | rfl | decide)
    (case l__law_hand => first | k_is | rfl | decide)
    (case c__law_hand => first | k_is | rfl | decide)
    (case k__law_hand => first | k_is | rfl | decide)
    (case a__law_draw => first | k_is | rfl | decide)
    (case l__law_draw => first | k_is | rfl | decide)
    (case c__law_draw => first | k_is | rfl | decide)
    (case k__law_draw => first | k_is | rfl | decide)
    (case a__law_great => first | k_is | rfl | decide)
    (case l__law_great => first | k_is | rfl | decide)
    (case c__law_great => first | k_is | rfl | decide)
    (case k__law_great => first | k_is | rfl | decide)
    (case a__law_groups => first | k_is | rfl | decide)
    (case l__law_groups => first | k_is | rfl | decide)
    (case c__law_groups => first | k_is | rfl | decide)
    (case k__law_groups => first | k_is | rfl | decide)
    (case a__law_great_groups => first | k_is | rfl | decide)
    (case l__law_great_groups => first | k_is | rfl | decide)
    (case c__law_great_groups => first | k_is | rfl | decide)
    (case k__law_great_groups => first | k_is | rfl | decide)
    (case a__law_world => first | k_is | rfl | decide)
    (case l__law_world => first | k_is | rfl | decide)
    (case c__law_world => first | k_is | rfl | decide)
    (case k__law_world => first | k_is | rfl | decide)
    (case a__law_here => first | k_is | rfl | decide)
    (case l__law_here => first | k_is | rfl | decide)
    (case c__law_here => first | k_is | rfl | decide)
    (case k__law_here => first | k_is | rfl | decide)
    (case a__law_made => first | k_is | rfl | decide)
    (case l__law_made => first | k_is | rfl | decide)
    (case c__law_made => first | k_is | rfl | decide)
    (case k__law_made => first | k_is | rfl | decide)
    (case a__law_move => first | k_is | rfl | decide)
    (case l__law_move => first | k_is | rfl | decide)
    (case c__law_move => first | k_is | rfl | decide)
    (case k__law_move => first | k_is | rfl | decide)
    (case a__law_is_told => first | k_is | rfl | decide)
    (case l__law_is_told => first | k_is | rfl | decide)
    (case c__law_is_told => first | k_is | rfl | decide)
    (case k__law_is_told => first | k_is | rfl | decide)
    (case a_law => first | k_is | rfl | decide)
    (case l_law => first | k_is | rfl | decide)
    (case c_law => first | k_is | rfl | decide)
    (case k_law => first | k_is | rfl | decide)
    (case a_House_i => first | k_is | rfl | decide)
    (case i_House_i => first | k_is | rfl | decide)
    (case n_House_i => first | k_is | rfl | decide)
    (case l_House_i => first | k_is | rfl | decide)
    (case c_House_i => first | k_is | rfl | decide)
    (case k_House_i => first | k_is | rfl | decide)
    (case m_House_i => first | k_is | rfl | decide)
    (case kc_House_i => first | k_is | rfl | decide)
    (case pg_House_i => first | k_is | rfl | decide)
    (case hd_House_i => first | k_is | rfl | decide)
    (case po_House_i => first | k_is | rfl | decide)
    (case sa_House_i => first | k_is | rfl | decide)
    (case ha_House_i => first | k_is | rfl | decide)
    (case hm_House_i => first | k_is | rfl | decide)
    (case me_House_i => first | k_is | rfl | decide)
    (case na_H_floors => first | k_is | rfl | decide)
    (case na_H_room => first | k_is | rfl | decide)
    (case a_Standing_i => first | k_is | rfl | decide)
    (case i_Standing_i => first | k_is | rfl | decide)
    (case n_Standing_i => first | k_is | rfl | decide)
    (case l_Standing_i => first | k_is | rfl | decide)
    (case c_Standing_i => first | k_is | rfl | decide)
    (case k_Standing_i => first | k_is | rfl | decide)
    (case m_Standing_i => first | k_is | rfl | decide)
    (case kc_Standing_i => first | k_is | rfl | decide)
    (case pg_Standing_i => first | k_is | rfl | decide)
    (case hd_Standing_i => first | k_is | rfl | decide)
    (case po_Standing_i => first | k_is | rfl | decide)
    (case sa_Standing_i => first | k_is | rfl | decide)
    (case ha_Standing_i => first | k_is | rfl | decide)
    (case hm_Standing_i => first | k_is | rfl | decide)
    (case me_Standing_i => first | k_is | rfl | decide)
    (case na_S_house => first | k_is | rfl | decide)
    (case na_S_lift => first | k_is | rfl | decide)
    (case na_S_groups => first | k_is | rfl | decide)
    (case a_RawStanding_i => first | k_is | rfl | decide)
    (case i_RawStanding_i => first | k_is | rfl | decide)
    (case n_RawStanding_i => first | k_is | rfl | decide)
    (case l_RawStanding_i => first | k_is | rfl | decide)
    (case c_RawStanding_i => first | k_is | rfl | decide)
    (case k_RawStanding_i => first | k_is | rfl | decide)
    (case m_RawStanding_i => first | k_is | rfl | decide)
    (case kc_RawStanding_i => first | k_is | rfl | decide)
    (case pg_RawStanding_i => first | k_is | rfl | decide)
    (case hd_RawStanding_i => first | k_is | rfl | decide)
    (case po_RawStanding_i => first | k_is | rfl | decide)
    (case sa_RawStanding_i => first | k_is | rfl | decide)
    (case ha_RawStanding_i => first | k_is | rfl | decide)
    (case hm_RawStanding_i => first | k_is | rfl | decide)
    (case me_RawStanding_i => first | k_is | rfl | decide)
    (case na_R_house => first | k_is | rfl | decide)
    (case na_R_lift => first | k_is | rfl | decide)
    (case na_R_groups => first | k_is | rfl | decide)
    (case i_HE => first | k_is | rfl | decide)
    (case n_HE => first | k_is | rfl | decide)
    (case l_HE => first | k_is | rfl | decide)
    (case c_HE => first | k_is | rfl | decide)
    (case k_HE => first | k_is | rfl | decide)
    (case e_HE => first | k_is | rfl | decide)
    (case b_HE => first | k_is | rfl | decide)
    (case i_RE => first | k_is | rfl | decide)
    (case n_RE => first | k_is | rfl | decide)
    (case l_RE => first | k_is | rfl | decide)
    (case c_RE => first | k_is | rfl | decide)
    (case k_RE => first | k_is | rfl | decide)
    (case e_RE => first | k_is | rfl | decide)
    (case b_RE => first | k_is | rfl | decide)
    (case kRS => first | k_is | rfl | decide)
    (case hn => first | k_is | rfl | decide)
    (case htk => first | k_is | rfl | decide)
    (case q_MOST_FLOORS => first | k_is | rfl | decide)
    (case q_MOST_ROOM => first | k_is | rfl | decide)
    (case q_MOST_GROUPS => first | k_is | rfl | decide)
    (case q_MOST_PEOPLE => first | k_is | rfl | decide)
    (case q_UP => first | k_is | rfl | decide)
    (case q_DOWN => first | k_is | rfl | decide)
    (case z_len => first | k_is | rfl | decide)
    (case z_sum => first | k_is | rfl | decide)
    (case z_all => first | k_is | rfl | decide)
    (case z_any => first | k_is | rfl | decide)
    (case z_max => first | k_is | rfl | decide)
    (case z_min => first | k_is | rfl | decide)
    (case z_abs => first | k_is | rfl | decide)
    (case z_int => first | k_is | rfl | decide)
    (case z_bool => first | k_is | rfl | decide)
    (case z_tuple => first | k_is | rfl | decide)
    (case z_list => first | k_is | rfl | decide)
    (case z_dict => first | k_is | rfl | decide)
    (case z_str => first | k_is | rfl | decide)
    (case z_isinstance => first | k_is | rfl | decide)
    (case z_sorted => first | k_is | rfl | decide)
    (case z_range => first | k_is | rfl | decide)
    (case z_zip => first | k_is | rfl | decide)
    (case z_enumerate => first | k_is | rfl | decide)

