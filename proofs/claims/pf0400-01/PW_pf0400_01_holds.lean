import PyProof.Rows.All
import Wide.All
import OpenK.AllK
import Wide.FinOn
import PySem.Challenge.RW_pf0400_01
set_option maxRecDepth 100000
set_option Elab.async false
set_option linter.unusedVariables false
namespace Mine
section
open PySem PySem.W PyProof.Rows
set_option maxRecDepth 100000 in
set_option maxHeartbeats 8000000 in
open_top hd for PySem.Challenge.rw_pf0400_01
end
section
open PySem PySem.Spec PySem.Calls PyProof.Rows PySem.W



section
variable {prog : Program} {w : World} {A A₀ : Around} {E : Value → Shared → Prop} {s : Shared} {K : Frag} {L : Addr} {h₀ base : Heap} {m mg mb : Str → Option Value} {news fr : List (Addr × Obj)} {p : Program} {loose : List Str} {mean : ExcName → Option Value}

theorem news_sub {h₀ h : Heap} {L : Addr} {l l' : List (Addr × Obj)} (N : News h₀ L h l) (hs : ∀ p ∈ l', p ∈ l) : News h₀ L h l' := fun p hp => N p (hs p hp)

theorem code_fr {env : Env} {outer : List Env} {R : Result → Shared → Prop} {name qual : Str} {params : Arguments} {body : List Stmt} {scope : Scope} {dV kV doc pm cdv ct oc : Value} {an od : Option Addr} {osl : Array (Option Value)} {f : Addr} {args : Args} {binds : List (Str × Value)}
    (B : Below A₀ base outer h₀) (F : Fr h₀ L s.heap m) (X₀ : K.In h₀) (N : News h₀ L s.heap (news ++ fr)) (T : Top p loose mean mg mb h₀) (hA : A.frames = some (env :: outer)) (hf : env.frame = some L) (hke : env.scope.kind = .function)
    (ho : K.lookup f = some ⟨oc, od, .func (fnOf name qual params body scope dV kV doc pm an cdv ct), osl⟩) (hcd : codeIn K cdv qual = true) (hroom : A.depth < recursionLimit)
    (hbind : BindsTo s (fnOf name qual params body scope dV kV doc pm an cdv ct) args binds) (hloc : ∀ y ∈ binds, scope.names.lookup y.1 = some .local)
    (hdis : ∀ q ∈ fr, ∀ p ∈ news, q.1 ≠ p.1)
    (h : ∀ g L' h₁, Fr h₀ L g m → Fr g L' h₁ (fun y => binds.reverse.lookup y) → News g L' h₁ news → Below A base (env :: outer) g → K.In g → Top p loose mean mg mb g →
      (∀ q ∈ fr, g.get? q.1 = some q.2) → (∀ p ∈ news, p.1 < L') →
      wpAny (model prog w) (A.deeper (envOf qual scope L' f cdv)) (execs body (envOf qual scope L' f cdv))
        (fun fl s' => LeaveK h₀ L m g R (match fl with | .ret v => v | _ => .none) s')
        (fun e s' => wpAny (model prog w) (A.deeper (envOf qual scope L' f cdv)) (leaving (envOf qual scope L' f cdv) e) (fun _ s'' => R (.error e) s'') (fun e' s'' => R (.error e') s'') s')
        { s with heap := h₁, toks := s.toks + binds.length })
    (hco : scope.isCoroutine = false) (hgen : scope.isGenerator = false) (hk : scope.kind = .function)
    (hcell : ∀ x ∈ scope.names, x.2 ≠ .cell) : codeAny (model prog w) A (.call (.ref f) args) R s := by
  have Nn : News h₀ L s.heap news := news_sub N fun p hp => List.mem_append_left _ hp
  obtain ⟨FG, BG, st, lv⟩ := groundX (R := R) B F Nn hA hf hke
  have hfo := (X₀.keeps F.keep) _ _ ho
  refine codeAny_call_def (fd := fnOf name qual params body scope dV kV doc pm an cdv ct) (body := body) (binds := binds) hroom hfo rfl (T.nolimit.keeps F.keep) (codeRec_of (X₀.keeps F.keep) hcd) rfl hbind hcell hloc (fun h₁ hns hk₁ => ?_) hco hgen hk
  exact wpAny_mono (h _ s.heap.objs.size h₁ FG ⟨hns, fun b o e => hk₁ b o (of_hideAll _ e), Nat.le_of_eq (hideAll_size _ _)⟩
    (fun p hp => ⟨hk₁ _ _ (Nn p hp).1, Nat.ne_of_lt (Heap.lt_size (Nn p hp).1), hideAll_none _ (List.mem_map_of_mem hp)⟩) BG (X₀.keeps st) (T.keeps st)
    (fun q hq => hideAll_get _ (N q (List.mem_append_right _ hq)).1 fun z => by
      obtain ⟨p, hp, e⟩ := List.mem_map.mp z
      exact hdis q hq p hp e.symm)
    (fun p hp => Heap.lt_size (Nn p hp).1)) (fun fl s' hl => lv _ _ hl) fun _ _ y => y

theorem code_frC {env : Env} {outer : List Env} {R : Result → Shared → Prop} {name qual : Str} {params : Arguments} {body : List Stmt} {scope : Scope} {dV kV doc pm cdv ct oc : Value} {an od : Option Addr} {osl : Array (Option Value)} {f : Addr} {args : Args} {binds : List (Str × Value)}
    (B : Below A₀ base outer h₀) (F : Fr h₀ L s.heap m) (X₀ : K.In h₀) (N : News h₀ L s.heap (news ++ fr)) (T : Top p loose mean mg mb h₀) (hA : A.frames = some (env :: outer)) (hf : env.frame = some L) (hke : env.scope.kind = .function)
    (ho : K.lookup f = some ⟨oc, od, .func (fnOf name qual params body scope dV kV doc pm an cdv ct), osl⟩) (hcd : codeIn K cdv qual = true) (hroom : A.depth < recursionLimit)
    (hbind : BindsTo s (fnOf name qual params body scope dV kV doc pm an cdv ct) args binds) (hkind : (binds.all fun y => scope.names.lookup y.1 == some .local || scope.names.lookup y.1 == some .cell) = true)
    (hnd : ((cellsFrom 0 scope.names []).map (·.1)).Nodup)
    (hdis : ∀ q ∈ fr, ∀ p ∈ news, q.1 ≠ p.1)
    (h : ∀ g L' h₁ tk cells, Fr h₀ L g m → Fr g L' h₁ (bindL (envOfC qual scope L' f cdv).kindOf binds fun _ => none) → News g L' h₁ (cells ++ news) →
      CellsAre (bindC (envOfC qual scope L' f cdv).kindOf binds fun _ => none) (cellsFrom (L' + 1) scope.names []) cells → Below A base (env :: outer) g → K.In g → Top p loose mean mg mb g →
      (∀ q ∈ fr, g.get? q.1 = some q.2) → (∀ p ∈ news, p.1 < L') →
      wpAny (model prog w) (A.deeper (envOfC qual scope L' f cdv)) (execs body (envOfC qual scope L' f cdv))
        (fun fl s' => LeaveK h₀ L m g R (match fl with | .ret v => v | _ => .none) s')
        (fun e s' => wpAny (model prog w) (A.deeper (envOfC qual scope L' f cdv)) (leaving (envOfC qual scope L' f cdv) e) (fun _ s'' => R (.error e) s'') (fun e' s'' => R (.error e') s'') s')
        { s with heap := h₁, toks := tk })
    (hco : scope.isCoroutine = false) (hgen : scope.isGenerator = false) (hk : scope.kind = .function) : codeAny (model prog w) A (.call (.ref f) args) R s := by
  have Nn : News h₀ L s.heap news := news_sub N fun p hp => List.mem_append_left _ hp
  obtain ⟨FG, BG, st, lv⟩ := groundX (R := R) B F Nn hA hf hke
  have hfo := (X₀.keeps F.keep) _ _ ho
  refine codeAny_call_function hroom hfo rfl hco hgen rfl (codeRec_of (X₀.keeps F.keep) hcd) (hbind _ _ _ _ ?_)
  refine wpAny_newFunctionEnv_cells hk (kindsX hkind _) fun env' he s' x => ?_
  subst he
  refine ⟨(T.nolimit.keeps F.keep).keeps x.toInCall.keep, codeAny_func ?_⟩
  obtain ⟨h₁, tk, rfl, _⟩ := x.done
  have hk₁ := x.toInCall.keep
  obtain ⟨cells, NC, Y⟩ := Cl.news (h₀ := s.heap) (Nat.le_refl _) fun n c hm => ⟨x.cell n c (lookup_of_mem_nodup (cellsFrom_names scope.names 0 (s.heap.objs.size + 1) [] [] rfl ▸ hnd) hm), x.above n c hm⟩
  refine wpAny_mono (h _ s.heap.objs.size h₁ tk cells FG ⟨x.toInCall.ns, fun b o e => hk₁ b o (of_hideAll _ e), Nat.le_of_eq (hideAll_size _ _)⟩ (fun p hp => ?_) Y BG (X₀.keeps st) (T.keeps st)
    (fun q hq => hideAll_get _ (N q (List.mem_append_right _ hq)).1 fun z => by
      obtain ⟨p, hp, e⟩ := List.mem_map.mp z
      exact hdis q hq p hp e.symm)
    (fun p hp => Heap.lt_size (Nn p hp).1)) (fun fl s' hl => lv _ _ hl) fun _ _ y => y
  rcases List.mem_append.mp hp with hp | hp
  · refine ⟨(NC p hp).1, (NC p hp).2.1, ?_⟩
    cases q : (hideAll s.heap (news.map (·.1))).get? p.1 with
    | none => rfl
    | some o => have := of_hideAll _ q; rw [(NC p hp).2.2] at this; cases this
  · exact ⟨hk₁ _ _ (Nn p hp).1, Nat.ne_of_lt (Heap.lt_size (Nn p hp).1), hideAll_none _ (List.mem_map_of_mem hp)⟩

/-- what stood frozen below stands in the caller's ledger again -/
theorem fr_back {g h' : Heap} {L L' : Addr} {m' : Str → Option Value} {news' : List (Addr × Obj)} {h₀ h : Heap}
    (N : News h₀ L h (news ++ fr)) (hfr : ∀ q ∈ fr, g.get? q.1 = some q.2) (F' : Fr g L' h' m') (N' : News h₀ L h' news') : News h₀ L h' (news' ++ fr) := by
  intro p hp
  rcases List.mem_append.mp hp with hp | hp
  · exact N' p hp
  · exact ⟨F'.keep _ _ (hfr p hp), (N p (List.mem_append_right _ hp)).2⟩
theorem fr_apart {g h' : Heap} {L' : Addr} {news' : List (Addr × Obj)} (hfr : ∀ q ∈ fr, g.get? q.1 = some q.2) (N' : News g L' h' news') : ∀ p ∈ news', ∀ q ∈ fr, p.1 ≠ q.1 := by
  intro p hp q hq e
  have := (N' p hp).2.2
  rw [e, hfr q hq] at this
  cases this
end

inductive Pick (x : Addr) (o : Obj) : List (Addr × Obj) → List (Addr × Obj) → Prop
  | head {r} : Pick x o ((x, o) :: r) r
  | tail {p r r'} : Pick x o r r' → Pick x o (p :: r) (p :: r')
theorem Pick.split {x : Addr} {o : Obj} : ∀ {l r : List (Addr × Obj)}, Pick x o l r → ∀ p ∈ (x, o) :: r, p ∈ l
  | _, _, .head, p, hp => hp
  | _, _, .tail q, p, hp => by
    rcases List.mem_cons.mp hp with rfl | hp
    · exact .tail _ (q.split _ (.head _))
    · rcases List.mem_cons.mp hp with rfl | hp
      · exact .head _
      · exact .tail _ (q.split _ (.tail _ hp))

section
variable {prog : Program} {w : World} {A : Around} {E : Value → Shared → Prop} {s : Shared} {L a : Addr} {h₀ : Heap} {m : Str → Option Value} {news : List (Addr × Obj)}
theorem item_led {value slice : PySem.Expr} {its : Array Value} {n : Nat} {k : Int} {u : Tok} {v : Value} {Q : Value → Shared → Prop} (N : News h₀ L s.heap news) (hm : (a, listOf its n) ∈ news)
    (h0 : 0 ≤ k) (hhi : k < 2 ^ 63) (hx : its.toList[k.toNat]? = some v) (h : Q v s)
    (hs : subscripted slice false (.ref a) (.int k u) = operate [.ref a, .int k u] (getItem (.ref a) (.int k u)) := by with_unfolding_all rfl) :
    wpAny (model prog w) A (subscriptTail value slice (.ref a) (.int k u)) Q E s :=
  have hL := News.isList N hm
  tail_any hL.typeIs slot_list_getitem.lookup (wpAny_getItem_list hL h0 hhi (by rw [← Array.getElem?_toList]; exact hx) h) hs
theorem nopy {a b : Int} (h0 : 0 ≤ b) (h : b ≤ 4294967296) : Builtin.divisionGoesByPylong a b = false := by
  refine PyProof.noPylong_of_log2 ?_
  have h1 : b.natAbs ≤ 4294967296 := by omega
  have h2 : b.natAbs.log2 ≤ (4294967296 : Nat).log2 := by
    by_cases h3 : b.natAbs = 0
    · rw [h3]; decide
    · rw [Nat.le_log2 (by decide)]
      exact Nat.le_trans (Nat.log2_self_le h3) h1
  have h4 : (4294967296 : Nat).log2 = 32 := by decide +kernel
  omega
end

def NeAll (x : Addr) : List (Addr × Obj) → Prop
  | [] => True
  | p :: r => @Ne Nat x p.1 ∧ NeAll x r
/-- no address of the first list stands in the second -/
def Apart : List (Addr × Obj) → List (Addr × Obj) → Prop
  | [], _ => True
  | p :: r, l => NeAll p.1 l ∧ Apart r l
theorem NeAll.out {x : Addr} {l : List (Addr × Obj)} (h : NeAll x l) : ∀ p ∈ l, x ≠ p.1 := by
  induction l with
  | nil => exact fun _ hp => nomatch hp
  | cons q r ih =>
    intro p hp
    rcases List.mem_cons.mp hp with e | hp
    · rw [e]; exact h.1
    · exact ih h.2 p hp
theorem Apart.out {r l : List (Addr × Obj)} (h : Apart r l) : ∀ q ∈ r, ∀ p ∈ l, q.1 ≠ p.1 := by
  induction r with
  | nil => exact fun _ hp => nomatch hp
  | cons q r ih =>
    intro p hp
    rcases List.mem_cons.mp hp with e | hp
    · rw [e]; exact h.1.out
    · exact ih h.2 p hp
theorem pick1 {x : Addr} {o : Obj} {h₀ h : Heap} {L : Addr} {led fr : List (Addr × Obj)} (N : News h₀ L h led) (p : Pick x o led fr) : News h₀ L h ([(x, o)] ++ fr) := news_sub N p.split
theorem pick2 {x y : Addr} {o o' : Obj} {h₀ h : Heap} {L : Addr} {led r1 fr : List (Addr × Obj)} (N : News h₀ L h led) (p : Pick x o led r1) (q : Pick y o' r1 fr) : News h₀ L h ([(x, o), (y, o')] ++ fr) :=
  news_sub N fun z hz => p.split _ (by
    rcases List.mem_cons.mp hz with rfl | hz
    · exact .head _
    · exact .tail _ (q.split _ hz))
theorem pick3 {x y z : Addr} {o o' o'' : Obj} {h₀ h : Heap} {L : Addr} {led r1 r2 fr : List (Addr × Obj)} (N : News h₀ L h led) (p : Pick x o led r1) (q : Pick y o' r1 r2) (r : Pick z o'' r2 fr) : News h₀ L h ([(x, o), (y, o'), (z, o'')] ++ fr) :=
  news_sub N fun e he => p.split _ (by
    rcases List.mem_cons.mp he with rfl | he
    · exact .head _
    · refine .tail _ (q.split _ ?_)
      rcases List.mem_cons.mp he with rfl | he
      · exact .head _
      · exact .tail _ (r.split _ he))
section
variable {prog : Program} {w : World} {A : Around} {E : Value → Shared → Prop} {s : Shared} {L a : Addr} {h₀ : Heap} {m : Str → Option Value} {news : List (Addr × Obj)}
theorem item_any {value slice : PySem.Expr} {its : Array Value} {n : Nat} {k : Int} {u : Tok} {Q : Value → Shared → Prop} (N : News h₀ L s.heap news) (hm : (a, listOf its n) ∈ news)
    (h0 : 0 ≤ k) (hhi : k < (its.size : Int)) (hsz : its.size ≤ 1000) (h : ∀ (i : Nat) (v : Value), its.toList[i]? = some v → Q v s)
    (hs : subscripted slice false (.ref a) (.int k u) = operate [.ref a, .int k u] (getItem (.ref a) (.int k u)) := by with_unfolding_all rfl) :
    wpAny (model prog w) A (subscriptTail value slice (.ref a) (.int k u)) Q E s := by
  have hlt : k.toNat < its.size := by omega
  exact item_led (v := its[k.toNat]) N hm h0 (by omega) (by simp [hlt]) (h k.toNat its[k.toNat] (by simp [hlt])) hs
theorem len_led {its : Array Value} {n : Nat} {Q : Value → Shared → Prop} (N : News h₀ L s.heap news) (hm : (a, listOf its n) ∈ news) (hsz : its.size ≤ 1000)
    (h : Q (.int (its.size : Int) (s.toks + 1)) { s with toks := s.toks + 1 + 1 }) : wpAny (model prog w) A (call (.builtin "len") [.ref a]) Q E s := len_list (News.isList N hm) (by omega) h
end

/-- order and difference of addresses, hidden from omega -/
def Lq (a b : Nat) : Prop := a < b
def Nq (a b : Nat) : Prop := a ≠ b
def AllLq (d : Nat) (l : List (Addr × Obj)) : Prop := ∀ p ∈ l, @LT.lt Nat _ p.1 d
def AllNq (d : Nat) (l : List (Addr × Obj)) : Prop := ∀ p ∈ l, @Ne Nat p.1 d
theorem Lq.mk {a b : Nat} (h : a < b) : Lq a b := h
theorem Nq.mk {a b : Nat} (h : a ≠ b) : Nq a b := h
theorem Lq.ne {a b : Nat} (h : Lq a b) : a ≠ b := Nat.ne_of_lt h
theorem Lq.ne' {a b : Nat} (h : Lq a b) : b ≠ a := Nat.ne_of_gt h
theorem Nq.ne {a b : Nat} (h : Nq a b) : a ≠ b := h
theorem Nq.ne' {a b : Nat} (h : Nq a b) : b ≠ a := Ne.symm h
theorem AllLq.mk {d : Addr} {l : List (Addr × Obj)} (h : ∀ p ∈ l, p.1 < d) : AllLq d l := h
theorem AllNq.mk {d : Addr} {l : List (Addr × Obj)} (h : ∀ p ∈ l, p.1 ≠ d) : AllNq d l := h
theorem AllLq.ne {d a : Nat} {o : Obj} {l : List (Addr × Obj)} (h : AllLq d l) (m : (a, o) ∈ l) : a ≠ d := Nat.ne_of_lt (h _ m)
theorem AllLq.ne' {d a : Nat} {o : Obj} {l : List (Addr × Obj)} (h : AllLq d l) (m : (a, o) ∈ l) : d ≠ a := Nat.ne_of_gt (h _ m)
theorem AllNq.ne {d a : Nat} {o : Obj} {l : List (Addr × Obj)} (h : AllNq d l) (m : (a, o) ∈ l) : a ≠ d := h _ m
theorem AllNq.ne' {d a : Nat} {o : Obj} {l : List (Addr × Obj)} (h : AllNq d l) (m : (a, o) ∈ l) : d ≠ a := Ne.symm (h _ m)
theorem AllLq.via {d x a : Nat} {o : Obj} {l : List (Addr × Obj)} (q : Lq d x) (h : AllLq d l) (m : (a, o) ∈ l) : a ≠ x := Nat.ne_of_lt (Nat.lt_trans (h _ m) q)
theorem AllLq.via' {d x a : Nat} {o : Obj} {l : List (Addr × Obj)} (q : Lq d x) (h : AllLq d l) (m : (a, o) ∈ l) : x ≠ a := Nat.ne_of_gt (Nat.lt_trans (h _ m) q)
theorem AllLq.add {d : Nat} (k : Nat) {l : List (Addr × Obj)} (h : AllLq d l) : AllLq (d + k) l := fun p hp => Nat.lt_of_lt_of_le (h p hp) (Nat.le_add_right d k)
theorem off3Nq {I C D : Addr} {l : List (Addr × Obj)} (h : LCg.Off3 I C D l) : AllNq I l ∧ AllNq C l ∧ AllNq D l := ⟨fun p hp => (h.mem p hp).1, fun p hp => (h.mem p hp).2.1, fun p hp => (h.mem p hp).2.2⟩
theorem off1Nq {D : Addr} {l : List (Addr × Obj)} (h : LCg.Off1 D l) : AllNq D l := by
  induction l with
  | nil => exact fun _ hp => nomatch hp
  | cons q r ih =>
    intro p hp
    rcases List.mem_cons.mp hp with e | hp
    · rw [e]; exact h.1
    · exact ih h.2 p hp

section
variable {prog : Program} {w : World} {A : Around} {E : Value → Shared → Prop} {s : Shared} {L l : Addr} {h₀ : Heap} {m : Str → Option Value} {news : List (Addr × Obj)}
theorem sorted3 {d1 d2 d3 hi : Int} {t1 t2 t3 : Tok} {Q : Value → Shared → Prop} (F : Fr h₀ L s.heap m) (N : News h₀ L s.heap news) (hm : (l, LCg.lst [.int d1 t1, .int d2 t2, .int d3 t3]) ∈ news)
    (a1 : 0 ≤ d1) (a2 : 0 ≤ d2) (a3 : 0 ≤ d3) (b1 : d1 < hi) (b2 : d2 < hi) (b3 : d3 < hi)
    (h : ∀ (D : Addr) (p q r : Int) (u1 u2 u3 : Tok) (c : Nat) (h' : Heap), 0 ≤ p → p ≤ q → q ≤ r → r < hi → Fr h₀ L h' m → News h₀ L h' ((D, PySem.W.listOf #[.int p u1, .int q u2, .int r u3] c) :: news) → (∀ q ∈ news, q.1 < D) → Q (.ref D) { s with heap := h' }) :
    wpAny (model prog w) A (call (.builtin "sorted") [.ref l]) Q E s := by
  refine kso_sorted F N (kso_isList (vs := [.int d1 t1, .int d2 t2, .int d3 t3]) N hm rfl) (ns := [d1, d2, d3]) (.cons _ _ (.cons _ _ (.cons _ _ .nil))) (by simp) ?_
  intro D vs' ns' c h' F' N' l1 i e p o _
  have low : ∀ x ∈ ns', 0 ≤ x ∧ x < hi := by
    intro x hx
    have := p.mem_iff.mp hx
    simp only [List.mem_cons, List.not_mem_nil, or_false] at this
    omega
  cases i with
  | nil => simp at e
  | cons p0 u1 i =>
    cases i with
    | nil => simp at e
    | cons p1 u2 i =>
      cases i with
      | nil => simp at e
      | cons p2 u3 i =>
        cases i with
        | cons p3 u4 i => simp at e
        | nil =>
          simp only [List.pairwise_cons, List.mem_cons, List.not_mem_nil, or_false, forall_eq_or_imp, forall_eq] at o
          have l0 := low p0 (by simp)
          have l2 := low p2 (by simp)
          exact h D p0 p1 p2 u1 u2 u3 c h' l0.1 o.1.1 o.2.1 l2.2 F' N' l1
end

inductive Picks : List (Addr × Obj) → List (Addr × Obj) → List (Addr × Obj) → Prop
  | nil {l} : Picks [] l l
  | cons {x o r l l' fr} : Pick x o l l' → Picks r l' fr → Picks ((x, o) :: r) l fr
theorem Picks.sub {os led fr : List (Addr × Obj)} (h : Picks os led fr) : ∀ p ∈ os ++ fr, p ∈ led := by
  induction h with
  | nil => exact fun p hp => hp
  | cons a b ih =>
    intro p hp
    rcases List.mem_cons.mp hp with rfl | hp
    · exact a.split _ (.head _)
    · exact a.split _ (.tail _ (ih p hp))
theorem Picks.news {h₀ h : Heap} {L : Addr} {os led fr : List (Addr × Obj)} (N : News h₀ L h led) (p : Picks os led fr) : News h₀ L h (os ++ fr) := news_sub N p.sub
/-- pairwise different addresses -/
def Dist : List (Addr × Obj) → Prop
  | [] => True
  | p :: r => NeAll p.1 r ∧ Dist r
theorem NeAll.nq {x : Addr} {l : List (Addr × Obj)} (h : NeAll x l) : AllNq x l := fun p hp => Ne.symm (h.out p hp)
theorem allNq_app {d : Addr} {l fr : List (Addr × Obj)} (a : AllNq d l) (b : AllNq d fr) : AllNq d (l ++ fr) := fun p hp => (List.mem_append.mp hp).elim (a p) (b p)
theorem frN {g h' : Heap} {L' : Addr} {d : Addr} {o : Obj} {news' fr : List (Addr × Obj)} (hfr : ∀ q ∈ fr, g.get? q.1 = some q.2) (N' : News g L' h' news') (hm : (d, o) ∈ news') : AllNq d fr := fun q hq => Ne.symm (fr_apart hfr N' _ hm q hq)
theorem allLq_all {d : Addr} {l : List (Addr × Obj)} (a : AllLq d l) : ∀ p ∈ l, p.1 ≠ d := fun p hp => Nat.ne_of_lt (a p hp)
theorem allNq_all {d : Addr} {l : List (Addr × Obj)} (a : AllNq d l) : ∀ p ∈ l, p.1 ≠ d := a
theorem allLq_via {d x : Addr} {l : List (Addr × Obj)} (q : Lq d x) (a : AllLq d l) : ∀ p ∈ l, p.1 ≠ x := fun p hp => Nat.ne_of_lt (Nat.lt_trans (a p hp) q)
abbrev ent (w : World) (x : String) (t : Tok) (v : Value) : DictEntry := { hash := PyData.keyHash w.params (Str.ofString x), key := .str (Str.ofString x) t, val := v }
abbrev queueD (w : World) (k0 k1 : Tok) (room held : Value) : Obj := dictOf [ent w "room" k0 room, ent w "held" k1 held] 2
abbrev peerD (w : World) (k0 k1 k2 k3 k4 : Tok) (ring size most seq ack : Value) : Obj := dictOf [ent w "ring" k0 ring, ent w "size" k1 size, ent w "most" k2 most, ent w "told_seq" k3 seq, ent w "told_ack" k4 ack] 5
abbrev sendD (w : World) (k0 k1 k2 k3 k4 k5 k6 k7 k8 k9 k10 : Tok) (iss ring mss una next greatest peer queue syn fa fs : Value) : Obj :=
  dictOf [ent w "iss" k0 iss, ent w "ring" k1 ring, ent w "mss" k2 mss, ent w "una" k3 una, ent w "next" k4 next, ent w "greatest" k5 greatest, ent w "peer" k6 peer, ent w "queue" k7 queue, ent w "syn_pending" k8 syn, ent w "fin_asked" k9 fa, ent w "fin_sent" k10 fs] 11

/-- each address of the first list stands neither behind it there nor in the second list -/
def Fresh : List (Addr × Obj) → List (Addr × Obj) → Prop
  | [], _ => True
  | p :: r, fr => AllNq p.1 (r ++ fr) ∧ Fresh r fr
theorem allLq_sub {d : Addr} {l l' : List (Addr × Obj)} (a : AllLq d l) (h : ∀ p ∈ l', p ∈ l) : ∀ p ∈ l', p.1 ≠ d := fun p hp => Nat.ne_of_lt (a p (h p hp))
theorem allNq_sub {d : Addr} {l l' : List (Addr × Obj)} (a : AllNq d l) (h : ∀ p ∈ l', p ∈ l) : ∀ p ∈ l', p.1 ≠ d := fun p hp => a p (h p hp)
theorem allLq_subvia {d x : Addr} {l l' : List (Addr × Obj)} (q : Lq d x) (a : AllLq d l) (h : ∀ p ∈ l', p ∈ l) : ∀ p ∈ l', p.1 ≠ x := fun p hp => Nat.ne_of_lt (Nat.lt_trans (a p (h p hp)) q)

/-- the second list's entries stand in the first -/
def Subs (l l' : List (Addr × Obj)) : Prop := ∀ p ∈ l', p ∈ l
theorem Subs.nil {l : List (Addr × Obj)} : Subs l [] := fun _ h => nomatch h
theorem Subs.cons {e : Addr × Obj} {l r : List (Addr × Obj)} (h : e ∈ l) (t : Subs l r) : Subs l (e :: r) := fun p hp => by
  rcases List.mem_cons.mp hp with rfl | hp
  · exact h
  · exact t p hp
theorem Subs.self {l : List (Addr × Obj)} : Subs l l := fun _ h => h
theorem Subs.tail {e : Addr × Obj} {l r : List (Addr × Obj)} (t : Subs l r) : Subs (e :: l) r := fun p hp => .tail _ (t p hp)
theorem news_subs {h₀ h : Heap} {L : Addr} {l l' : List (Addr × Obj)} (N : News h₀ L h l) (hs : Subs l l') : News h₀ L h l' := fun p hp => N p (hs p hp)

theorem Pick.sup {x : Addr} {o : Obj} {l r : List (Addr × Obj)} (h : Pick x o l r) : ∀ p ∈ l, p ∈ (x, o) :: r := by
  induction h with
  | head => exact fun p hp => hp
  | tail q ih =>
    intro p hp
    rcases List.mem_cons.mp hp with rfl | hp
    · exact .tail _ (.head _)
    · rcases List.mem_cons.mp (ih p hp) with rfl | hp
      · exact .head _
      · exact .tail _ (.tail _ hp)
theorem Picks.sup {os led fr : List (Addr × Obj)} (h : Picks os led fr) : ∀ p ∈ led, p ∈ os ++ fr := by
  induction h with
  | nil => exact fun p hp => hp
  | cons a b ih =>
    intro p hp
    rcases List.mem_cons.mp (a.sup p hp) with rfl | hp
    · exact .head _
    · exact .tail _ (ih p hp)

section
variable {prog : Program} {w : World} {A : Around} {E : Value → Shared → Prop} {s : Shared}
/-- by a written divisor: a division omega knows -/
theorem fdiv_lit {a b : Int} {t u : Tok} {Q : Value → Shared → Prop} (hb : 0 < b ∧ b ≤ 4294967296) (h : Q (.int (a / b) s.toks) { s with toks := s.toks + 1 }) : wpAny (model prog w) A (binaryOp .FloorDiv (.int a t) (.int b u)) Q E s :=
  floordiv_int (by omega) (by rw [Int.fdiv_eq_ediv_of_nonneg _ (by omega)]; exact h) (Or.inl (nopy (by omega) hb.2))
end

theorem NeAll.nil {x : Addr} : NeAll x [] := trivial
theorem NeAll.cons {x : Addr} {p : Addr × Obj} {l : List (Addr × Obj)} (a : x ≠ p.1) (b : NeAll x l) : NeAll x (p :: l) := ⟨a, b⟩
theorem Apart.nil {l : List (Addr × Obj)} : Apart [] l := trivial
theorem Apart.cons {p : Addr × Obj} {r l : List (Addr × Obj)} (a : NeAll p.1 l) (b : Apart r l) : Apart (p :: r) l := ⟨a, b⟩
theorem Apart.rnil {r : List (Addr × Obj)} : Apart r [] := by
  induction r with
  | nil => exact trivial
  | cons p r ih => exact ⟨trivial, ih⟩
theorem Apart.rcons {p : Addr × Obj} {r l : List (Addr × Obj)} (a : ∀ q ∈ r, q.1 ≠ p.1) (b : Apart r l) : Apart r (p :: l) := by
  induction r with
  | nil => exact trivial
  | cons q r ih => exact ⟨⟨a q (.head _), b.1⟩, ih (fun z hz => a z (.tail _ hz)) b.2⟩
theorem Dist.nil : Dist [] := trivial
theorem Dist.cons {p : Addr × Obj} {r : List (Addr × Obj)} (a : NeAll p.1 r) (b : Dist r) : Dist (p :: r) := ⟨a, b⟩
theorem AllNq.cons {d : Addr} {p : Addr × Obj} {l : List (Addr × Obj)} (a : p.1 ≠ d) (b : AllNq d l) : AllNq d (p :: l) := fun q hq => by
  rcases List.mem_cons.mp hq with rfl | hq
  · exact a
  · exact b q hq
theorem AllNq.nil {d : Addr} : AllNq d [] := fun _ h => nomatch h
theorem Fresh.nil {fr : List (Addr × Obj)} : Fresh [] fr := trivial
theorem Fresh.cons {p : Addr × Obj} {r fr : List (Addr × Obj)} (a : AllNq p.1 r) (c : AllNq p.1 fr) (b : Fresh r fr) : Fresh (p :: r) fr := ⟨allNq_app a c, b⟩
theorem ownNq {own : List (Addr × Obj)} {adr : List Addr} {b : Addr} (h : OwnOff own adr) (hb : b ∈ adr) : AllNq b own := fun p hp => h p hp b hb

/-- octets not sent yet, octets held: by counting -/
def leftN (many n u : Int) : Int := max 0 (many + 1 - max 1 (max n u))
def heldN (many u : Int) : Int := max 0 (many - max 0 (u - 1))
theorem left_is {many n u r : Int} (h : r = max 0 (many + 1 - max 1 (max n u))) : r = leftN many n u := h
theorem held_is {many u r : Int} (h0 : 0 ≤ many) (h : r = max 0 (1 + (((many + 1 - 1).toNat : Nat) : Int) - max 1 u)) : r = heldN many u := by unfold heldN; omega
theorem unsent_is {many n u r : Int} {hs : Nat} (hZ : (hs : Int) = heldN many u) (h0 : 0 ≤ many) (h1 : 0 ≤ u) (h2 : u ≤ n) (h : r = (hs : Int) - min (hs : Int) (max 0 (n - u - if u = 0 then 1 else 0))) : r = leftN many n u := by
  unfold heldN at hZ; unfold leftN; omega
theorem sent_is {many n u r : Int} {hs : Nat} (hZ : (hs : Int) = heldN many u) (h0 : 0 ≤ many) (h1 : 0 ≤ u) (h2 : u ≤ n) (h : r = min (hs : Int) (max 0 (n - u - if u = 0 then 1 else 0))) : r = heldN many u - leftN many n u := by
  unfold heldN at *; unfold leftN; omega
/-- what is not sent yet, hidden from omega -/
def UnS (hs : Nat) (n u : Int) (syn : Bool) (l : Int) : Prop := l = (hs : Int) - min (hs : Int) (max 0 (n - u - if syn = true then 1 else 0))
theorem unS_is {hs : Nat} {n u l r : Int} {syn : Bool} (h : UnS hs n u syn l) (e : r = (hs : Int) - min (hs : Int) (max 0 (n - u - if syn = true then 1 else 0))) : r = l := e.trans h.symm
theorem unS_sent {hs : Nat} {n u l r : Int} {syn : Bool} (h : UnS hs n u syn l) (e : r = min (hs : Int) (max 0 (n - u - if syn = true then 1 else 0))) : r = (hs : Int) - l := by unfold UnS at h; omega
theorem UnS.lo {hs : Nat} {n u l : Int} {syn : Bool} (h : UnS hs n u syn l) : 0 ≤ l ∧ l ≤ (hs : Int) := by unfold UnS at h; omega
theorem unS_of {many n u : Int} {hs : Nat} (hZ : (hs : Int) = heldN many u) (h0 : 0 ≤ many) (h1 : 0 ≤ u) (h2 : u ≤ n) : UnS hs n u (decide (u = 0)) (leftN many n u) := by
  unfold heldN at hZ; unfold UnS leftN; simp only [decide_eq_true_eq]; omega
/-- a call's answer, hidden from omega -/
def Ans (P : Prop) : Prop := P
theorem Ans.mk {P : Prop} (h : P) : Ans P := h
theorem Ans.out {P : Prop} (h : Ans P) : P := h
theorem dec_true {Q : Value → Shared → Prop} {P : Prop} [Decidable P] {s : Shared} (hp : P) (h : Q (.bool true) s) : Q (.bool (decide P)) s := by rw [decide_eq_true hp]; exact h
theorem two_eq {x i r g g' : Int} (h : g = g') : [x, (i + g).fmod r] = [x, (i + g').fmod r] := by rw [h]
theorem beqD (a b : Int) : (a == b) = decide (a = b) := rfl

/-- how many numbers of a range are not below c -/
theorem cnt_range (c a : Int) (n : Nat) : ((List.foldl (fun l k => if c ≤ k then l ++ [k] else l) [] (rangeKs a n)).length : Int) = max 0 (a + n - max a c) := by
  induction n with
  | zero => simp [rangeKs]; omega
  | succ n ih =>
    have e : rangeKs a (n + 1) = rangeKs a n ++ [a + (n : Int)] := by simp [rangeKs, List.range_succ]
    rw [e, List.foldl_append, List.foldl_cons, List.foldl_nil]
    split
    · rw [List.length_append, List.length_singleton]; omega
    · omega

theorem bool_dec {b : Bool} {P : Prop} [Decidable P] (h : b = true ↔ P) : b = decide P := by
  cases b with
  | true => exact (decide_eq_true (h.mp rfl)).symm
  | false => exact (decide_eq_false fun p => nomatch h.mpr p).symm
section
variable {prog : Program} {w : World} {A : Around} {E : Value → Shared → Prop} {s : Shared} {L D : Addr} {h₀ : Heap} {news : List (Addr × Obj)}
theorem len_cnt {ys : List Value} {k : Nat} {c a : Int} {n : Nat} {Q : Value → Shared → Prop} (N : News h₀ L s.heap news) (hm : (D, PySem.W.listOf ys.toArray k) ∈ news)
    (hI : IntsAre ys (List.foldl (fun l k => if c ≤ k then l ++ [k] else l) [] (rangeKs a n))) (hn : n ≤ 1000)
    (h : ∀ (r : Int) (t : Tok) (tk : Nat), r = max 0 (a + n - max a c) → Q (.int r t) { s with toks := tk }) : wpAny (model prog w) A (call (.builtin "len") [.ref D]) Q E s := by
  have e1 := hI.length
  have e2 := cnt_range c a n
  have e3 : (ys.toArray.size : Int) = max 0 (a + n - max a c) := by rw [List.size_toArray, e1]; exact e2
  refine len_list (News.isList N hm) (by omega) (h _ _ _ e3)
end




theorem br_no_bytes : typeLookup (.type "range") "__bytes__" = pure none := by rw [typeLookup_type, builtinLookup_eq_fast]; kernel_rfl
theorem br_no_index : typeLookup (.type "range") "__index__" = pure none := by rw [typeLookup_type, builtinLookup_eq_fast]; kernel_rfl
theorem br_no_buffer : typeLookup (.type "range") "__buffer__" = pure none := by rw [typeLookup_type, builtinLookup_eq_fast]; kernel_rfl
theorem br_split : splitId "range.__len__" = some ("range", "__len__") := by decide +kernel
theorem br_sub : isSubtype (.type "range") (.type "range") = pure true := by rw [isSubtype_type]; kernel_rfl
section
variable {prog : Program} {w : World} {A : Around} {E : Value → Shared → Prop} {s : Shared}
theorem rangeKs_get {a : Int} {n i : Nat} (h : i < n) : (rangeKs a n)[i]? = some (a + (i : Int)) := by simp [rangeKs, h]
theorem br_loop {R : Result → Shared → Prop} {I S : Addr} {a : Int} {n : Nat} (hh : A.handled = none) (hr : ∀ k ∈ rangeKs a n, 0 ≤ k ∧ k < 256) (hz : n ≤ sizeLine) (hIS : I ≠ S) :
    ∀ (k i : Nat) (s : Shared), n - i = k → i ≤ n → IsRangeIter s.heap I (a + (i : Int)) ((n : Int) - (i : Int)) 1 → s.heap.get? S = some { cls := .type "bytearray", data := .bytearray (byteArr ((rangeKs a n).take i)) } →
      (∀ h' t k', (∀ b o, b ≠ I → b ≠ S → s.heap.get? b = some o → h'.get? b = some o) → R (.ok (.ret (.bytes (byteArr (rangeKs a n)) t))) { s with heap := h', toks := k' }) →
      codeAny (model prog w) A (.builtin "bytes.__new__.loop" ⟨[.type "bytes", .ref I, .ref S], []⟩) R s := by
  have hlen : (rangeKs a n).length = n := rangeKs_length a n
  intro k
  induction k with
  | zero =>
    intro i s hk hle hit hS hR
    have hin : i = n := by omega
    subst hin
    refine codeAny_builtin F.bm_entry_loop ?_
    rw [Around.under_plainId F.bm_plain_loop _]
    show wpAny _ A.in1 (pyNext (.ref I) >>= _) _ _ s
    refine wpAny_bind (wpAny_pyNext_range_end hh hit (by omega) fun h' he => ?_)
    have hS' : h'.get? S = some { cls := .type "bytearray", data := .bytearray (byteArr ((rangeKs a i).take i)) } := he S _ (Ne.symm hIS) hS
    refine wpAny_bind ?_
    unfold Builtin.Bytes.payload Builtin.Bytes.payload?
    refine wpAny_bind (wpAny_bind (wpAny_load hS' ?_))
    refine wpAny_pure (wpAny_pure ?_)
    rw [List.take_of_length_le (by omega)]
    refine wpAny_bind (wpAny_mkBytes ?_ (by rw [byteArr_size, hlen]; exact hz))
    show wpAny _ _ (if (Value.type "bytes" == Value.type "bytes") = true then _ else _) _ _ _
    refine bm_if_true (by decide) ?_
    first
      | exact wpAny_pure (hR h' _ _ fun b o hb _ e => he b o hb e)
      | exact wpAny_bind (wpAny_pure (wpAny_pure (hR h' _ _ fun b o hb _ e => he b o hb e)))
  | succ k ih =>
    intro i s hk hle hit hS hR
    have hlt : i < n := by omega
    have hn := rangeKs_get (a := a) hlt
    obtain ⟨h0, h1⟩ := hr _ (List.mem_of_getElem? hn)
    refine codeAny_builtin F.bm_entry_loop ?_
    rw [Around.under_plainId F.bm_plain_loop _]
    show wpAny _ A.in1 (pyNext (.ref I) >>= _) _ _ s
    refine wpAny_bind (wpAny_pyNext_range_item hit (by omega) fun h' hit' hs => ?_)
    have hS' : h'.get? S = some { cls := .type "bytearray", data := .bytearray (byteArr ((rangeKs a n).take i)) } := (hs.2 S (Ne.symm hIS)).trans hS
    refine wpAny_bind (wpAny_holding (wpAny_of_eq (rfl : asIndex (.int (a + (i : Int)) s.toks) = pure (a + (i : Int))) ?_))
    refine wpAny_bind (wpAny_letGo ?_)
    refine bm_if_false (by simp only [Bool.or_eq_false_iff, decide_eq_false_iff_not]; omega) ?_
    refine wpAny_bind ?_
    show wpAny _ _ (updateBytearray S (·.push (a + (i : Int)).toNat.toUInt8)) _ _ _
    unfold updateBytearray
    refine wpAny_bind (wpAny_load hS' ?_)
    show wpAny _ _ (update S (Obj.mapBytearray (·.push (a + (i : Int)).toNat.toUInt8)) >>= fun _ => lookBehind S) _ _ _
    refine wpAny_bind (wpAny_update hS' ?_)
    have hS₂ : (h'.update S (Obj.mapBytearray (·.push (a + (i : Int)).toNat.toUInt8))).get? S = some { cls := .type "bytearray", data := .bytearray (byteArr ((rangeKs a n).take (i + 1))) } := by
      rw [byteArr_take hn]
      exact Heap.get?_update_self (Obj.mapBytearray (·.push (a + (i : Int)).toNat.toUInt8)) hS' rfl
    refine wpAny_lookBehind hS₂ ?_ ?_
    · show (if (byteArr ((rangeKs a n).take (i + 1))).size > sizeLine then some "bytearray:memory" else none) = none
      rw [if_neg]
      rw [byteArr_size, List.length_take, hlen]
      omega
    · refine wpAny_pure ⟨plainId_quiet F.bm_plain_loop _, ih (i + 1) { s with heap := h'.update S (Obj.mapBytearray (·.push (a + (i : Int)).toNat.toUInt8)), toks := s.toks + 1 } (by omega) hlt ?_ hS₂ fun h3 t' k' hk3 => ?_⟩
      · have e1 : (h'.update S (Obj.mapBytearray (·.push (a + (i : Int)).toNat.toUInt8))).get? I = h'.get? I := Heap.get?_update_ne _ _ _ _ hIS
        have e2 : a + ((i + 1 : Nat) : Int) = a + (i : Int) + 1 := by omega
        have e3 : (n : Int) - ((i + 1 : Nat) : Int) = (n : Int) - (i : Int) - 1 := by omega
        show (h'.update S _).get? I = _
        rw [e1, e2, e3]
        exact hit'
      · exact hR h3 t' k' fun b o hbI hbS e => hk3 b o hbI hbS ((Heap.get?_update_other _ _ (Ne.symm hbS)).trans (hs.extBut b o hbI e))

theorem br_new {r : Addr} {a b : Int} {t u v : Tok} {n : Nat} {Q : Value → Shared → Prop} (hh : A.handled = none) (hg : IsRange s.heap r a b 1 t u v) (hsm : Builtin.Range.small a b 1 = true) (hn : Builtin.Range.rangeSize a b 1 = (n : Int))
    (hr : ∀ k ∈ rangeKs a n, 0 ≤ k ∧ k < 256) (hz : n ≤ sizeLine)
    (hQ : ∀ h' t k, (∀ b o, s.heap.get? b = some o → h'.get? b = some o) → Q (.bytes (byteArr (rangeKs a n)) t) { s with heap := h', toks := k }) :
    codeAny (model prog w) A (.call (.builtin "bytes.__new__") ⟨[.type "bytes", .ref r], []⟩) (wants Q E) s := by
  refine codeAny_of_tree ?_
  show wpAny _ A.in1 (do checkBuiltinCall "bytes.__new__" ⟨[.type "bytes", .ref r], []⟩; again (.builtin "bytes.__new__" ⟨[.type "bytes", .ref r], []⟩)) _ _ s
  refine wpAny_bind (wpAny_of_eq (F.bm_newCall _) (wpAny_pure ⟨plainId_quiet F.bm_plain _, codeAny_builtin F.bm_entry ?_⟩))
  rw [Around.under_plainId F.bm_plain _]
  have hT : s.TypeIs (.ref r) "range" := ⟨_, hg, rfl⟩
  unfold Builtin.«bytes.__new__»
  refine wpAny_bind (wpAny_of_eq (a := true) rfl ?_)
  refine bm_if_false rfl ?_
  refine wpAny_bind (wpAny_of_eq F.bm_sub ?_)
  refine bm_if_false rfl ?_
  refine wpAny_bind (wpAny_of_eq (F.bm_bind _) ?_)
  refine wpAny_bind (wpAny_of_eq (a := ()) rfl ?_)
  refine wpAny_bind (wpAny_of_eq (a := ()) rfl ?_)
  refine bm_if_false rfl ?_
  refine wpAny_bind (wpAny_specialOf hT br_no_bytes ?_)
  refine wpAny_bind (wpAny_bind ?_)
  show wpAny _ _ (load r >>= _) _ _ _
  refine wpAny_bind (wpAny_load hg ?_)
  refine wpAny_pure (wpAny_pure ?_)
  refine bm_if_false rfl ?_
  refine wpAny_bind (wpAny_specialOf hT br_no_index ?_)
  refine bm_if_true rfl ?_
  first
    | show wpAny _ _ (Builtin.Bytes.buffer? "bytes.__new__" (.ref r) true >>= _) _ _ _
    | (refine wpAny_bind ?_; show wpAny _ _ (Builtin.Bytes.buffer? "bytes.__new__" (.ref r) true >>= _) _ _ _)
  refine wpAny_bind ?_
  unfold Builtin.Bytes.buffer?
  refine wpAny_bind (wpAny_specialOf hT br_no_buffer ?_)
  refine wpAny_bind (wpAny_specialOf hT br_no_buffer ?_)
  refine wpAny_pure ?_
  refine wpAny_bind (wpAny_tryCatch (wpAny_pyIter_range hg hsm ?_))
  rw [hn]
  generalize hO : ({ cls := .type "range_iterator", data := .fields #[rawInt a, rawInt (n : Int), rawInt 1] } : Obj) = O
  have hOf : O.isFreed = false := by rw [← hO]; rfl
  have hg₁ : IsRange (s.heap.push O) r a b 1 t u v := Heap.get?_push_of_some _ hg
  have hT₁ : ({ s with heap := s.heap.push O } : Shared).TypeIs (.ref r) "range" := ⟨_, hg₁, rfl⟩
  refine wpAny_bind (wpAny_holding ?_)
  unfold Builtin.Bytes.lengthHint
  refine wpAny_bind (wpAny_specialOf hT₁ F.slot_range_len.lookup ?_)
  dsimp only
  rw [br_split]
  dsimp only
  refine wpAny_bind (wpAny_isInstance hT₁ br_sub ?_)
  refine bm_if_false rfl ?_
  refine bm_if_false (by decide +kernel) ?_
  refine bm_if_true rfl ?_
  refine wpAny_bind (wpAny_rule ?_)
  refine wpAny_bind (wpAny_attempt (call_len_range hg₁ hn (by rw [sizeLine_eq] at hz; omega) ?_))
  dsimp only
  refine wpAny_bind (wpAny_of_eq (a := some (n : Int)) rfl ?_)
  dsimp only
  refine bm_if_false (by show decide ((n : Int).toNat > sizeLine) = false; rw [decide_eq_false]; omega) ?_
  refine wpAny_pure ?_
  refine wpAny_bind ?_
  unfold Builtin.Bytes.newBytearray
  refine wpAny_newObj_type ?_ (Nat.zero_le _)
  have hI : IsRangeIter ((s.heap.push O).push { cls := .type "bytearray", data := .bytearray #[] }) s.heap.objs.size (a + ((0 : Nat) : Int)) ((n : Int) - ((0 : Nat) : Int)) 1 := by
    show Heap.get? _ _ = _
    rw [Heap.get?_push_of_some _ (Heap.get?_push_size _ hOf), ← hO]
    simp
  have hsz : (s.heap.push O).objs.size = s.heap.objs.size + 1 := Heap.size_push _ _
  have main := br_loop (prog := prog) (w := w) (A := A) (R := wants Q E) (I := s.heap.objs.size) (S := (s.heap.push O).objs.size) hh hr hz (by rw [hsz]; exact Nat.ne_of_lt (Nat.lt_succ_self _))
    n 0 { s with heap := (s.heap.push O).push { cls := .type "bytearray", data := .bytearray #[] }, toks := s.toks + 1 + 1 } rfl (Nat.zero_le _) hI (Heap.get?_push_size _ rfl)
    fun h' t k hk => hQ h' t k fun b o e => hk b o (Nat.ne_of_lt (Heap.lt_size e)) (by rw [hsz]; exact Nat.ne_of_lt (Nat.lt_succ_of_lt (Heap.lt_size e))) (Heap.get?_push_of_some _ (Heap.get?_push_of_some _ e))
  first
    | exact wpAny_pure ⟨plainId_quiet F.bm_plain_loop _, main⟩
    | exact wpAny_pure (wpAny_pure ⟨plainId_quiet F.bm_plain_loop _, main⟩)

theorem call_bytes_range {r : Addr} {a b : Int} {t u v : Tok} {n : Nat} {Q : Value → Shared → Prop} (hh : A.handled = none) (hg : IsRange s.heap r a b 1 t u v) (hsm : Builtin.Range.small a b 1 = true) (hn : Builtin.Range.rangeSize a b 1 = (n : Int))
    (hr : ∀ k ∈ rangeKs a n, 0 ≤ k ∧ k < 256) (hz : n ≤ sizeLine)
    (hQ : ∀ h' t k, (∀ b o, s.heap.get? b = some o → h'.get? b = some o) → Q (.bytes (byteArr (rangeKs a n)) t) { s with heap := h', toks := k }) : wpAny (model prog w) A (call (.type "bytes") [.ref r]) Q E s := by
  refine callType_codes (Q₁ := fun obj s₁ => s₁.TypeIs obj "bytes" ∧ Q obj s₁) F.bm_called (F.bm_typeCall _) F.entry_object_init
    (br_new hh hg hsm hn hr hz fun h' t k hk => ⟨PySem.W.typeIs_bytes _ _ _, hQ h' t k hk⟩) fun obj s₁ h₁ => ?_
  exact ⟨h₁.1, F.args_object_init_2 obj _, object_init_meets F.bm_called.init.lookup F.bm_called.made (by decide) prog w A.in1 _ s₁ ⟨h₁.1, rfl, h₁.2⟩⟩
/-- octets k, k+1 .. one behind the other; none if hi ≤ lo -/
def octs (lo hi : Int) : Array UInt8 := byteArr (rangeKs lo (hi - lo).toNat)
theorem octs_size (lo hi : Int) : (octs lo hi).size = (hi - lo).toNat := by rw [octs, byteArr_size, rangeKs_length]
theorem bytes_range {h₀ : Heap} {L : Addr} {m : Str → Option Value} {news : List (Addr × Obj)} {r : Addr} {a b : Int} {t u v : Tok} {Q : Value → Shared → Prop} (F : Fr h₀ L s.heap m) (N : News h₀ L s.heap news) (hh : A.handled = none) (hg : IsRange s.heap r a b 1 t u v)
    (ha : 0 ≤ a) (hb : b ≤ 256) (ha2 : a ≤ 1000)  (hb2 : -1000 ≤ b)
    (hQ : ∀ h' t k, Fr h₀ L h' m → News h₀ L h' news → Q (.bytes (octs a b) t) { s with heap := h', toks := k }) : wpAny (model prog w) A (call (.type "bytes") [.ref r]) Q E s := by
  have hn : Builtin.Range.rangeSize a b 1 = (((b - a).toNat : Nat) : Int) := rangeSize_nat a b
  refine call_bytes_range hh hg (small_one (by omega) (by omega) (by omega) (by omega)) hn (fun k hk => ?_) (by rw [sizeLine_eq]; omega) fun h' t k hk => hQ h' t k (F.keeps hk) (N.grown hk)
  have := mem_rangeKs hk
  omega
end

section
variable {prog : Program} {w : World} {A : Around} {E : Value → Shared → Prop} {s : Shared} {value slice : PySem.Expr} {b : Array UInt8} {t : Tok} {h₀ : Heap} {L : Addr} {m : Str → Option Value} {news : List (Addr × Obj)} {Q : Value → Shared → Prop}
theorem picked_ext (b : Array UInt8) (lo hi : Option Int) : KBy.picked b lo hi = b.extract (lo.elim 0 (clipAt b.size)) (hi.elim b.size (clipAt b.size)) := by
  rw [KBc.picked_eq]
  apply Array.toList_inj.mp
  simp [List.extract]
theorem clip_in {n : Nat} {k : Int} (h0 : 0 ≤ k) (h1 : k ≤ n) : clipAt n k = k.toNat := by
  have := clipAt_cast n k
  omega
theorem clip_over {n : Nat} {k : Int} (h1 : n ≤ k) : clipAt n k = n := by
  have := clipAt_cast n k
  omega
theorem slice_all {k : Int} {u : Tok} (hF : Fr h₀ L s.heap m) (hN : News h₀ L s.heap news) (hk : (b.size : Int) ≤ k) (hz : b.size ≤ 16777216)
    (h : ∀ h' t' k, Fr h₀ L h' m → News h₀ L h' news → Q (.bytes b t') { s with heap := h', toks := k })
    (hs : subscripted slice false (.bytes b t) (.ref s.heap.objs.size) = operate [.ref s.heap.objs.size, .bytes b t] (getItem (.bytes b t) (.ref s.heap.objs.size)) := by with_unfolding_all rfl)
    (ht : ∀ r, letTemporaryGo value (.bytes b t) r = pure () := by intro _; with_unfolding_all rfl) :
    wpAny (model prog w) A (subscriptTail value slice (.bytes b t) (.ref s.heap.objs.size)) Q E { s with heap := s.heap.push { cls := .type "slice", data := .fields #[.none, .int k u, .none] } } := by
  refine KBc.slice_K hF hN (lo := none) (hi := some k) rfl .none (.int k u) (by rw [KBw.ints_length]; exact hz) (fun h' t' k' F' N' _ => ?_) hs ht
  have e : KBy.picked b none (some k) = b := by
    rw [picked_ext]
    show b.extract 0 (clipAt b.size k) = b
    rw [clip_over hk]; simp
  rw [e]
  exact h h' t' k' F' N'
theorem slice_cut {a z : Int} {u1 u2 : Tok} (hF : Fr h₀ L s.heap m) (hN : News h₀ L s.heap news) (h0 : 0 ≤ a) (h1 : a ≤ z) (h2 : z ≤ b.size) (hz : b.size ≤ 16777216)
    (h : ∀ h' t' k, Fr h₀ L h' m → News h₀ L h' news → Q (.bytes (b.extract a.toNat z.toNat) t') { s with heap := h', toks := k })
    (hs : subscripted slice false (.bytes b t) (.ref s.heap.objs.size) = operate [.ref s.heap.objs.size, .bytes b t] (getItem (.bytes b t) (.ref s.heap.objs.size)) := by with_unfolding_all rfl)
    (ht : ∀ r, letTemporaryGo value (.bytes b t) r = pure () := by intro _; with_unfolding_all rfl) :
    wpAny (model prog w) A (subscriptTail value slice (.bytes b t) (.ref s.heap.objs.size)) Q E { s with heap := s.heap.push { cls := .type "slice", data := .fields #[.int a u1, .int z u2, .none] } } := by
  refine KBc.slice_K hF hN (lo := some a) (hi := some z) rfl (.int a u1) (.int z u2) (by rw [KBw.ints_length]; exact hz) (fun h' t' k' F' N' _ => ?_) hs ht
  have e : KBy.picked b (some a) (some z) = b.extract a.toNat z.toNat := by
    rw [picked_ext]
    show b.extract (clipAt b.size a) (clipAt b.size z) = _
    rw [clip_in h0 (by omega), clip_in (by omega) h2]
  rw [e]
  exact h h' t' k' F' N'
theorem slice_from {a : Int} {u1 : Tok} (hF : Fr h₀ L s.heap m) (hN : News h₀ L s.heap news) (h0 : 0 ≤ a) (h1 : a ≤ b.size) (hz : b.size ≤ 16777216)
    (h : ∀ h' t' k, Fr h₀ L h' m → News h₀ L h' news → Q (.bytes (b.extract a.toNat b.size) t') { s with heap := h', toks := k })
    (hs : subscripted slice false (.bytes b t) (.ref s.heap.objs.size) = operate [.ref s.heap.objs.size, .bytes b t] (getItem (.bytes b t) (.ref s.heap.objs.size)) := by with_unfolding_all rfl)
    (ht : ∀ r, letTemporaryGo value (.bytes b t) r = pure () := by intro _; with_unfolding_all rfl) :
    wpAny (model prog w) A (subscriptTail value slice (.bytes b t) (.ref s.heap.objs.size)) Q E { s with heap := s.heap.push { cls := .type "slice", data := .fields #[.int a u1, .none, .none] } } := by
  refine KBc.slice_K hF hN (lo := some a) (hi := none) rfl (.int a u1) .none (by rw [KBw.ints_length]; exact hz) (fun h' t' k' F' N' _ => ?_) hs ht
  have e : KBy.picked b (some a) none = b.extract a.toNat b.size := by
    rw [picked_ext]
    show b.extract (clipAt b.size a) b.size = _
    rw [clip_in h0 h1]
  rw [e]
  exact h h' t' k' F' N'
end

theorem bb_bytes : typeLookup (.type "bytes") "__bytes__" = pure (some (.builtin "bytes.__bytes__")) := by rw [typeLookup_type, builtinLookup_eq_fast]; kernel_rfl
section
variable {prog : Program} {w : World} {A : Around} {E : Value → Shared → Prop} {s : Shared} {b : Array UInt8} {t : Tok} {Q : Value → Shared → Prop}
theorem bb_new (hQ : Q (.bytes b t) s) :
    codeAny (model prog w) A (.call (.builtin "bytes.__new__") ⟨[.type "bytes", .bytes b t], []⟩) (wants Q E) s := by
  refine codeAny_of_tree ?_
  show wpAny _ A.in1 (do checkBuiltinCall "bytes.__new__" ⟨[.type "bytes", .bytes b t], []⟩; again (.builtin "bytes.__new__" ⟨[.type "bytes", .bytes b t], []⟩)) _ _ s
  refine wpAny_bind (wpAny_of_eq (F.bm_newCall _) (wpAny_pure ⟨plainId_quiet F.bm_plain _, codeAny_builtin F.bm_entry ?_⟩))
  rw [Around.under_plainId F.bm_plain _]
  have hT : s.TypeIs (.bytes b t) "bytes" := PySem.W.typeIs_bytes _ _ _
  unfold Builtin.«bytes.__new__»
  refine wpAny_bind (wpAny_of_eq (a := true) rfl ?_)
  refine bm_if_false rfl ?_
  refine wpAny_bind (wpAny_of_eq F.bm_sub ?_)
  refine bm_if_false rfl ?_
  refine wpAny_bind (wpAny_of_eq (F.bm_bind _) ?_)
  refine wpAny_bind (wpAny_of_eq (a := ()) rfl ?_)
  refine wpAny_bind (wpAny_of_eq (a := ()) rfl ?_)
  refine bm_if_false rfl ?_
  refine wpAny_bind (wpAny_specialOf hT bb_bytes ?_)
  refine wpAny_bind (wpAny_rule ?_)
  refine wpAny_bind (wpAny_typeOf hT ?_)
  refine bm_if_true rfl ?_
  show wpAny _ _ (if (Value.type "bytes" == Value.type "bytes") = true then _ else _) _ _ _
  refine bm_if_true (by decide) ?_
  first
    | exact wpAny_pure hQ
    | exact wpAny_bind (wpAny_pure (wpAny_pure hQ))
theorem bytes_of_bytes (hQ : Q (.bytes b t) s) : wpAny (model prog w) A (call (.type "bytes") [.bytes b t]) Q E s := by
  refine callType_codes (Q₁ := fun obj s₁ => s₁.TypeIs obj "bytes" ∧ Q obj s₁) F.bm_called (F.bm_typeCall _) F.entry_object_init
    (bb_new ⟨PySem.W.typeIs_bytes _ _ _, hQ⟩) fun obj s₁ h₁ => ?_
  exact ⟨h₁.1, F.args_object_init_2 obj _, object_init_meets F.bm_called.init.lookup F.bm_called.made (by decide) prog w A.in1 _ s₁ ⟨h₁.1, rfl, h₁.2⟩⟩
end

section
open PyProof.V



/-- a table by written names, made by the call: what it tells of each name -/
def StL (prog : Program) (w : World) (d : Addr) (o : Obj) (n : Nat) (ks : List Str) (l : List (Str × PyData)) : Prop :=
  (d == sysModules) = false ∧ l.map (·.1) = ks ∧ ∃ kvs D, o.IsDictOf (PySem.strKind prog w) kvs ∧ FlatPairs PyData.str kvs D ∧ D.length ≤ n ∧ ∀ p ∈ l, lookup (.str p.1) D = some p.2

section
variable {prog : Program} {w : World} {A : Around} {E : Value → Shared → Prop} {s : Shared} {h₀ : Heap} {L d : Addr} {m : Str → Option Value} {news : List (Addr × Obj)} {g : Obj → List (Addr × Obj)} {o : Obj} {n : Nat} {ks ks' : List Str} {l l' : List (Str × PyData)}

theorem StL.sub (S : StL prog w d o n ks l) (hk : l'.map (·.1) = ks') (hl : ∀ p ∈ l', p ∈ l) : StL prog w d o n ks' l' :=
  let ⟨lo, _, kvs, D, a, b, c, e⟩ := S
  ⟨lo, hk, kvs, D, a, b, c, fun p hp => e p (hl p hp)⟩
theorem StL.tail {k : Str} {dv : PyData} (S : StL prog w d o n (k :: ks) ((k, dv) :: l)) : StL prog w d o n ks l :=
  let ⟨lo, e0, kvs, D, a, b, c, e⟩ := S
  ⟨lo, by simpa using e0, kvs, D, a, b, c, fun p hp => e p (.tail _ hp)⟩
theorem StL.swap {k k2 : Str} {dv dv2 : PyData} (S : StL prog w d o n (k :: k2 :: ks) ((k, dv) :: (k2, dv2) :: l)) : StL prog w d o n (k :: ks) ((k, dv) :: l) :=
  let ⟨lo, e0, kvs, D, a, b, c, e⟩ := S
  ⟨lo, by simp at e0 ⊢; exact e0, kvs, D, a, b, c, fun p hp => by
    rcases List.mem_cons.mp hp with rfl | hp
    · exact e _ (.head _)
    · exact e p (.tail _ (.tail _ hp))⟩

theorem StL.of3 {a b c : Str} {ta tb tc ti tj tk : Tok} {i j k : Int} {o : Obj} (lo : (d == sysModules) = false)
    (hd : o.IsDictOf (PySem.strKind prog w) (PySem.strPairs [(.str a ta, .int i ti), (.str b tb, .int j tj), (.str c tc, .int k tk)]))
    (hf : FlatPairs PyData.str (PySem.strPairs [(.str a ta, .int i ti), (.str b tb, .int j tj), (.str c tc, .int k tk)]) (strData [(.str a ta, .int i ti), (.str b tb, .int j tj), (.str c tc, .int k tk)]))
    (h1 : a ≠ b) (h2 : a ≠ c) (h3 : b ≠ c) : StL prog w d o 3 [a, b, c] [(a, .int i), (b, .int j), (c, .int k)] := by
  refine ⟨lo, rfl, _, _, hd, hf, Nat.le_refl 3, fun p hp => ?_⟩
  simp only [List.mem_cons, List.not_mem_nil, or_false] at hp
  show PySem.Spec.lookup (PyData.str p.1) [(.str a, .int i), (.str b, .int j), (.str c, .int k)] = _
  rcases hp with rfl | rfl | rfl
  · simp [PySem.Spec.lookup, same_str]
  · simp [PySem.Spec.lookup, same_str, h1]
  · simp [PySem.Spec.lookup, same_str, h2, h3]

/-- a store under a name that was not there -/
theorem set_st {k : Str} {t : Tok} {v : Value} {dv : PyData} {Q : Unit → Shared → Prop} (hv : Flat v dv) (F : Fr h₀ L s.heap m) (N : News h₀ L s.heap news) (U : UpdF d o news g)
    (S : StL prog w d o n ks l) (hn : n ≤ 1000) (hne : (ks.all fun x => !(x == k)) = true)
    (h : ∀ h' o', Fr h₀ L h' m → News h₀ L h' (g o') → StL prog w d o' (n + 1) (k :: ks) ((k, dv) :: l) → Q () { s with heap := h', toks := s.toks + 1 }) :
    wpAny (model prog w) A (setItem (.ref d) (.str k t) v) Q E s := by
  obtain ⟨lo, e0, kvs, D, a, b, c, e⟩ := S
  refine setItem_K same_str (strKind_is _ _ _ _) hv F N U a b (fun h' o' F' N' hd' hf' => h h' o' F' N' ⟨lo, by simp [e0], _, _, hd', hf', Nat.le_trans (putD_length_le _ _ _) (Nat.succ_le_succ c), fun p hp => ?_⟩) (line_of_lenLe (Nat.le_trans c hn) (by decide))
  rcases List.mem_cons.mp hp with rfl | hp
  · exact lookup_putK_same keyEnc_str k dv D
  · have hk : p.1 ≠ k := by
      have hm : p.1 ∈ ks := e0 ▸ List.mem_map_of_mem hp
      have := List.all_eq_true.mp hne _ hm
      intro q
      rw [q] at this
      simp at this
    rw [lookup_putK keyEnc_str, if_neg hk]
    exact e p hp
theorem item_st_int {value slice : PySem.Expr} {x : Str} {t : Tok} {k : Int} {Q : Value → Shared → Prop} (N : News h₀ L s.heap news) (hm : (d, o) ∈ news) (S : StL prog w d o n ks l) (hl : (x, PyData.int k) ∈ l)
    (h : ∀ t, Q (.int k t) { s with toks := s.toks + 1 })
    (hs : subscripted slice false (.ref d) (.str x t) = operate [.ref d, .str x t] (getItem (.ref d) (.str x t)) := by with_unfolding_all rfl) (hg : ∀ r, letTemporaryGo value (.ref d) r = pure () := by intro _; with_unfolding_all rfl) :
    wpAny (model prog w) A (subscriptTail value slice (.ref d) (.str x t)) Q E s := by
  obtain ⟨lo, e0, kvs, D, a, b, c, e⟩ := S
  refine item_strTab (TabAt.ofNews N hm lo a b) (e _ hl) (fun v hv => ?_) hs hg
  obtain ⟨t, rfl⟩ := Flat.int_inv hv
  exact h t
theorem item_st_bool {value slice : PySem.Expr} {x : Str} {t : Tok} {k : Bool} {Q : Value → Shared → Prop} (N : News h₀ L s.heap news) (hm : (d, o) ∈ news) (S : StL prog w d o n ks l) (hl : (x, PyData.bool k) ∈ l)
    (h : Q (.bool k) { s with toks := s.toks + 1 })
    (hs : subscripted slice false (.ref d) (.str x t) = operate [.ref d, .str x t] (getItem (.ref d) (.str x t)) := by with_unfolding_all rfl) (hg : ∀ r, letTemporaryGo value (.ref d) r = pure () := by intro _; with_unfolding_all rfl) :
    wpAny (model prog w) A (subscriptTail value slice (.ref d) (.str x t)) Q E s := by
  obtain ⟨lo, e0, kvs, D, a, b, c, e⟩ := S
  refine item_strTab (TabAt.ofNews N hm lo a b) (e _ hl) (fun v hv => ?_) hs hg
  cases Flat.bool_inv hv
  exact h
end
abbrev stKs : List Str := [Str.ofString "widest", Str.ofString "window", Str.ofString "most", Str.ofString "next", Str.ofString "una", Str.ofString "asked", Str.ofString "many", Str.ofString "ring", Str.ofString "iss", Str.ofString "mss"]
abbrev stLs (ring iss mss many aq u n g wnd wide : Int) : List (Str × PyData) :=
  [(Str.ofString "widest", PyData.int wide), (Str.ofString "window", PyData.int wnd), (Str.ofString "most", PyData.int g), (Str.ofString "next", PyData.int n), (Str.ofString "una", PyData.int u), (Str.ofString "asked", PyData.bool (decide (aq = 0))), (Str.ofString "many", PyData.int many), (Str.ofString "ring", PyData.int ring), (Str.ofString "iss", PyData.int iss), (Str.ofString "mss", PyData.int mss)]

end
local macro_rules | `(tactic| k_room) => `(tactic| ktr_room)
local macro_rules | `(tactic| k_units) => `(tactic| ktr_units)
local macro_rules | `(tactic| k_mem) => `(tactic| first | exact Pick.head | (refine' Pick.tail ?pk; (case pk => k_mem)))
local macro_rules | `(tactic| k_mem) => `(tactic| first | exact Picks.nil | (refine' Picks.cons ?pa ?pb; (case pa => k_mem); (case pb => k_mem)))
local macro_rules | `(tactic| k_all) => `(tactic| first
  | (refine' allLq_sub ?va ?vb; (case va => with_reducible assumption); (case vb => (intro pz hpz; repeat (first | exact hpz | refine List.Mem.tail _ ?_))))
  | (refine' allLq_subvia ?vq ?va ?vb; (case vq => with_reducible assumption); (case va => with_reducible assumption); (case vb => (intro pz hpz; repeat (first | exact hpz | refine List.Mem.tail _ ?_))))
  | (refine' allNq_sub ?va ?vb; (case va => with_reducible assumption); (case vb => (intro pz hpz; repeat (first | exact hpz | refine List.Mem.tail _ ?_)))))
local macro_rules | `(tactic| walk_at "subscriptTail Name Constant ref int") => `(tactic| (k_here; (with_reducible show wpAny _ _ (subscriptTail _ _ (Value.ref _) (Value.int _ _)) _ _ _); k_dflt (refine' item_led ?k1 ?k2 ?k3 ?k4 ?k5 ?_; (case k1 => k_asm); (case k2 => k_mem); (case k3 => decide); (case k4 => decide); (case k5 => rfl); k_whole)))
local macro_rules | `(tactic| walk_at "binaryOp FloorDiv int int") => `(tactic| (k_here; (with_reducible refine floordiv_int ?fb ?_ (Or.inl (nopy ?f0 ?f1))); (case fb => omega); (case f0 => omega); (case f1 => omega)))
local macro_rules | `(tactic| walk_at "binaryOp FloorDiv int int") => `(tactic| (k_here; (with_reducible refine fdiv_lit ?fb ?_); (case fb => decide)))
local macro_rules | `(tactic| walk_at "binaryOp Mult int int") => `(tactic| (k_here; (with_reducible refine mul_int ?_ (IntMulOk.of_left (intBits_le_64 ?f0 ?f1))); (case f0 => omega); (case f1 => omega)))
local macro_rules | `(tactic| walk_at "CompSrc") => `(tactic| (k_here; k_dflt (first | (refine LCg.CompSrc.ledger (by rfl) (by k_asm) (by k_asm) (by k_mem) (by first | size_fits | exact Nat.le_of_ble_eq_true rfl) ?_; intro g'; lcg_lit) | (refine LCg.CompSrc.range (by rfl) (by k_asm) (by k_asm) (by assumption) (by first | decide | rfl) (by first | rfl | decide) (by first | size_fits | exact Nat.le_of_ble_eq_true rfl) ?_; intro g'; lcg_lit))))
local macro_rules | `(tactic| k_lt $h) => `(tactic| replace $h := AllLq.mk $h)
local macro_rules | `(tactic| k_lt2 $h) => `(tactic| replace $h := Lq.mk $h)
local macro_rules | `(tactic| k_ne) => `(tactic| (refine neN ?_; (try dsimp only); first
  | (refine' AllLq.ne ?qh ?qm; (case qh => with_reducible assumption); (case qm => k_mem))
  | (refine' AllLq.ne' ?qh ?qm; (case qh => with_reducible assumption); (case qm => k_mem))
  | (refine' AllLq.via ?qq ?qh ?qm; (case qq => with_reducible assumption); (case qh => with_reducible assumption); (case qm => k_mem))
  | (refine' AllLq.via' ?qq ?qh ?qm; (case qq => with_reducible assumption); (case qh => with_reducible assumption); (case qm => k_mem))
  | (refine' AllNq.ne ?qh ?qm; (case qh => with_reducible assumption); (case qm => k_mem))
  | (refine' AllNq.ne' ?qh ?qm; (case qh => with_reducible assumption); (case qm => k_mem))
  | exact Lq.ne (by with_reducible assumption) | exact Lq.ne' (by with_reducible assumption) | exact Nq.ne (by with_reducible assumption) | exact Nq.ne' (by with_reducible assumption)
  | assumption | exact Ne.symm (by assumption) | omega))
local macro_rules | `(tactic| walk_at "CompRest") => `(tactic| (with_unfolding_all first
  | (refine LCg.CompRest.succ ?_; intro v' I' oI' C' oC' D' m' h' tk' E' hv' hC' hx' F' N' off' ne'; (first | lcg_open hv' | (obtain ⟨t9', hv9'⟩ := hv'; subst hv9')); (obtain ⟨q1', q2', q3'⟩ := off3Nq off'); (clear off'); (obtain ⟨n1', n2', n3'⟩ := ne'); (replace n1' := Nq.mk n1'); (replace n2' := Nq.mk n2'); (replace n3' := Nq.mk n3'))
  | refine LCg.CompRest.zero ?_))
local macro_rules | `(tactic| walk_at "FinE") => `(tactic| ((unfold LCg.FinE); intro D' h' tk' F' N' o1'; (replace o1' := off1Nq o1'); (try simp only [List.nil_append, List.cons_append] at N'); (try dsimp only)))
local macro_rules | `(tactic| walk_at "FinA") => `(tactic| ((unfold LCg.FinA); intro D' h' tk' F' N' o1'; (replace o1' := off1Nq o1'); (try simp only [List.nil_append, List.cons_append] at N'); (try dsimp only)))
local macro_rules | `(tactic| walk_at "call builtin:sorted") => `(tactic| (k_here; (with_reducible show wpAny _ _ (call (Value.builtin _) [Value.ref _]) _ _ _); k_dflt (refine' sorted3 ?F ?N ?hm ?a1 ?a2 ?a3 ?b1 ?b2 ?b3 ?_; (case F => k_asm); (case N => k_asm); (case hm => k_mem); (case a1 => assumption); (case a2 => assumption); (case a3 => assumption); (case b1 => assumption); (case b2 => assumption); (case b3 => assumption)); intro D' p' q' r' u1' u2' u3' c' h' a1' a2' a3' a4' F' N' l1; (try k_lt l1); (try k_sweep)))
local macro_rules | `(tactic| walk_at "call type:bytes") => `(tactic| (k_here; (with_reducible show wpAny _ _ (call (Value.type "bytes") [Value.ref _]) _ _ _); k_dflt (refine' bytes_range ?F ?N ?hh ?hg ?ha ?hb ?ha2 ?hb2 ?_; (case F => k_asm); (case N => k_asm); (case hh => exact rfl); (case hg => assumption); (case ha => omega); (case hb => omega); (case ha2 => omega); (case hb2 => omega)); intro h' t' k' F' N'; (try k_sweep)))
local macro_rules | `(tactic| k_enter) => `(tactic| (refine' code_def ?k1 ?k2 ?k3 ?k4 ?k5 ?kA ?kF ?kK ?k6 ?k7 ?k8 ?k9 ?kB ?_ ?c2 ?c3 ?c4 ?c5; (case kA => exact rfl); (case kF => exact rfl); (case kK => first | exact rfl | assumption); (case k1 => k_asm); (case k2 => k_asm); (case k3 => k_asm); (case k4 => k_asm); (case k5 => k_asm); (case k6 => k_is); (case k7 => k_is); (case k8 => k_room); (case k9 => first | exact BindsTo.of_eq rfl | exact binds_K (by k_in) rfl (by k_is) rfl rfl rfl | fail "k_enter: no rule for these arguments"); (case c5 => decide); (case kB => exact locs rfl); (case c2 => exact rfl); (case c3 => exact rfl); (case c4 => exact rfl); k_whole; intro g' L' h' FG' F' N' B' X' T'; (try dsimp only); (try k_lift B'); (try k_fold)))
local macro_rules | `(tactic| k_all) => `(tactic| first | exact List.forall_mem_nil _ | (refine' List.forall_mem_cons.mpr ⟨?a, ?b⟩; (case a => k_ne); (case b => k_all)))
local macro_rules | `(tactic| k_mem) => `(tactic| ((with_reducible show Subs _ _); first | exact Subs.nil | (refine' Subs.cons ?sa ?sb; (case sa => k_mem); (case sb => k_mem)) | exact Subs.self | (refine' Subs.tail ?sc; (case sc => k_mem))))
local macro_rules | `(tactic| k_all) => `(tactic| ((with_reducible show NeAll _ _); first | exact NeAll.nil | (refine' NeAll.cons ?na ?nb; (case na => k_ne); (case nb => k_all))))
local macro_rules | `(tactic| k_all) => `(tactic| ((with_reducible show Apart _ _); first | exact Apart.nil | (refine' Apart.cons ?na ?nb; (case na => k_all); (case nb => k_all)) | exact Apart.rnil | (refine' Apart.rcons ?na ?nb; (case na => k_all); (case nb => k_all))))
local macro_rules | `(tactic| k_all) => `(tactic| ((with_reducible show Dist _); first | exact Dist.nil | (refine' Dist.cons ?na ?nb; (case na => k_all); (case nb => k_all))))
local macro_rules | `(tactic| k_all) => `(tactic| ((with_reducible show AllNq _ _); first | with_reducible assumption | (refine' frN ?fa ?fb ?fc; (case fa => with_reducible assumption); (case fb => with_reducible assumption); (case fc => k_mem)) | (refine AllNq.mk ?_; k_all) | exact AllNq.nil | (refine' AllNq.cons ?ga ?gb; (case ga => k_ne); (case gb => k_all))))
local macro_rules | `(tactic| k_all) => `(tactic| ((with_reducible show Fresh _ _); first | exact Fresh.nil | (refine' Fresh.cons ?na ?nb ?nc; (case na => k_all); (case nb => (try simp only [List.cons_append, List.nil_append]); k_all); (case nc => k_all))))
local macro_rules | `(tactic| ktn_open) => `(tactic| first | rfl | omega | ((repeat ((with_reducible rename (@Eq Bool _ _) => hq9); revert hq9)); ((try simp only [bne_iff_ne, bne_eq_false_iff_eq, ne_eq, beqD, decide_eq_decide, Bool.and_eq_true, Bool.and_eq_false_iff, Bool.or_eq_true, Bool.or_eq_false_iff, Bool.not_eq_true', Bool.not_eq_false', decide_eq_true_eq, decide_eq_false_iff_not]) <;> intros <;> omega)) | fail "ktn_open")
local macro_rules | `(tactic| walk_at "subscriptTail") => `(tactic| (k_here; (with_reducible show wpAny _ _ (subscriptTail _ (Expr.Slice _ _ none _) (Value.bytes _ _) (Value.ref _)) _ _ _); (with_reducible rename Fr _ _ _ _ => F'); (with_reducible rename News _ _ _ _ => N'); first
  | (refine slice_all (s := ⟨_, _, _, _, _⟩) F' N' (by first | assumption | omega) (by omega) ?_; intro h' t' k' F' N'; (try k_sweep))
  | (refine slice_cut (s := ⟨_, _, _, _, _⟩) F' N' (by first | assumption | omega) (by first | assumption | omega) (by first | assumption | omega) (by omega) ?_; intro h' t' k' F' N'; (try k_sweep))
  | (refine slice_from (s := ⟨_, _, _, _, _⟩) F' N' (by first | assumption | omega) (by first | assumption | omega) (by omega) ?_; intro h' t' k' F' N'; (try k_sweep))))
local macro_rules | `(tactic| walk_at "call type:bytes") => `(tactic| (k_here; (with_reducible show wpAny _ _ (call (Value.type "bytes") [Value.bytes _ _]) _ _ _); (refine bytes_of_bytes ?_)))
local macro_rules | `(tactic| walk_at "binaryOp Add bytes bytes") => `(tactic| (k_here; (refine KBy.add_bytes (by omega) ?_; intro t' tk'; (try dsimp only))))
local macro_rules | `(tactic| walk_at "CompEnd") => `(tactic| (k_dflt (refine' LCg.CompEnd.intro ?kF ?kN _ (fun _ hp => hp) ?ko ?ks ?_; (case kF => with_reducible assumption); (case kN => with_reducible assumption); (case ko => first | with_reducible assumption | ((simp only [LCg.Off3, and_true]); first | done | with_reducible assumption)); (case ks => first | exact True.intro | lcg_src | with_reducible assumption))))
local macro_rules | `(tactic| walk_at "callWith ref") => `(tactic| (k_here; (with_reducible show wpAny _ _ (callWith _ _ _ (backTo _ (starEach [] _)) []) _ _ _); k_dflt (refine' callWith_K0 ?k1 ?k2 ?_; (case k1 => exact Frag.In.keeps (by with_reducible assumption) (Fr.keep (by with_reducible assumption))); (case k2 => k_is); k_whole)))

section
abbrev srcO (x y : Int) (t u : Tok) (n : Nat) : Obj := listOf #[.int x t, .int y u] n
set_option maxHeartbeats 8000000 in
theorem take_ok {w : World} {mean : ExcName → Option Value} {mg mb : Str → Option Value} {dp un : Nat} {gd : Option (List Code)} {cn : Str} {cs : Scope} {a : Addr} {ccd : Value} {cl : List (Str × Addr)} {outer : List Env} {A₀ : Around} {base h₀ : Heap} {L : Addr} {m : Str → Option Value} {s : Shared} {Q E : Value → Shared → Prop} {fr led : List (Addr × Obj)}
    {src : Addr} {x y top : Int} {t u tt : Tok} {n : Nat}
    (B : Below A₀ base outer h₀) (F : Fr h₀ L s.heap m) (X : (Mine.hd.heap_39 w.params).In h₀) (N : News h₀ L s.heap led) (T : Top Mine.hd.view_39 (looseW Mine.hd.view_39 [Str.ofString "Sender"]) mean mg mb h₀) (hk : cs.kind = .function)
    (hp : Pick src (srcO x y t u n) led fr) (hap : Apart fr [(src, srcO x y t u n)])
    (hx : 0 ≤ x) (hy : 0 ≤ y) (hy2 : y < 2147483647) (ht : 0 < top) (ht2 : top ≤ 4294967296)
    (hd : dp + 1 < recursionLimit) (hu : un + 8 < cLine)
    (ret : ∀ (d : Int) (td : Tok) (x' y' : Int) (t' u' : Tok) (h' : Heap) (tk' : Nat), 0 ≤ d → d < top → 0 ≤ x' → 0 ≤ y' → y' < 2147483647 → Fr h₀ L h' m → News h₀ L h' ((src, srcO x' y' t' u' n) :: fr) → Q (.int d td) { s with heap := h', toks := tk' }) :
    wpAny (model PySem.Challenge.rw_pf0400_01.row.prog w) (ktrTop dp un gd cn cs L a ccd cl outer) (call (.ref 389) [.ref src, .int top tt]) Q E s := by
  have N0 := pick1 N hp
  revert X
  k_fill
  intro X
  refine wpAny_call ?_
  refine' code_fr B F X N0 T ?kA ?kF ?kK ?k6 ?k7 ?k8 ?k9 ?kB hap.out ?_ ?c2 ?c3 ?c4 ?c5
  case kA => exact rfl
  case kF => exact rfl
  case kK => assumption
  case k6 => k_is
  case k7 => k_is
  case k8 => ktr_room
  case k9 => exact BindsTo.of_eq rfl
  case kB => exact locs rfl
  case c2 => exact rfl
  case c3 => exact rfl
  case c4 => exact rfl
  case c5 => decide
  intro g' L' h' FG' F' N' B' X' T' hfr hlt
  clear N
  (try k_lt hlt); (try dsimp only); (try k_lift B'); (try k_fold)
  k_steps
  all_goals refine ret _ _ _ _ _ _ _ _ ?_ ?_ ?_ ?_ ?_ (by assumption) (fr_back N0 hfr (by assumption) (by assumption))
  all_goals try assumption
  all_goals first | exact Int.fmod_nonneg_of_pos _ ht | exact Int.fmod_nonneg_of_pos _ (by decide) | exact Int.fmod_lt_of_pos _ (by decide) | exact Int.fmod_lt_of_pos _ ht | exact Int.fdiv_nonneg hx (Int.le_of_lt ht) | omega
end

section
local macro_rules | `(tactic| walk_at "subscriptTail Name") => `(tactic| (k_here; (with_reducible show wpAny _ _ (subscriptTail _ _ (Value.ref _) (Value.int _ _)) _ _ _); k_dflt (refine' item_any ?k1 ?k2 ?k3 ?k4 ?k5 ?_; (case k1 => k_asm); (case k2 => k_mem); (case k3 => omega); (case k4 => omega); (case k5 => omega); k_whole); intro i' v' hi'))
local macro_rules | `(tactic| walk_at "call builtin:len") => `(tactic| (k_here; (with_reducible show wpAny _ _ (call (Value.builtin "len") [Value.ref _]) _ _ _); k_dflt (refine' len_led ?k1 ?k2 ?k3 ?_; (case k1 => k_asm); (case k2 => k_mem); (case k3 => omega); k_whole)))
local macro_rules | `(tactic| walk_at "call ref") => `(tactic| (k_here; k_dflt (refine' take_ok ?zB ?zF ?zX ?zN ?zT ?zhk ?zhp ?zap ?za1 ?za2 ?za3 ?za4 ?za5 ?zhd ?zhu ?_; (case zB => k_asm); (case zF => k_asm); (case zX => k_asm); (case zN => k_asm); (case zT => k_asm); (case zhk => first | exact rfl | assumption); (case zhp => k_mem); (case zap => k_all); (case za1 => omega); (case za2 => omega); (case za3 => omega); (case za4 => omega); (case za5 => omega); (case zhd => ktr_room); (case zhu => ktr_units)); intro d' td' x' y' t' u' h' tk' hd0' hd1' hx' hy' hz' F' N'; (try simp only [List.mem_cons, List.not_mem_nil, or_false, Int.reduceToNat, Int.reducePow] at hi'); (try simp only [List.cons_append, List.nil_append] at N'); (try dsimp only); (try k_sweep)))
set_option maxHeartbeats 8000000 in
theorem one_ok {w : World} {mean : ExcName → Option Value} {mg mb : Str → Option Value} {dp un : Nat} {gd : Option (List Code)} {cn : Str} {cs : Scope} {a : Addr} {ccd : Value} {cl : List (Str × Addr)} {outer : List Env} {A₀ : Around} {base h₀ : Heap} {L : Addr} {m : Str → Option Value} {s : Shared} {Q E : Value → Shared → Prop} {fr led : List (Addr × Obj)}
    {src th : Addr} {x y : Int} {t u : Tok} {n k : Nat} {its : Array Value} {fr0 : List (Addr × Obj)}
    (B : Below A₀ base outer h₀) (F : Fr h₀ L s.heap m) (X : (Mine.hd.heap_39 w.params).In h₀) (N : News h₀ L s.heap led) (T : Top Mine.hd.view_39 (looseW Mine.hd.view_39 [Str.ofString "Sender"]) mean mg mb h₀) (hk : cs.kind = .function)
    (hp : Pick src (srcO x y t u n) led fr0) (hp2 : Pick th (listOf its k) fr0 fr) (hne : src ≠ th) (hap : Apart fr [(src, srcO x y t u n), (th, listOf its k)])
    (hx : 0 ≤ x) (hy : 0 ≤ y) (hy2 : y < 2147483647) (ht : 0 < its.size) (ht2 : its.size ≤ 1000)
    (hd : dp + 2 < recursionLimit) (hu : un + 16 < cLine)
    (ret : ∀ (i : Nat) (v : Value) (x' y' : Int) (t' u' : Tok) (h' : Heap) (tk' : Nat), its.toList[i]? = some v → 0 ≤ x' → 0 ≤ y' → y' < 2147483647 → Fr h₀ L h' m → News h₀ L h' ((src, srcO x' y' t' u' n) :: (th, listOf its k) :: fr) → Q v { s with heap := h', toks := tk' }) :
    wpAny (model PySem.Challenge.rw_pf0400_01.row.prog w) (ktrTop dp un gd cn cs L a ccd cl outer) (call (.ref 396) [.ref src, .ref th]) Q E s := by
  have N0 := pick2 N hp hp2
  revert X
  k_fill
  intro X
  refine wpAny_call ?_
  refine' code_fr B F X N0 T ?kA ?kF ?kK ?k6 ?k7 ?k8 ?k9 ?kB hap.out ?_ ?c2 ?c3 ?c4 ?c5
  case kA => exact rfl
  case kF => exact rfl
  case kK => assumption
  case k6 => k_is
  case k7 => k_is
  case k8 => ktr_room
  case k9 => exact BindsTo.of_eq rfl
  case kB => exact locs rfl
  case c2 => exact rfl
  case c3 => exact rfl
  case c4 => exact rfl
  case c5 => decide
  intro g' L' h' FG' F' N' B' X' T' hfr hlt
  clear N
  (try k_lt hlt); (try dsimp only); (try k_lift B'); (try k_fold)
  k_steps
  all_goals refine ret _ _ _ _ _ _ _ _ (by assumption) ?_ ?_ ?_ (by assumption) (fr_back N0 hfr (by assumption) (by assumption))
  all_goals assumption

theorem one_int {w : World} {mean : ExcName → Option Value} {mg mb : Str → Option Value} {dp un : Nat} {gd : Option (List Code)} {cn : Str} {cs : Scope} {a : Addr} {ccd : Value} {cl : List (Str × Addr)} {outer : List Env} {A₀ : Around} {base h₀ : Heap} {L : Addr} {m : Str → Option Value} {s : Shared} {Q E : Value → Shared → Prop} {fr led : List (Addr × Obj)}
    {src th : Addr} {x y : Int} {t u : Tok} {n k : Nat} {its : Array Value} {fr0 : List (Addr × Obj)} {ns : List Int}
    (B : Below A₀ base outer h₀) (F : Fr h₀ L s.heap m) (X : (Mine.hd.heap_39 w.params).In h₀) (N : News h₀ L s.heap led) (T : Top Mine.hd.view_39 (looseW Mine.hd.view_39 [Str.ofString "Sender"]) mean mg mb h₀) (hk : cs.kind = .function)
    (hp : Pick src (srcO x y t u n) led fr0) (hp2 : Pick th (listOf its k) fr0 fr) (hne : src ≠ th) (hap : Apart fr [(src, srcO x y t u n), (th, listOf its k)])
    (hi : IntsAre its.toList ns)
    (hx : 0 ≤ x) (hy : 0 ≤ y) (hy2 : y < 2147483647) (ht : 0 < its.size) (ht2 : its.size ≤ 1000)
    (hd : dp + 2 < recursionLimit) (hu : un + 16 < cLine)
    (ret : ∀ (r : Int) (tr : Tok) (x' y' : Int) (t' u' : Tok) (h' : Heap) (tk' : Nat), r ∈ ns → 0 ≤ x' → 0 ≤ y' → y' < 2147483647 → Fr h₀ L h' m → News h₀ L h' ((src, srcO x' y' t' u' n) :: fr) → Q (.int r tr) { s with heap := h', toks := tk' }) :
    wpAny (model PySem.Challenge.rw_pf0400_01.row.prog w) (ktrTop dp un gd cn cs L a ccd cl outer) (call (.ref 396) [.ref src, .ref th]) Q E s := by
  refine one_ok B F X N T hk hp hp2 hne hap hx hy hy2 ht ht2 hd hu ?_
  intro i v x' y' t' u' h' tk' hv h1 h2 h3 F' N'
  obtain ⟨r, tr, rfl, hr⟩ := hi.at i v hv
  exact ret r tr x' y' t' u' h' tk' (List.mem_of_getElem? hr) h1 h2 h3 F' (news_sub N' fun p hp => by
    rcases List.mem_cons.mp hp with rfl | hp
    · exact .head _
    · exact .tail _ (.tail _ hp))

theorem pick4 {x y z v : Addr} {o o' o'' o3 : Obj} {h₀ h : Heap} {L : Addr} {led r1 r2 r3 fr : List (Addr × Obj)} (N : News h₀ L h led) (p : Pick x o led r1) (q : Pick y o' r1 r2) (r : Pick z o'' r2 r3) (t : Pick v o3 r3 fr) : News h₀ L h ((x, o) :: (y, o') :: (z, o'') :: (v, o3) :: fr) :=
  news_sub N fun e he => p.split _ (by
    rcases List.mem_cons.mp he with rfl | he
    · exact .head _
    · refine .tail _ (q.split _ ?_)
      rcases List.mem_cons.mp he with rfl | he
      · exact .head _
      · refine .tail _ (r.split _ ?_)
        rcases List.mem_cons.mp he with rfl | he
        · exact .head _
        · exact .tail _ (t.split _ he))
theorem one_tri {w : World} {mean : ExcName → Option Value} {mg mb : Str → Option Value} {dp un : Nat} {gd : Option (List Code)} {cn : Str} {cs : Scope} {a : Addr} {ccd : Value} {cl : List (Str × Addr)} {outer : List Env} {A₀ : Around} {base h₀ : Heap} {L : Addr} {m : Str → Option Value} {s : Shared} {Q E : Value → Shared → Prop} {fr led : List (Addr × Obj)}
    {src th sa sb : Addr} {x y p q r hi : Int} {t u u1 u2 u3 w1 w2 w3 : Tok} {n k ka kb : Nat} {fr0 fr1 fr2 : List (Addr × Obj)}
    (B : Below A₀ base outer h₀) (F : Fr h₀ L s.heap m) (X : (Mine.hd.heap_39 w.params).In h₀) (N : News h₀ L s.heap led) (T : Top Mine.hd.view_39 (looseW Mine.hd.view_39 [Str.ofString "Sender"]) mean mg mb h₀) (hk : cs.kind = .function)
    (hp : Pick src (srcO x y t u n) led fr0) (hp2 : Pick th (listOf #[.ref sa, .ref sa, .ref sb] k) fr0 fr1) (hp3 : Pick sa (listOf #[.int p u1, .int q u2, .int r u3] ka) fr1 fr2) (hp4 : Pick sb (listOf #[.int p w1, .int p w2, .int r w3] kb) fr2 fr)
    (hne : src ≠ th) (hap : Apart ((sa, listOf #[.int p u1, .int q u2, .int r u3] ka) :: (sb, listOf #[.int p w1, .int p w2, .int r w3] kb) :: fr) [(src, srcO x y t u n), (th, listOf #[.ref sa, .ref sa, .ref sb] k)])
    (hap2 : Apart fr [(sa, listOf #[.int p u1, .int q u2, .int r u3] ka), (sb, listOf #[.int p w1, .int p w2, .int r w3] kb)])
    (hx : 0 ≤ x) (hy : 0 ≤ y) (hy2 : y < 2147483647) (h1 : 0 ≤ p) (h2 : p ≤ q) (h3 : q ≤ r) (h4 : r < hi)
    (hd : dp + 2 < recursionLimit) (hu : un + 16 < cLine)
    (ret : ∀ (z : Addr) (q' : Int) (v1 v2 v3 : Tok) (c : Nat) (x' y' : Int) (t' u' : Tok) (h' : Heap) (tk' : Nat), p ≤ q' → q' ≤ r → 0 ≤ x' → 0 ≤ y' → y' < 2147483647 → Fr h₀ L h' m → News h₀ L h' ((z, listOf #[.int p v1, .int q' v2, .int r v3] c) :: (src, srcO x' y' t' u' n) :: fr) → AllNq z ((src, srcO x' y' t' u' n) :: fr) → Q (.ref z) { s with heap := h', toks := tk' }) :
    wpAny (model PySem.Challenge.rw_pf0400_01.row.prog w) (ktrTop dp un gd cn cs L a ccd cl outer) (call (.ref 396) [.ref src, .ref th]) Q E s := by
  have N0 := pick4 N hp hp2 hp3 hp4
  have o1 : ∀ z ∈ fr, z.1 ≠ sa := fun z hz => hap2.out z hz _ (.head _)
  have o2 : ∀ z ∈ fr, z.1 ≠ sb := fun z hz => hap2.out z hz _ (.tail _ (.head _))
  have o3 : sa ≠ src := hap.out _ (.head _) _ (.head _)
  have o4 : sb ≠ src := hap.out _ (.tail _ (.head _)) _ (.head _)
  refine one_ok B F X N0 T hk .head .head hne hap hx hy hy2 (by simp) (by simp) hd hu ?_
  intro i v x' y' t' u' h' tk' hv e1 e2 e3 F' N'
  have sub : ∀ {z o}, (z, o) ∈ [(sa, listOf #[.int p u1, .int q u2, .int r u3] ka), (sb, listOf #[.int p w1, .int p w2, .int r w3] kb)] → News h₀ L h' ((z, o) :: (src, srcO x' y' t' u' n) :: fr) := fun hz => news_sub N' fun e he => by
    rcases List.mem_cons.mp he with rfl | he
    · rcases List.mem_cons.mp hz with hz | hz
      · rw [hz]; exact .tail _ (.tail _ (.head _))
      · rw [List.mem_singleton.mp hz]; exact .tail _ (.tail _ (.tail _ (.head _)))
    · rcases List.mem_cons.mp he with rfl | he
      · exact .head _
      · exact .tail _ (.tail _ (.tail _ (.tail _ he)))
  have oA : AllNq sa ((src, srcO x' y' t' u' n) :: fr) := fun z hz => by
    rcases List.mem_cons.mp hz with rfl | hz
    · exact Ne.symm o3
    · exact o1 z hz
  have oB : AllNq sb ((src, srcO x' y' t' u' n) :: fr) := fun z hz => by
    rcases List.mem_cons.mp hz with rfl | hz
    · exact Ne.symm o4
    · exact o2 z hz
  match i, hv with
  | 0, hv => cases hv; exact ret sa q _ _ _ _ x' y' t' u' h' tk' h2 h3 e1 e2 e3 F' (sub (.head _)) oA
  | 1, hv => cases hv; exact ret sa q _ _ _ _ x' y' t' u' h' tk' h2 h3 e1 e2 e3 F' (sub (.head _)) oA
  | 2, hv => cases hv; exact ret sb p _ _ _ _ x' y' t' u' h' tk' (Int.le_refl _) (Int.le_trans h2 h3) e1 e2 e3 F' (sub (.tail _ (.head _))) oB
  | (i + 3), hv => cases hv
end

section
set_option maxHeartbeats 8000000 in
theorem queue_new {w : World} {mean : ExcName → Option Value} {mg mb : Str → Option Value} {dp un : Nat} {gd : Option (List Code)} {cn : Str} {cs : Scope} {a : Addr} {ccd : Value} {cl : List (Str × Addr)} {outer : List Env} {A₀ : Around} {base h₀ : Heap} {L : Addr} {m : Str → Option Value} {s : Shared} {Q E : Value → Shared → Prop} {led : List (Addr × Obj)} {room : Int} {rt : Tok}
    (B : Below A₀ base outer h₀) (F : Fr h₀ L s.heap m) (X : (Mine.hd.heap_39 w.params).In h₀) (N : News h₀ L s.heap led) (T : Top Mine.hd.view_39 (looseW Mine.hd.view_39 [Str.ofString "Sender"]) mean mg mb h₀) (hk : cs.kind = .function)
    (h1 : 1 ≤ room)
    (hd : dp + 3 < recursionLimit) (hu : un + 20 < cLine)
    (ret : ∀ (x d : Addr) (k0 k1 t0 t1 : Tok) (h' : Heap) (tk' : Nat), Fr h₀ L h' m → News h₀ L h' ((x, instObj 117 d) :: (d, queueD w k0 k1 (.int room t0) (.bytes #[] t1)) :: led) → AllLq d led → Lq d x → Q (.ref x) { s with heap := h', toks := tk' }) :
    wpAny (model PySem.Challenge.rw_pf0400_01.row.prog w) (ktrTop dp un gd cn cs L a ccd cl outer) (call (.ref 117) [.int room rt]) Q E s := by
  revert X; k_fill; intro X
  k_steps
  all_goals exact ret _ _ _ _ _ _ _ _ (by assumption) (by assumption) (by assumption) (by assumption)
end
section
set_option maxHeartbeats 8000000 in
theorem peer_new {w : World} {mean : ExcName → Option Value} {mg mb : Str → Option Value} {dp un : Nat} {gd : Option (List Code)} {cn : Str} {cs : Scope} {a : Addr} {ccd : Value} {cl : List (Str × Addr)} {outer : List Env} {A₀ : Around} {base h₀ : Heap} {L : Addr} {m : Str → Option Value} {s : Shared} {Q E : Value → Shared → Prop} {led : List (Addr × Obj)} {ring : Int} {rt : Tok}
    (B : Below A₀ base outer h₀) (F : Fr h₀ L s.heap m) (X : (Mine.hd.heap_39 w.params).In h₀) (N : News h₀ L s.heap led) (T : Top Mine.hd.view_39 (looseW Mine.hd.view_39 [Str.ofString "Sender"]) mean mg mb h₀) (hk : cs.kind = .function)
    (hd : dp + 3 < recursionLimit) (hu : un + 20 < cLine)
    (ret : ∀ (x d : Addr) (k0 k1 k2 k3 k4 t0 t1 t2 t4 : Tok) (h' : Heap) (tk' : Nat), Fr h₀ L h' m → News h₀ L h' ((x, instObj 180 d) :: (d, peerD w k0 k1 k2 k3 k4 (.int ring t0) (.int 0 t1) (.int 0 t2) .none (.int 0 t4)) :: led) → AllLq d led → Lq d x → Q (.ref x) { s with heap := h', toks := tk' }) :
    wpAny (model PySem.Challenge.rw_pf0400_01.row.prog w) (ktrTop dp un gd cn cs L a ccd cl outer) (call (.ref 180) [.int ring rt]) Q E s := by
  revert X; k_fill; intro X
  k_steps
  all_goals exact ret _ _ _ _ _ _ _ _ _ _ _ _ _ (by assumption) (by assumption) (by assumption) (by assumption)
end
section
local macro_rules | `(tactic| walk_at "call ref") => `(tactic| (k_here; k_dflt (refine' queue_new ?zB ?zF ?zX ?zN ?zT ?zhk ?zh1 ?zhd ?zhu ?_; (case zB => k_asm); (case zF => k_asm); (case zX => k_asm); (case zN => k_asm); (case zT => k_asm); (case zhk => first | exact rfl | assumption); (case zh1 => omega); (case zhd => ktr_room); (case zhu => ktr_units)); intro x' d' k0' k1' t0' t1' h' tk' F' N' l1' l2'; (try simp only [List.mem_cons, List.not_mem_nil, or_false, Int.reduceToNat, Int.reducePow] at hi'); (try simp only [List.cons_append, List.nil_append] at N'); (try dsimp only); (try k_sweep)))
local macro_rules | `(tactic| walk_at "call ref") => `(tactic| (k_here; k_dflt (refine' peer_new ?zB ?zF ?zX ?zN ?zT ?zhk ?zhd ?zhu ?_; (case zB => k_asm); (case zF => k_asm); (case zX => k_asm); (case zN => k_asm); (case zT => k_asm); (case zhk => first | exact rfl | assumption); (case zhd => ktr_room); (case zhu => ktr_units)); intro x' d' k0' k1' k2' k3' k4' t0' t1' t2' t4' h' tk' F' N' l1' l2'; (try simp only [List.mem_cons, List.not_mem_nil, or_false, Int.reduceToNat, Int.reducePow] at hi'); (try simp only [List.cons_append, List.nil_append] at N'); (try dsimp only); (try k_sweep)))
set_option maxHeartbeats 8000000 in
theorem sender_new {w : World} {mean : ExcName → Option Value} {mg mb : Str → Option Value} {dp un : Nat} {gd : Option (List Code)} {cn : Str} {cs : Scope} {a : Addr} {ccd : Value} {cl : List (Str × Addr)} {outer : List Env} {A₀ : Around} {base h₀ : Heap} {L : Addr} {m : Str → Option Value} {s : Shared} {Q E : Value → Shared → Prop} {led : List (Addr × Obj)} {iss ring mss room : Int} {t1 t2 t3 t4 : Tok}
    (B : Below A₀ base outer h₀) (F : Fr h₀ L s.heap m) (X : (Mine.hd.heap_39 w.params).In h₀) (N : News h₀ L s.heap led) (T : Top Mine.hd.view_39 (looseW Mine.hd.view_39 [Str.ofString "Sender"]) mean mg mb h₀) (hk : cs.kind = .function)
    (h1 : 1 ≤ room)
    (hd : dp + 6 < recursionLimit) (hu : un + 40 < cLine)
    (ret : ∀ (x d px pd qx qd : Addr) (k0 k1 k2 k3 k4 k5 k6 k7 k8 k9 k10 t1 t2 t3 t4 t5 t6 j0 j1 j2 j3 j4 v0 v1 v2 v4 i0 i1 u0 u1 : Tok) (h' : Heap) (tk' : Nat), Fr h₀ L h' m →
      News h₀ L h' ((x, instObj 371 d) :: (d, sendD w k0 k1 k2 k3 k4 k5 k6 k7 k8 k9 k10 (.int iss t1) (.int ring t2) (.int mss t3) (.int iss t4) (.int iss t5) (.int iss t6) (.ref px) (.ref qx) (.bool true) (.bool false) (.bool false)) :: (px, instObj 180 pd) :: (pd, peerD w j0 j1 j2 j3 j4 (.int ring v0) (.int 0 v1) (.int 0 v2) .none (.int 0 v4)) :: (qx, instObj 117 qd) :: (qd, queueD w i0 i1 (.int room u0) (.bytes #[] u1)) :: led) → Fresh ((x, instObj 371 d) :: (d, sendD w k0 k1 k2 k3 k4 k5 k6 k7 k8 k9 k10 (.int iss t1) (.int ring t2) (.int mss t3) (.int iss t4) (.int iss t5) (.int iss t6) (.ref px) (.ref qx) (.bool true) (.bool false) (.bool false)) :: (px, instObj 180 pd) :: (pd, peerD w j0 j1 j2 j3 j4 (.int ring v0) (.int 0 v1) (.int 0 v2) .none (.int 0 v4)) :: (qx, instObj 117 qd) :: (qd, queueD w i0 i1 (.int room u0) (.bytes #[] u1)) :: []) led → Q (.ref x) { s with heap := h', toks := tk' }) :
    wpAny (model PySem.Challenge.rw_pf0400_01.row.prog w) (ktrTop dp un gd cn cs L a ccd cl outer) (call (.ref 371) [.int iss t1, .int ring t2, .int mss t3, .int room t4]) Q E s := by
  revert X; k_fill; intro X
  k_steps
  refine' ret _ _ _ _ _ _ _ _ _ _ _ _ _ _ _ _ _ _ _ _ _ _ _ _ _ _ _ _ _ _ _ _ _ _ _ _ _ _ ?rF ?rN ?rD
  case rF => assumption
  case rN => (refine' news_subs ?ra ?rb; (case ra => assumption); (case rb => k_mem))
  case rD => k_all
end

abbrev sendA (w : World) (k0 k1 k2 k3 k4 k5 k6 k7 k8 k9 k10 t0 t1 t2 t3 t4 t5 : Tok) (iss ring mss u n g : Int) (px qx : Addr) (syn fa fs : Bool) : Obj :=
  sendD w k0 k1 k2 k3 k4 k5 k6 k7 k8 k9 k10 (.int iss t0) (.int ring t1) (.int mss t2) (.int ((iss + u).fmod ring) t3) (.int ((iss + n).fmod ring) t4) (.int ((iss + g).fmod ring) t5) (.ref px) (.ref qx) (.bool syn) (.bool fa) (.bool fs)
/-- the way from one number of the ring to another -/
theorem ring_gap {i x y r : Int} (h0 : 0 ≤ y - x) (h1 : y - x < r) : ((i + y).fmod r - (i + x).fmod r).fmod r = y - x := by
  have hr : 0 < r := by omega
  rw [Int.fmod_eq_emod_of_nonneg _ (by omega), Int.fmod_eq_emod_of_nonneg _ (by omega), Int.fmod_eq_emod_of_nonneg _ (by omega), ← Int.sub_emod, show i + y - (i + x) = y - x by omega]
  exact Int.emod_eq_of_lt h0 h1
section
set_option maxHeartbeats 8000000 in
theorem flight_ok {w : World} {mean : ExcName → Option Value} {mg mb : Str → Option Value} {dp un : Nat} {gd : Option (List Code)} {cn : Str} {cs : Scope} {a : Addr} {ccd : Value} {cl : List (Str × Addr)} {outer : List Env} {A₀ : Around} {base h₀ : Heap} {L : Addr} {m : Str → Option Value} {s : Shared} {Q E : Value → Shared → Prop} {fr led : List (Addr × Obj)}
    {sn sd px qx : Addr} {k0 k1 k2 k3 k4 k5 k6 k7 k8 k9 k10 t0 t1 t2 t3 t4 t5 : Tok} {iss ring mss u n g : Int} {syn fa fs : Bool}
    (B : Below A₀ base outer h₀) (F : Fr h₀ L s.heap m) (X : (Mine.hd.heap_39 w.params).In h₀) (N : News h₀ L s.heap led) (T : Top Mine.hd.view_39 (looseW Mine.hd.view_39 [Str.ofString "Sender"]) mean mg mb h₀) (hk : cs.kind = .function)
    (hps : Picks ([(sn, instObj 371 sd), (sd, sendA w k0 k1 k2 k3 k4 k5 k6 k7 k8 k9 k10 t0 t1 t2 t3 t4 t5 iss ring mss u n g px qx syn fa fs)]) led fr) (hap : Apart fr ([(sn, instObj 371 sd), (sd, sendA w k0 k1 k2 k3 k4 k5 k6 k7 k8 k9 k10 t0 t1 t2 t3 t4 t5 iss ring mss u n g px qx syn fa fs)])) 
    (hpre0 : 0 ≤ n - u) (hpre1 : n - u < ring)
    (hd : dp + 2 < recursionLimit) (hu : un + 20 < cLine)
    (ret : ∀ (tr : Tok) (h' : Heap) (tk' : Nat), Fr h₀ L h' m → News h₀ L h' led → Q (.int (n - u) tr) { s with heap := h', toks := tk' }) :
    wpAny (model PySem.Challenge.rw_pf0400_01.row.prog w) (ktrTop dp un gd cn cs L a ccd cl outer) (call (.ref 234) [.ref sn]) Q E s := by
  have N0 := hps.news N
  revert X
  k_fill
  intro X
  refine wpAny_call ?_
  refine' code_fr B F X N0 T ?kA ?kF ?kK ?k6 ?k7 ?k8 ?k9 ?kB hap.out ?_ ?c2 ?c3 ?c4 ?c5
  case kA => exact rfl
  case kF => exact rfl
  case kK => assumption
  case k6 => k_is
  case k7 => k_is
  case k8 => ktr_room
  case k9 => exact BindsTo.of_eq rfl
  case kB => exact locs rfl
  case c2 => exact rfl
  case c3 => exact rfl
  case c4 => exact rfl
  case c5 => decide
  intro g' L' h' FG' F' N' B' X' T' hfr hlt
  clear N
  (try k_lt hlt); (try dsimp only); (try k_lift B'); (try k_fold)

  have hr : 0 < ring := by omega
  k_steps
  rw [ring_gap hpre0 hpre1]
  all_goals refine ret _ _ _ (by assumption) (news_sub (fr_back N0 hfr (by assumption) (by assumption)) hps.sup)
end
theorem ring_eq {i x y r : Int} (h0 : 0 ≤ y - x) (h1 : y - x < r) : ((i + x).fmod r = (i + y).fmod r) ↔ x = y := by
  constructor
  · intro e
    have := ring_gap (i := i) h0 h1
    rw [e, Int.sub_self, Int.zero_fmod] at this
    omega
  · intro e; rw [e]
section
local macro_rules | `(tactic| walk_at "call ref") => `(tactic| (k_here; k_dflt (refine' flight_ok ?zB ?zF ?zX ?zN ?zT ?zhk ?zhps ?zhap ?zhpre0 ?zhpre1 ?zhd ?zhu ?_; (case zB => k_asm); (case zF => k_asm); (case zX => k_asm); (case zN => k_asm); (case zT => k_asm); (case zhk => first | exact rfl | assumption); (case zhps => k_mem); (case zhap => k_all); (case zhpre0 => ktr_rel); (case zhpre1 => ktr_rel); (case zhd => ktr_room); (case zhu => ktr_units)); intro tr' h' tk' F' N'; (try simp only [List.mem_cons, List.not_mem_nil, or_false, Int.reduceToNat, Int.reducePow] at hi'); (try simp only [List.cons_append, List.nil_append] at N'); (try dsimp only); (try k_sweep)))
set_option maxHeartbeats 8000000 in
theorem data_sent_ok {w : World} {mean : ExcName → Option Value} {mg mb : Str → Option Value} {dp un : Nat} {gd : Option (List Code)} {cn : Str} {cs : Scope} {a : Addr} {ccd : Value} {cl : List (Str × Addr)} {outer : List Env} {A₀ : Around} {base h₀ : Heap} {L : Addr} {m : Str → Option Value} {s : Shared} {Q E : Value → Shared → Prop} {fr led : List (Addr × Obj)}
    {sn sd px qx : Addr} {k0 k1 k2 k3 k4 k5 k6 k7 k8 k9 k10 t0 t1 t2 t3 t4 t5 : Tok} {iss ring mss u n g : Int} {syn fa fs : Bool} {qd : Addr} {i0 i1 r0 b0 : Tok} {room : Int} {H : Array UInt8}
    (B : Below A₀ base outer h₀) (F : Fr h₀ L s.heap m) (X : (Mine.hd.heap_39 w.params).In h₀) (N : News h₀ L s.heap led) (T : Top Mine.hd.view_39 (looseW Mine.hd.view_39 [Str.ofString "Sender"]) mean mg mb h₀) (hk : cs.kind = .function)
    (hps : Picks ([(sn, instObj 371 sd), (sd, sendA w k0 k1 k2 k3 k4 k5 k6 k7 k8 k9 k10 t0 t1 t2 t3 t4 t5 iss ring mss u n g px qx syn fa fs), (qx, instObj 117 qd), (qd, queueD w i0 i1 (.int room r0) (.bytes H b0))]) led fr) (hap : Apart fr ([(sn, instObj 371 sd), (sd, sendA w k0 k1 k2 k3 k4 k5 k6 k7 k8 k9 k10 t0 t1 t2 t3 t4 t5 iss ring mss u n g px qx syn fa fs), (qx, instObj 117 qd), (qd, queueD w i0 i1 (.int room r0) (.bytes H b0))])) (hds : Dist ([(sn, instObj 371 sd), (sd, sendA w k0 k1 k2 k3 k4 k5 k6 k7 k8 k9 k10 t0 t1 t2 t3 t4 t5 iss ring mss u n g px qx syn fa fs), (qx, instObj 117 qd), (qd, queueD w i0 i1 (.int room r0) (.bytes H b0))]))
    (hpre0 : 0 ≤ n - u) (hpre1 : n - u < ring) (hpre2 : H.size ≤ 1000000)
    (hd : dp + 3 < recursionLimit) (hu : un + 30 < cLine)
    (ret : ∀ (r : Int) (tr : Tok) (h' : Heap) (tk' : Nat), r = min (H.size : Int) (max 0 (n - u - (if syn then 1 else 0))) → Fr h₀ L h' m → News h₀ L h' led → Q (.int r tr) { s with heap := h', toks := tk' }) :
    wpAny (model PySem.Challenge.rw_pf0400_01.row.prog w) (ktrTop dp un gd cn cs L a ccd cl outer) (call (.ref 248) [.ref sn]) Q E s := by
  have N0 := hps.news N
  simp only [Dist, NeAll, and_true] at hds
  obtain ⟨⟨q0_1, q0_2, q0_3⟩, ⟨q1_2, q1_3⟩, q2_3⟩ := hds
  replace q0_1 := Nq.mk q0_1
  replace q0_2 := Nq.mk q0_2
  replace q0_3 := Nq.mk q0_3
  replace q1_2 := Nq.mk q1_2
  replace q1_3 := Nq.mk q1_3
  replace q2_3 := Nq.mk q2_3
  revert X
  k_fill
  intro X
  refine wpAny_call ?_
  refine' code_fr B F X N0 T ?kA ?kF ?kK ?k6 ?k7 ?k8 ?k9 ?kB hap.out ?_ ?c2 ?c3 ?c4 ?c5
  case kA => exact rfl
  case kF => exact rfl
  case kK => assumption
  case k6 => k_is
  case k7 => k_is
  case k8 => ktr_room
  case k9 => exact BindsTo.of_eq rfl
  case kB => exact locs rfl
  case c2 => exact rfl
  case c3 => exact rfl
  case c4 => exact rfl
  case c5 => decide
  intro g' L' h' FG' F' N' B' X' T' hfr hlt
  clear N
  (try k_lt hlt); (try dsimp only); (try k_lift B'); (try k_fold)

  k_steps
  all_goals refine ret _ _ _ _ ?_ (by assumption) (news_sub (fr_back N0 hfr (by assumption) (by assumption)) hps.sup)
  any_goals ((repeat' split) <;> simp_all <;> omega)
end
section
local macro_rules | `(tactic| walk_at "zz none") => `(tactic| skip)
local macro_rules | `(tactic| walk_at "call ref") => `(tactic| (k_here; k_dflt (refine' data_sent_ok ?zB ?zF ?zX ?zN ?zT ?zhk ?zhps ?zhap ?zhds ?zhpre0 ?zhpre1 ?zhpre2 ?zhd ?zhu ?_; (case zB => k_asm); (case zF => k_asm); (case zX => k_asm); (case zN => k_asm); (case zT => k_asm); (case zhk => first | exact rfl | assumption); (case zhps => k_mem); (case zhap => k_all); (case zhds => k_all); (case zhpre0 => ktr_rel); (case zhpre1 => ktr_rel); (case zhpre2 => ktr_rel); (case zhd => ktr_room); (case zhu => ktr_units)); intro r' tr' h' tk' p0' F' N'; (try simp only [List.mem_cons, List.not_mem_nil, or_false, Int.reduceToNat, Int.reducePow] at hi'); (try simp only [List.cons_append, List.nil_append] at N'); (try simp only [decide_eq_true_eq, decide_eq_false_iff_not] at p0'); (try dsimp only); (try k_sweep)))
set_option maxHeartbeats 8000000 in
theorem unsent_ok {w : World} {mean : ExcName → Option Value} {mg mb : Str → Option Value} {dp un : Nat} {gd : Option (List Code)} {cn : Str} {cs : Scope} {a : Addr} {ccd : Value} {cl : List (Str × Addr)} {outer : List Env} {A₀ : Around} {base h₀ : Heap} {L : Addr} {m : Str → Option Value} {s : Shared} {Q E : Value → Shared → Prop} {fr led : List (Addr × Obj)}
    {sn sd px qx : Addr} {k0 k1 k2 k3 k4 k5 k6 k7 k8 k9 k10 t0 t1 t2 t3 t4 t5 : Tok} {iss ring mss u n g : Int} {syn fa fs : Bool} {qd : Addr} {i0 i1 r0 b0 : Tok} {room : Int} {H : Array UInt8}
    (B : Below A₀ base outer h₀) (F : Fr h₀ L s.heap m) (X : (Mine.hd.heap_39 w.params).In h₀) (N : News h₀ L s.heap led) (T : Top Mine.hd.view_39 (looseW Mine.hd.view_39 [Str.ofString "Sender"]) mean mg mb h₀) (hk : cs.kind = .function)
    (hps : Picks ([(sn, instObj 371 sd), (sd, sendA w k0 k1 k2 k3 k4 k5 k6 k7 k8 k9 k10 t0 t1 t2 t3 t4 t5 iss ring mss u n g px qx syn fa fs), (qx, instObj 117 qd), (qd, queueD w i0 i1 (.int room r0) (.bytes H b0))]) led fr) (hap : Apart fr ([(sn, instObj 371 sd), (sd, sendA w k0 k1 k2 k3 k4 k5 k6 k7 k8 k9 k10 t0 t1 t2 t3 t4 t5 iss ring mss u n g px qx syn fa fs), (qx, instObj 117 qd), (qd, queueD w i0 i1 (.int room r0) (.bytes H b0))])) (hds : Dist ([(sn, instObj 371 sd), (sd, sendA w k0 k1 k2 k3 k4 k5 k6 k7 k8 k9 k10 t0 t1 t2 t3 t4 t5 iss ring mss u n g px qx syn fa fs), (qx, instObj 117 qd), (qd, queueD w i0 i1 (.int room r0) (.bytes H b0))]))
    (hpre0 : 0 ≤ n - u) (hpre1 : n - u < ring) (hpre2 : H.size ≤ 1000000)
    (hd : dp + 4 < recursionLimit) (hu : un + 40 < cLine)
    (ret : ∀ (r : Int) (tr : Tok) (h' : Heap) (tk' : Nat), r = (H.size : Int) - min (H.size : Int) (max 0 (n - u - (if syn then 1 else 0))) → Fr h₀ L h' m → News h₀ L h' led → Q (.int r tr) { s with heap := h', toks := tk' }) :
    wpAny (model PySem.Challenge.rw_pf0400_01.row.prog w) (ktrTop dp un gd cn cs L a ccd cl outer) (call (.ref 255) [.ref sn]) Q E s := by
  have N0 := hps.news N
  simp only [Dist, NeAll, and_true] at hds
  obtain ⟨⟨q0_1, q0_2, q0_3⟩, ⟨q1_2, q1_3⟩, q2_3⟩ := hds
  replace q0_1 := Nq.mk q0_1
  replace q0_2 := Nq.mk q0_2
  replace q0_3 := Nq.mk q0_3
  replace q1_2 := Nq.mk q1_2
  replace q1_3 := Nq.mk q1_3
  replace q2_3 := Nq.mk q2_3
  revert X
  k_fill
  intro X
  refine wpAny_call ?_
  refine' code_fr B F X N0 T ?kA ?kF ?kK ?k6 ?k7 ?k8 ?k9 ?kB hap.out ?_ ?c2 ?c3 ?c4 ?c5
  case kA => exact rfl
  case kF => exact rfl
  case kK => assumption
  case k6 => k_is
  case k7 => k_is
  case k8 => ktr_room
  case k9 => exact BindsTo.of_eq rfl
  case kB => exact locs rfl
  case c2 => exact rfl
  case c3 => exact rfl
  case c4 => exact rfl
  case c5 => decide
  intro g' L' h' FG' F' N' B' X' T' hfr hlt
  clear N
  (try k_lt hlt); (try dsimp only); (try k_lift B'); (try k_fold)

  k_steps
  all_goals refine ret _ _ _ _ ?_ (by assumption) (news_sub (fr_back N0 hfr (by assumption) (by assumption)) hps.sup)
  any_goals (simp_all <;> omega)
end
section
local macro_rules | `(tactic| walk_at "call ref") => `(tactic| (k_here; k_dflt (refine' flight_ok ?zB ?zF ?zX ?zN ?zT ?zhk ?zhps ?zhap ?zhpre0 ?zhpre1 ?zhd ?zhu ?_; (case zB => k_asm); (case zF => k_asm); (case zX => k_asm); (case zN => k_asm); (case zT => k_asm); (case zhk => first | exact rfl | assumption); (case zhps => k_mem); (case zhap => k_all); (case zhpre0 => ktr_rel); (case zhpre1 => ktr_rel); (case zhd => ktr_room); (case zhu => ktr_units)); intro tr' h' tk' F' N'; (try simp only [List.mem_cons, List.not_mem_nil, or_false, Int.reduceToNat, Int.reducePow] at hi'); (try simp only [List.cons_append, List.nil_append] at N'); (try dsimp only); (try k_sweep)))
set_option maxHeartbeats 8000000 in
theorem usable_ok {w : World} {mean : ExcName → Option Value} {mg mb : Str → Option Value} {dp un : Nat} {gd : Option (List Code)} {cn : Str} {cs : Scope} {a : Addr} {ccd : Value} {cl : List (Str × Addr)} {outer : List Env} {A₀ : Around} {base h₀ : Heap} {L : Addr} {m : Str → Option Value} {s : Shared} {Q E : Value → Shared → Prop} {fr led : List (Addr × Obj)}
    {sn sd px qx : Addr} {k0 k1 k2 k3 k4 k5 k6 k7 k8 k9 k10 t0 t1 t2 t3 t4 t5 : Tok} {iss ring mss u n g : Int} {syn fa fs : Bool} {pd : Addr} {j0 j1 j2 j3 j4 v0 v1 v2 : Tok} {wnd most : Int} {seqV ackV : Value} {cw : Int} {tc : Tok}
    (B : Below A₀ base outer h₀) (F : Fr h₀ L s.heap m) (X : (Mine.hd.heap_39 w.params).In h₀) (N : News h₀ L s.heap led) (T : Top Mine.hd.view_39 (looseW Mine.hd.view_39 [Str.ofString "Sender"]) mean mg mb h₀) (hk : cs.kind = .function)
    (hps : Picks ([(sn, instObj 371 sd), (sd, sendA w k0 k1 k2 k3 k4 k5 k6 k7 k8 k9 k10 t0 t1 t2 t3 t4 t5 iss ring mss u n g px qx syn fa fs), (px, instObj 180 pd), (pd, peerD w j0 j1 j2 j3 j4 (.int ring v0) (.int wnd v1) (.int most v2) seqV ackV)]) led fr) (hap : Apart fr ([(sn, instObj 371 sd), (sd, sendA w k0 k1 k2 k3 k4 k5 k6 k7 k8 k9 k10 t0 t1 t2 t3 t4 t5 iss ring mss u n g px qx syn fa fs), (px, instObj 180 pd), (pd, peerD w j0 j1 j2 j3 j4 (.int ring v0) (.int wnd v1) (.int most v2) seqV ackV)])) (hds : Dist ([(sn, instObj 371 sd), (sd, sendA w k0 k1 k2 k3 k4 k5 k6 k7 k8 k9 k10 t0 t1 t2 t3 t4 t5 iss ring mss u n g px qx syn fa fs), (px, instObj 180 pd), (pd, peerD w j0 j1 j2 j3 j4 (.int ring v0) (.int wnd v1) (.int most v2) seqV ackV)]))
    (hpre0 : 0 ≤ n - u) (hpre1 : n - u < ring)
    (hd : dp + 4 < recursionLimit) (hu : un + 40 < cLine)
    (ret : ∀ (r : Int) (tr : Tok) (h' : Heap) (tk' : Nat), r = max 0 (min wnd cw - (n - u)) → Fr h₀ L h' m → News h₀ L h' led → Q (.int r tr) { s with heap := h', toks := tk' }) :
    wpAny (model PySem.Challenge.rw_pf0400_01.row.prog w) (ktrTop dp un gd cn cs L a ccd cl outer) (call (.ref 241) [.ref sn, .int cw tc]) Q E s := by
  have N0 := hps.news N
  simp only [Dist, NeAll, and_true] at hds
  obtain ⟨⟨q0_1, q0_2, q0_3⟩, ⟨q1_2, q1_3⟩, q2_3⟩ := hds
  replace q0_1 := Nq.mk q0_1
  replace q0_2 := Nq.mk q0_2
  replace q0_3 := Nq.mk q0_3
  replace q1_2 := Nq.mk q1_2
  replace q1_3 := Nq.mk q1_3
  replace q2_3 := Nq.mk q2_3
  revert X
  k_fill
  intro X
  refine wpAny_call ?_
  refine' code_fr B F X N0 T ?kA ?kF ?kK ?k6 ?k7 ?k8 ?k9 ?kB hap.out ?_ ?c2 ?c3 ?c4 ?c5
  case kA => exact rfl
  case kF => exact rfl
  case kK => assumption
  case k6 => k_is
  case k7 => k_is
  case k8 => ktr_room
  case k9 => exact BindsTo.of_eq rfl
  case kB => exact locs rfl
  case c2 => exact rfl
  case c3 => exact rfl
  case c4 => exact rfl
  case c5 => decide
  intro g' L' h' FG' F' N' B' X' T' hfr hlt
  clear N
  (try k_lt hlt); (try dsimp only); (try k_lift B'); (try k_fold)

  k_steps
  all_goals refine ret _ _ _ _ ?_ (by assumption) (news_sub (fr_back N0 hfr (by assumption) (by assumption)) hps.sup)
  any_goals ((repeat' split) <;> simp_all <;> omega)
end
section
set_option maxHeartbeats 8000000 in
theorem fin_acked_ok {w : World} {mean : ExcName → Option Value} {mg mb : Str → Option Value} {dp un : Nat} {gd : Option (List Code)} {cn : Str} {cs : Scope} {a : Addr} {ccd : Value} {cl : List (Str × Addr)} {outer : List Env} {A₀ : Around} {base h₀ : Heap} {L : Addr} {m : Str → Option Value} {s : Shared} {Q E : Value → Shared → Prop} {fr led : List (Addr × Obj)}
    {sn sd px qx : Addr} {k0 k1 k2 k3 k4 k5 k6 k7 k8 k9 k10 t0 t1 t2 t3 t4 t5 : Tok} {iss ring mss u n g : Int} {syn fa fs : Bool} {qd : Addr} {i0 i1 r0 b0 : Tok} {room : Int} {H : Array UInt8}
    (B : Below A₀ base outer h₀) (F : Fr h₀ L s.heap m) (X : (Mine.hd.heap_39 w.params).In h₀) (N : News h₀ L s.heap led) (T : Top Mine.hd.view_39 (looseW Mine.hd.view_39 [Str.ofString "Sender"]) mean mg mb h₀) (hk : cs.kind = .function)
    (hps : Picks ([(sn, instObj 371 sd), (sd, sendA w k0 k1 k2 k3 k4 k5 k6 k7 k8 k9 k10 t0 t1 t2 t3 t4 t5 iss ring mss u n g px qx syn fa fs), (qx, instObj 117 qd), (qd, queueD w i0 i1 (.int room r0) (.bytes H b0))]) led fr) (hap : Apart fr ([(sn, instObj 371 sd), (sd, sendA w k0 k1 k2 k3 k4 k5 k6 k7 k8 k9 k10 t0 t1 t2 t3 t4 t5 iss ring mss u n g px qx syn fa fs), (qx, instObj 117 qd), (qd, queueD w i0 i1 (.int room r0) (.bytes H b0))])) (hds : Dist ([(sn, instObj 371 sd), (sd, sendA w k0 k1 k2 k3 k4 k5 k6 k7 k8 k9 k10 t0 t1 t2 t3 t4 t5 iss ring mss u n g px qx syn fa fs), (qx, instObj 117 qd), (qd, queueD w i0 i1 (.int room r0) (.bytes H b0))]))
    (hpre0 : 0 ≤ g - u) (hpre1 : g - u < ring) (hpre2 : H.size ≤ 1000000)
    (hd : dp + 4 < recursionLimit) (hu : un + 40 < cLine)
    (ret : ∀ (b : Bool) (h' : Heap) (tk' : Nat), (b = true ↔ (fs = true ∧ syn = false ∧ H.size = 0 ∧ u = g)) → Fr h₀ L h' m → News h₀ L h' led → Q (.bool b) { s with heap := h', toks := tk' }) :
    wpAny (model PySem.Challenge.rw_pf0400_01.row.prog w) (ktrTop dp un gd cn cs L a ccd cl outer) (call (.ref 269) [.ref sn]) Q E s := by
  have N0 := hps.news N
  simp only [Dist, NeAll, and_true] at hds
  obtain ⟨⟨q0_1, q0_2, q0_3⟩, ⟨q1_2, q1_3⟩, q2_3⟩ := hds
  replace q0_1 := Nq.mk q0_1
  replace q0_2 := Nq.mk q0_2
  replace q0_3 := Nq.mk q0_3
  replace q1_2 := Nq.mk q1_2
  replace q1_3 := Nq.mk q1_3
  replace q2_3 := Nq.mk q2_3
  revert X
  k_fill
  intro X
  refine wpAny_call ?_
  refine' code_fr B F X N0 T ?kA ?kF ?kK ?k6 ?k7 ?k8 ?k9 ?kB hap.out ?_ ?c2 ?c3 ?c4 ?c5
  case kA => exact rfl
  case kF => exact rfl
  case kK => assumption
  case k6 => k_is
  case k7 => k_is
  case k8 => ktr_room
  case k9 => exact BindsTo.of_eq rfl
  case kB => exact locs rfl
  case c2 => exact rfl
  case c3 => exact rfl
  case c4 => exact rfl
  case c5 => decide
  intro g' L' h' FG' F' N' B' X' T' hfr hlt
  clear N
  (try k_lt hlt); (try dsimp only); (try k_lift B'); (try k_fold)

  k_steps
  all_goals refine ret _ _ _ ?_ (by assumption) (news_sub (fr_back N0 hfr (by assumption) (by assumption)) hps.sup)
  any_goals first | (simp_all [ring_eq hpre0 hpre1]; done) | (simp_all [ring_eq hpre0 hpre1] <;> omega) | (cases syn <;> cases fa <;> cases fs <;> simp_all [ring_eq hpre0 hpre1] <;> omega)
end
section
local macro_rules | `(tactic| walk_at "call ref") => `(tactic| (k_here; k_dflt (refine' fin_acked_ok ?zB ?zF ?zX ?zN ?zT ?zhk ?zhps ?zhap ?zhds ?zhpre0 ?zhpre1 ?zhpre2 ?zhd ?zhu ?_; (case zB => k_asm); (case zF => k_asm); (case zX => k_asm); (case zN => k_asm); (case zT => k_asm); (case zhk => first | exact rfl | assumption); (case zhps => k_mem); (case zhap => k_all); (case zhds => k_all); (case zhpre0 => ktr_rel); (case zhpre1 => ktr_rel); (case zhpre2 => ktr_rel); (case zhd => ktr_room); (case zhu => ktr_units)); intro b' h' tk' p0' F' N'; (try simp only [List.mem_cons, List.not_mem_nil, or_false, Int.reduceToNat, Int.reducePow] at hi'); (try simp only [List.cons_append, List.nil_append] at N'); (try simp only [decide_eq_true_eq, decide_eq_false_iff_not] at p0'); (have e9' := bool_dec p0'; subst e9'; clear p0'); (try dsimp only); (try k_sweep)))
local macro_rules | `(tactic| walk_at "call ref") => `(tactic| (k_here; k_dflt (refine' flight_ok ?zB ?zF ?zX ?zN ?zT ?zhk ?zhps ?zhap ?zhpre0 ?zhpre1 ?zhd ?zhu ?_; (case zB => k_asm); (case zF => k_asm); (case zX => k_asm); (case zN => k_asm); (case zT => k_asm); (case zhk => first | exact rfl | assumption); (case zhps => k_mem); (case zhap => k_all); (case zhpre0 => ktr_rel); (case zhpre1 => ktr_rel); (case zhd => ktr_room); (case zhu => ktr_units)); intro tr' h' tk' F' N'; (try simp only [List.mem_cons, List.not_mem_nil, or_false, Int.reduceToNat, Int.reducePow] at hi'); (try simp only [List.cons_append, List.nil_append] at N'); (try dsimp only); (try k_sweep)))
set_option maxHeartbeats 8000000 in
theorem fin_due_ok {w : World} {mean : ExcName → Option Value} {mg mb : Str → Option Value} {dp un : Nat} {gd : Option (List Code)} {cn : Str} {cs : Scope} {a : Addr} {ccd : Value} {cl : List (Str × Addr)} {outer : List Env} {A₀ : Around} {base h₀ : Heap} {L : Addr} {m : Str → Option Value} {s : Shared} {Q E : Value → Shared → Prop} {fr led : List (Addr × Obj)}
    {sn sd px qx : Addr} {k0 k1 k2 k3 k4 k5 k6 k7 k8 k9 k10 t0 t1 t2 t3 t4 t5 : Tok} {iss ring mss u n g : Int} {syn fa fs : Bool} {qd : Addr} {i0 i1 r0 b0 : Tok} {room : Int} {H : Array UInt8}
    (B : Below A₀ base outer h₀) (F : Fr h₀ L s.heap m) (X : (Mine.hd.heap_39 w.params).In h₀) (N : News h₀ L s.heap led) (T : Top Mine.hd.view_39 (looseW Mine.hd.view_39 [Str.ofString "Sender"]) mean mg mb h₀) (hk : cs.kind = .function)
    (hps : Picks ([(sn, instObj 371 sd), (sd, sendA w k0 k1 k2 k3 k4 k5 k6 k7 k8 k9 k10 t0 t1 t2 t3 t4 t5 iss ring mss u n g px qx syn fa fs), (qx, instObj 117 qd), (qd, queueD w i0 i1 (.int room r0) (.bytes H b0))]) led fr) (hap : Apart fr ([(sn, instObj 371 sd), (sd, sendA w k0 k1 k2 k3 k4 k5 k6 k7 k8 k9 k10 t0 t1 t2 t3 t4 t5 iss ring mss u n g px qx syn fa fs), (qx, instObj 117 qd), (qd, queueD w i0 i1 (.int room r0) (.bytes H b0))])) (hds : Dist ([(sn, instObj 371 sd), (sd, sendA w k0 k1 k2 k3 k4 k5 k6 k7 k8 k9 k10 t0 t1 t2 t3 t4 t5 iss ring mss u n g px qx syn fa fs), (qx, instObj 117 qd), (qd, queueD w i0 i1 (.int room r0) (.bytes H b0))]))
    (hpre0 : 0 ≤ g - u) (hpre1 : g - u < ring) (hpre2 : 0 ≤ n - u) (hpre3 : n - u < ring) (hpre4 : H.size ≤ 1000000)
    (hd : dp + 5 < recursionLimit) (hu : un + 50 < cLine)
    (ret : ∀ (b : Bool) (h' : Heap) (tk' : Nat), (b = true ↔ (fa = true ∧ ¬ (fs = true ∧ syn = false ∧ H.size = 0 ∧ u = g) ∧ n - u ≤ (H.size : Int) + (if syn then 1 else 0))) → Fr h₀ L h' m → News h₀ L h' led → Q (.bool b) { s with heap := h', toks := tk' }) :
    wpAny (model PySem.Challenge.rw_pf0400_01.row.prog w) (ktrTop dp un gd cn cs L a ccd cl outer) (call (.ref 262) [.ref sn]) Q E s := by
  have N0 := hps.news N
  simp only [Dist, NeAll, and_true] at hds
  obtain ⟨⟨q0_1, q0_2, q0_3⟩, ⟨q1_2, q1_3⟩, q2_3⟩ := hds
  replace q0_1 := Nq.mk q0_1
  replace q0_2 := Nq.mk q0_2
  replace q0_3 := Nq.mk q0_3
  replace q1_2 := Nq.mk q1_2
  replace q1_3 := Nq.mk q1_3
  replace q2_3 := Nq.mk q2_3
  revert X
  k_fill
  intro X
  refine wpAny_call ?_
  refine' code_fr B F X N0 T ?kA ?kF ?kK ?k6 ?k7 ?k8 ?k9 ?kB hap.out ?_ ?c2 ?c3 ?c4 ?c5
  case kA => exact rfl
  case kF => exact rfl
  case kK => assumption
  case k6 => k_is
  case k7 => k_is
  case k8 => ktr_room
  case k9 => exact BindsTo.of_eq rfl
  case kB => exact locs rfl
  case c2 => exact rfl
  case c3 => exact rfl
  case c4 => exact rfl
  case c5 => decide
  intro g' L' h' FG' F' N' B' X' T' hfr hlt
  clear N
  (try k_lt hlt); (try dsimp only); (try k_lift B'); (try k_fold)

  k_steps
  all_goals refine ret _ _ _ ?_ (by assumption) (news_sub (fr_back N0 hfr (by assumption) (by assumption)) hps.sup)
  any_goals first | (simp_all; done) | (simp_all <;> omega) | ((try generalize H.size = hz9 at *); (repeat ((with_reducible rename (@Eq Bool _ _) => hq9); revert hq9)); (repeat ((with_reducible rename (_ ↔ _) => hq9); revert hq9)); (cases syn <;> cases fa <;> cases fs <;> simp <;> intros <;> omega))
end

section
local macro_rules | `(tactic| walk_at "call ref") => `(tactic| (k_here; k_dflt (refine' fin_acked_ok ?zB ?zF ?zX ?zN ?zT ?zhk ?zhps ?zhap ?zhds ?zhpre0 ?zhpre1 ?zhpre2 ?zhd ?zhu ?_; (case zB => k_asm); (case zF => k_asm); (case zX => k_asm); (case zN => k_asm); (case zT => k_asm); (case zhk => first | exact rfl | assumption); (case zhps => k_mem); (case zhap => k_all); (case zhds => k_all); (case zhpre0 => ktr_rel); (case zhpre1 => ktr_rel); (case zhpre2 => ktr_rel); (case zhd => ktr_room); (case zhu => ktr_units)); intro b' h' tk' p0' F' N'; (try simp only [List.mem_cons, List.not_mem_nil, or_false, Int.reduceToNat, Int.reducePow] at hi'); (try simp only [List.cons_append, List.nil_append] at N'); (try simp only [decide_eq_true_eq, decide_eq_false_iff_not] at p0'); (have e9' := bool_dec p0'; subst e9'; clear p0'); (try dsimp only); (try k_sweep)))
set_option maxHeartbeats 8000000 in
theorem all_acked_ok {w : World} {mean : ExcName → Option Value} {mg mb : Str → Option Value} {dp un : Nat} {gd : Option (List Code)} {cn : Str} {cs : Scope} {a : Addr} {ccd : Value} {cl : List (Str × Addr)} {outer : List Env} {A₀ : Around} {base h₀ : Heap} {L : Addr} {m : Str → Option Value} {s : Shared} {Q E : Value → Shared → Prop} {fr led : List (Addr × Obj)}
    {sn sd px qx : Addr} {k0 k1 k2 k3 k4 k5 k6 k7 k8 k9 k10 t0 t1 t2 t3 t4 t5 : Tok} {iss ring mss u n g : Int} {syn fa fs : Bool} {qd : Addr} {i0 i1 r0 b0 : Tok} {room : Int} {H : Array UInt8}
    (B : Below A₀ base outer h₀) (F : Fr h₀ L s.heap m) (X : (Mine.hd.heap_39 w.params).In h₀) (N : News h₀ L s.heap led) (T : Top Mine.hd.view_39 (looseW Mine.hd.view_39 [Str.ofString "Sender"]) mean mg mb h₀) (hk : cs.kind = .function)
    (hps : Picks ([(sn, instObj 371 sd), (sd, sendA w k0 k1 k2 k3 k4 k5 k6 k7 k8 k9 k10 t0 t1 t2 t3 t4 t5 iss ring mss u n g px qx syn fa fs), (qx, instObj 117 qd), (qd, queueD w i0 i1 (.int room r0) (.bytes H b0))]) led fr) (hap : Apart fr ([(sn, instObj 371 sd), (sd, sendA w k0 k1 k2 k3 k4 k5 k6 k7 k8 k9 k10 t0 t1 t2 t3 t4 t5 iss ring mss u n g px qx syn fa fs), (qx, instObj 117 qd), (qd, queueD w i0 i1 (.int room r0) (.bytes H b0))])) (hds : Dist ([(sn, instObj 371 sd), (sd, sendA w k0 k1 k2 k3 k4 k5 k6 k7 k8 k9 k10 t0 t1 t2 t3 t4 t5 iss ring mss u n g px qx syn fa fs), (qx, instObj 117 qd), (qd, queueD w i0 i1 (.int room r0) (.bytes H b0))]))
    (hpre0 : 0 ≤ g - u) (hpre1 : g - u < ring) (hpre2 : H.size ≤ 1000000)
    (hd : dp + 5 < recursionLimit) (hu : un + 50 < cLine)
    (ret : ∀ (b : Bool) (h' : Heap) (tk' : Nat), (b = true ↔ (syn = false ∧ H.size = 0 ∧ ((fs = true ∧ u = g) ∨ fa = false))) → Fr h₀ L h' m → News h₀ L h' led → Q (.bool b) { s with heap := h', toks := tk' }) :
    wpAny (model PySem.Challenge.rw_pf0400_01.row.prog w) (ktrTop dp un gd cn cs L a ccd cl outer) (call (.ref 276) [.ref sn]) Q E s := by
  have N0 := hps.news N
  simp only [Dist, NeAll, and_true] at hds
  obtain ⟨⟨q0_1, q0_2, q0_3⟩, ⟨q1_2, q1_3⟩, q2_3⟩ := hds
  replace q0_1 := Nq.mk q0_1
  replace q0_2 := Nq.mk q0_2
  replace q0_3 := Nq.mk q0_3
  replace q1_2 := Nq.mk q1_2
  replace q1_3 := Nq.mk q1_3
  replace q2_3 := Nq.mk q2_3
  revert X
  k_fill
  intro X
  refine wpAny_call ?_
  refine' code_fr B F X N0 T ?kA ?kF ?kK ?k6 ?k7 ?k8 ?k9 ?kB hap.out ?_ ?c2 ?c3 ?c4 ?c5
  case kA => exact rfl
  case kF => exact rfl
  case kK => assumption
  case k6 => k_is
  case k7 => k_is
  case k8 => ktr_room
  case k9 => exact BindsTo.of_eq rfl
  case kB => exact locs rfl
  case c2 => exact rfl
  case c3 => exact rfl
  case c4 => exact rfl
  case c5 => decide
  intro g' L' h' FG' F' N' B' X' T' hfr hlt
  clear N
  (try k_lt hlt); (try dsimp only); (try k_lift B'); (try k_fold)

  k_steps
  all_goals refine ret _ _ _ ?_ (by assumption) (news_sub (fr_back N0 hfr (by assumption) (by assumption)) hps.sup)
  any_goals first | (simp_all; done) | (simp_all <;> omega) | ((try generalize H.size = hz9 at *); (repeat ((with_reducible rename (@Eq Bool _ _) => hq9); revert hq9)); (repeat ((with_reducible rename (_ ↔ _) => hq9); revert hq9)); (cases syn <;> cases fa <;> cases fs <;> simp <;> intros <;> omega))
end

section
set_option maxHeartbeats 8000000 in
theorem put_ok {w : World} {mean : ExcName → Option Value} {mg mb : Str → Option Value} {dp un : Nat} {gd : Option (List Code)} {cn : Str} {cs : Scope} {a : Addr} {ccd : Value} {cl : List (Str × Addr)} {outer : List Env} {A₀ : Around} {base h₀ : Heap} {L : Addr} {m : Str → Option Value} {s : Shared} {Q E : Value → Shared → Prop} {fr led : List (Addr × Obj)}
    {sn sd px qx qd : Addr} {k0 k1 k2 k3 k4 k5 k6 k7 k8 k9 k10 i0 i1 r0 b0 bt : Tok} {vi vr vm vu vn vg vs vf : Value} {room : Int} {H O : Array UInt8}
    (B : Below A₀ base outer h₀) (F : Fr h₀ L s.heap m) (X : (Mine.hd.heap_39 w.params).In h₀) (N : News h₀ L s.heap led) (T : Top Mine.hd.view_39 (looseW Mine.hd.view_39 [Str.ofString "Sender"]) mean mg mb h₀) (hk : cs.kind = .function)
    (hps : Picks ([(sn, instObj 371 sd), (sd, sendD w k0 k1 k2 k3 k4 k5 k6 k7 k8 k9 k10 vi vr vm vu vn vg (.ref px) (.ref qx) vs (.bool false) vf), (qx, instObj 117 qd), (qd, queueD w i0 i1 (.int room r0) (.bytes H b0))]) led fr) (hap : Apart fr ([(sn, instObj 371 sd), (sd, sendD w k0 k1 k2 k3 k4 k5 k6 k7 k8 k9 k10 vi vr vm vu vn vg (.ref px) (.ref qx) vs (.bool false) vf), (qx, instObj 117 qd), (qd, queueD w i0 i1 (.int room r0) (.bytes H b0))])) (hds : Dist ([(sn, instObj 371 sd), (sd, sendD w k0 k1 k2 k3 k4 k5 k6 k7 k8 k9 k10 vi vr vm vu vn vg (.ref px) (.ref qx) vs (.bool false) vf), (qx, instObj 117 qd), (qd, queueD w i0 i1 (.int room r0) (.bytes H b0))]))
    (hpre0 : (H.size : Int) + (O.size : Int) ≤ room) (hpre1 : room ≤ 1000)
    (hd : dp + 4 < recursionLimit) (hu : un + 40 < cLine)
    (ret : ∀ (r : Int) (tr b0' : Tok) (h' : Heap) (tk' : Nat), r = (O.size : Int) → Fr h₀ L h' m → News h₀ L h' ([(sn, instObj 371 sd), (sd, sendD w k0 k1 k2 k3 k4 k5 k6 k7 k8 k9 k10 vi vr vm vu vn vg (.ref px) (.ref qx) vs (.bool false) vf), (qx, instObj 117 qd), (qd, queueD w i0 i1 (.int room r0) (.bytes (H ++ O) b0'))] ++ fr) → Q (.int r tr) { s with heap := h', toks := tk' }) :
    wpAny (model PySem.Challenge.rw_pf0400_01.row.prog w) (ktrTop dp un gd cn cs L a ccd cl outer) (call (.ref 220) [.ref sn, .bytes O bt]) Q E s := by
  have N0 := hps.news N
  simp only [Dist, NeAll, and_true] at hds
  obtain ⟨⟨q0_1, q0_2, q0_3⟩, ⟨q1_2, q1_3⟩, q2_3⟩ := hds
  replace q0_1 := Nq.mk q0_1
  replace q0_2 := Nq.mk q0_2
  replace q0_3 := Nq.mk q0_3
  replace q1_2 := Nq.mk q1_2
  replace q1_3 := Nq.mk q1_3
  replace q2_3 := Nq.mk q2_3
  revert X
  k_fill
  intro X
  refine wpAny_call ?_
  refine' code_fr B F X N0 T ?kA ?kF ?kK ?k6 ?k7 ?k8 ?k9 ?kB hap.out ?_ ?c2 ?c3 ?c4 ?c5
  case kA => exact rfl
  case kF => exact rfl
  case kK => assumption
  case k6 => k_is
  case k7 => k_is
  case k8 => ktr_room
  case k9 => exact BindsTo.of_eq rfl
  case kB => exact locs rfl
  case c2 => exact rfl
  case c3 => exact rfl
  case c4 => exact rfl
  case c5 => decide
  intro g' L' h' FG' F' N' B' X' T' hfr hlt
  clear N
  (try k_lt hlt); (try dsimp only); (try k_lift B'); (try k_fold)

  k_steps
  all_goals (refine' ret _ _ _ _ _ ?rP0 ?rF ?rN; (case rF => assumption); (case rN => (refine' news_subs (fr_back N0 hfr ?ra ?rb) ?rc; (case ra => assumption); (case rb => assumption); (case rc => (try simp only [List.cons_append, List.nil_append]); k_mem))); (case rP0 => omega ))
end

theorem plus_mod {i n k r : Int} (hr : 0 < r) : ((i + n).fmod r + k).fmod r = (i + (n + k)).fmod r := by
  rw [Int.fmod_eq_emod_of_nonneg _ (by omega), Int.fmod_eq_emod_of_nonneg _ (by omega), Int.fmod_eq_emod_of_nonneg _ (by omega), Int.emod_add_emod, Int.add_assoc]
theorem gap_mod {i x y r : Int} (h0 : y - x < r) (h1 : -r < y - x) : ((i + y).fmod r - (i + x).fmod r).fmod r = if x ≤ y then y - x else y - x + r := by
  have hr : 0 < r := by omega
  rw [Int.fmod_eq_emod_of_nonneg _ (by omega), Int.fmod_eq_emod_of_nonneg _ (by omega), Int.fmod_eq_emod_of_nonneg _ (by omega), ← Int.sub_emod, show i + y - (i + x) = y - x by omega]
  split
  · exact Int.emod_eq_of_lt (by omega) h0
  · rw [← Int.add_emod_right]; exact Int.emod_eq_of_lt (by omega) (by omega)
section
variable {prog : Program} {w : World} {A : Around} {E : Value → Shared → Prop} {s : Shared}
theorem mod_plus {i n k r : Int} {t u : Tok} {Q : Value → Shared → Prop} (hr : 0 < r) (h : Q (.int ((i + (n + k)).fmod r) s.toks) { s with toks := s.toks + 1 }) : wpAny (model prog w) A (binaryOp .Mod (.int ((i + n).fmod r + k) t) (.int r u)) Q E s :=
  mod_int' (by omega) (by rw [plus_mod hr]; exact h)
theorem mod_gap {i x y r : Int} {t u : Tok} {Q : Value → Shared → Prop} (h0 : y - x < r) (h1 : -r < y - x) (h : Q (.int (if x ≤ y then y - x else y - x + r) s.toks) { s with toks := s.toks + 1 }) : wpAny (model prog w) A (binaryOp .Mod (.int ((i + y).fmod r - (i + x).fmod r) t) (.int r u)) Q E s :=
  mod_int' (by omega) (by rw [gap_mod h0 h1]; exact h)
end
section
local macro_rules | `(tactic| walk_at "zz none") => `(tactic| skip)
local macro_rules | `(tactic| walk_at "binaryOp Mod int int") => `(tactic| (k_here; first | (with_reducible refine mod_plus ?f0 ?_; (case f0 => omega)) | (with_reducible refine mod_gap ?f0 ?f1 ?_; (case f0 => omega); (case f1 => omega))))
set_option maxHeartbeats 8000000 in
theorem go_on_ok {w : World} {mean : ExcName → Option Value} {mg mb : Str → Option Value} {dp un : Nat} {gd : Option (List Code)} {cn : Str} {cs : Scope} {a : Addr} {ccd : Value} {cl : List (Str × Addr)} {outer : List Env} {A₀ : Around} {base h₀ : Heap} {L : Addr} {m : Str → Option Value} {s : Shared} {Q E : Value → Shared → Prop} {fr led : List (Addr × Obj)}
    {sn sd px qx : Addr} {k0 k1 k2 k3 k4 k5 k6 k7 k8 k9 k10 t0 t1 t2 t3 t4 t5 : Tok} {iss ring mss u n g : Int} {syn fa fs : Bool} {many : Int} {tm : Tok}
    (B : Below A₀ base outer h₀) (F : Fr h₀ L s.heap m) (X : (Mine.hd.heap_39 w.params).In h₀) (N : News h₀ L s.heap led) (T : Top Mine.hd.view_39 (looseW Mine.hd.view_39 [Str.ofString "Sender"]) mean mg mb h₀) (hk : cs.kind = .function)
    (hps : Picks ([(sn, instObj 371 sd), (sd, sendA w k0 k1 k2 k3 k4 k5 k6 k7 k8 k9 k10 t0 t1 t2 t3 t4 t5 iss ring mss u n g px qx syn fa fs)]) led fr) (hap : Apart fr ([(sn, instObj 371 sd), (sd, sendA w k0 k1 k2 k3 k4 k5 k6 k7 k8 k9 k10 t0 t1 t2 t3 t4 t5 iss ring mss u n g px qx syn fa fs)])) (hds : Dist ([(sn, instObj 371 sd), (sd, sendA w k0 k1 k2 k3 k4 k5 k6 k7 k8 k9 k10 t0 t1 t2 t3 t4 t5 iss ring mss u n g px qx syn fa fs)]))
    (hpre0 : 64 ≤ ring) (hpre1 : -31 ≤ n + many - g) (hpre2 : n + many - g ≤ 31)
    (hd : dp + 4 < recursionLimit) (hu : un + 40 < cLine)
    (ret : ∀ (g' : Int) (t4' t5' : Tok) (h' : Heap) (tk' : Nat), g' = max g (n + many) → Fr h₀ L h' m → News h₀ L h' ([(sn, instObj 371 sd), (sd, sendA w k0 k1 k2 k3 k4 k5 k6 k7 k8 k9 k10 t0 t1 t2 t3 t4' t5' iss ring mss u (n + many) g' px qx syn fa fs)] ++ fr) → Q (.none) { s with heap := h', toks := tk' }) :
    wpAny (model PySem.Challenge.rw_pf0400_01.row.prog w) (ktrTop dp un gd cn cs L a ccd cl outer) (call (.ref 283) [.ref sn, .int many tm]) Q E s := by
  have N0 := hps.news N
  simp only [Dist, NeAll, and_true] at hds
  have q0_1 := hds
  replace q0_1 := Nq.mk q0_1
  revert X
  k_fill
  intro X
  refine wpAny_call ?_
  refine' code_fr B F X N0 T ?kA ?kF ?kK ?k6 ?k7 ?k8 ?k9 ?kB hap.out ?_ ?c2 ?c3 ?c4 ?c5
  case kA => exact rfl
  case kF => exact rfl
  case kK => assumption
  case k6 => k_is
  case k7 => k_is
  case k8 => ktr_room
  case k9 => exact BindsTo.of_eq rfl
  case kB => exact locs rfl
  case c2 => exact rfl
  case c3 => exact rfl
  case c4 => exact rfl
  case c5 => decide
  intro g' L' h' FG' F' N' B' X' T' hfr hlt
  clear N
  (try k_lt hlt); (try dsimp only); (try k_lift B'); (try k_fold)

  k_steps
  all_goals (refine' ret _ _ _ _ _ ?rP0 ?rF ?rN; (case rF => assumption); (case rN => (refine' news_subs (fr_back N0 hfr ?ra ?rb) ?rc; (case ra => assumption); (case rb => assumption); (case rc => (try simp only [List.cons_append, List.nil_append]); k_mem))); (case rP0 => ((with_reducible rename (@Eq Bool (ite _ _ _) _) => hq9); (repeat' split at hq9) <;> (simp only [decide_eq_true_eq, decide_eq_false_iff_not] at hq9) <;> omega)))
end
section
variable {prog : Program} {w : World} {A : Around} {E : Value → Shared → Prop} {s : Shared}
theorem mod_small {a r : Int} {t u : Tok} {Q : Value → Shared → Prop} (h0 : 0 ≤ a) (h1 : a < r) (h : Q (.int a s.toks) { s with toks := s.toks + 1 }) : wpAny (model prog w) A (binaryOp .Mod (.int a t) (.int r u)) Q E s :=
  mod_int' (by omega) (by rw [Int.fmod_eq_emod_of_nonneg _ (by omega), Int.emod_eq_of_lt h0 h1]; exact h)
end
section
set_option maxHeartbeats 8000000 in
theorem peer_take0 {w : World} {mean : ExcName → Option Value} {mg mb : Str → Option Value} {dp un : Nat} {gd : Option (List Code)} {cn : Str} {cs : Scope} {a : Addr} {ccd : Value} {cl : List (Str × Addr)} {outer : List Env} {A₀ : Around} {base h₀ : Heap} {L : Addr} {m : Str → Option Value} {s : Shared} {Q E : Value → Shared → Prop} {fr led : List (Addr × Obj)}
    {px pd : Addr} {j0 j1 j2 j3 j4 v0 v1 v2 : Tok} {ring wnd most sv av sz : Int} {ackV : Value} {ts ta tz : Tok}
    (B : Below A₀ base outer h₀) (F : Fr h₀ L s.heap m) (X : (Mine.hd.heap_39 w.params).In h₀) (N : News h₀ L s.heap led) (T : Top Mine.hd.view_39 (looseW Mine.hd.view_39 [Str.ofString "Sender"]) mean mg mb h₀) (hk : cs.kind = .function)
    (hps : Picks ([(px, instObj 180 pd), (pd, peerD w j0 j1 j2 j3 j4 (.int ring v0) (.int wnd v1) (.int most v2) .none ackV)]) led fr) (hap : Apart fr ([(px, instObj 180 pd), (pd, peerD w j0 j1 j2 j3 j4 (.int ring v0) (.int wnd v1) (.int most v2) .none ackV)])) (hds : Dist ([(px, instObj 180 pd), (pd, peerD w j0 j1 j2 j3 j4 (.int ring v0) (.int wnd v1) (.int most v2) .none ackV)]))
    
    (hd : dp + 3 < recursionLimit) (hu : un + 30 < cLine)
    (ret : ∀ (mo' : Int) (v1' v2' v3' v4' : Tok) (h' : Heap) (tk' : Nat), mo' = max most sz → Fr h₀ L h' m → News h₀ L h' ([(px, instObj 180 pd), (pd, peerD w j0 j1 j2 j3 j4 (.int ring v0) (.int sz v1') (.int mo' v2') (.int sv v3') (.int av v4'))] ++ fr) → Q (.bool true) { s with heap := h', toks := tk' }) :
    wpAny (model PySem.Challenge.rw_pf0400_01.row.prog w) (ktrTop dp un gd cn cs L a ccd cl outer) (call (.ref 177) [.ref px, .int sv ts, .int av ta, .int sz tz]) Q E s := by
  have N0 := hps.news N
  simp only [Dist, NeAll, and_true] at hds
  have q0_1 := hds
  replace q0_1 := Nq.mk q0_1
  revert X
  k_fill
  intro X
  refine wpAny_call ?_
  refine' code_fr B F X N0 T ?kA ?kF ?kK ?k6 ?k7 ?k8 ?k9 ?kB hap.out ?_ ?c2 ?c3 ?c4 ?c5
  case kA => exact rfl
  case kF => exact rfl
  case kK => assumption
  case k6 => k_is
  case k7 => k_is
  case k8 => ktr_room
  case k9 => exact BindsTo.of_eq rfl
  case kB => exact locs rfl
  case c2 => exact rfl
  case c3 => exact rfl
  case c4 => exact rfl
  case c5 => decide
  intro g' L' h' FG' F' N' B' X' T' hfr hlt
  clear N
  (try k_lt hlt); (try dsimp only); (try k_lift B'); (try k_fold)

  k_steps
  all_goals (refine' ret _ _ _ _ _ _ _ ?rP0 ?rF ?rN; (case rF => assumption); (case rN => (refine' news_subs (fr_back N0 hfr ?ra ?rb) ?rc; (case ra => assumption); (case rb => assumption); (case rc => (try simp only [List.cons_append, List.nil_append]); k_mem))); (case rP0 => omega ))
end
section
local macro_rules | `(tactic| walk_at "binaryOp Mod int int") => `(tactic| (k_here; (with_reducible refine mod_small ?f0 ?f1 ?_; (case f0 => omega); (case f1 => omega))))
set_option maxHeartbeats 8000000 in
theorem peer_take_up {w : World} {mean : ExcName → Option Value} {mg mb : Str → Option Value} {dp un : Nat} {gd : Option (List Code)} {cn : Str} {cs : Scope} {a : Addr} {ccd : Value} {cl : List (Str × Addr)} {outer : List Env} {A₀ : Around} {base h₀ : Heap} {L : Addr} {m : Str → Option Value} {s : Shared} {Q E : Value → Shared → Prop} {fr led : List (Addr × Obj)}
    {px pd : Addr} {j0 j1 j2 j3 j4 v0 v1 v2 v3 v4 : Tok} {ring wnd most s0 a0 sv av sz : Int} {ts ta tz : Tok}
    (B : Below A₀ base outer h₀) (F : Fr h₀ L s.heap m) (X : (Mine.hd.heap_39 w.params).In h₀) (N : News h₀ L s.heap led) (T : Top Mine.hd.view_39 (looseW Mine.hd.view_39 [Str.ofString "Sender"]) mean mg mb h₀) (hk : cs.kind = .function)
    (hps : Picks ([(px, instObj 180 pd), (pd, peerD w j0 j1 j2 j3 j4 (.int ring v0) (.int wnd v1) (.int most v2) (.int s0 v3) (.int a0 v4))]) led fr) (hap : Apart fr ([(px, instObj 180 pd), (pd, peerD w j0 j1 j2 j3 j4 (.int ring v0) (.int wnd v1) (.int most v2) (.int s0 v3) (.int a0 v4))])) (hds : Dist ([(px, instObj 180 pd), (pd, peerD w j0 j1 j2 j3 j4 (.int ring v0) (.int wnd v1) (.int most v2) (.int s0 v3) (.int a0 v4))]))
    (hpre0 : 0 < sv - s0) (hpre1 : 2 * (sv - s0) + 2 ≤ ring)
    (hd : dp + 4 < recursionLimit) (hu : un + 40 < cLine)
    (ret : ∀ (mo' : Int) (v1' v2' v3' v4' : Tok) (h' : Heap) (tk' : Nat), mo' = max most sz → Fr h₀ L h' m → News h₀ L h' ([(px, instObj 180 pd), (pd, peerD w j0 j1 j2 j3 j4 (.int ring v0) (.int sz v1') (.int mo' v2') (.int sv v3') (.int av v4'))] ++ fr) → Q (.bool true) { s with heap := h', toks := tk' }) :
    wpAny (model PySem.Challenge.rw_pf0400_01.row.prog w) (ktrTop dp un gd cn cs L a ccd cl outer) (call (.ref 177) [.ref px, .int sv ts, .int av ta, .int sz tz]) Q E s := by
  have N0 := hps.news N
  simp only [Dist, NeAll, and_true] at hds
  have q0_1 := hds
  replace q0_1 := Nq.mk q0_1
  revert X
  k_fill
  intro X
  refine wpAny_call ?_
  refine' code_fr B F X N0 T ?kA ?kF ?kK ?k6 ?k7 ?k8 ?k9 ?kB hap.out ?_ ?c2 ?c3 ?c4 ?c5
  case kA => exact rfl
  case kF => exact rfl
  case kK => assumption
  case k6 => k_is
  case k7 => k_is
  case k8 => ktr_room
  case k9 => exact BindsTo.of_eq rfl
  case kB => exact locs rfl
  case c2 => exact rfl
  case c3 => exact rfl
  case c4 => exact rfl
  case c5 => decide
  intro g' L' h' FG' F' N' B' X' T' hfr hlt
  clear N
  (try k_lt hlt); (try dsimp only); (try k_lift B'); (try k_fold)

  k_steps
  all_goals (try (exfalso; omega))
  all_goals (refine' ret _ _ _ _ _ _ _ ?rP0 ?rF ?rN; (case rF => assumption); (case rN => (refine' news_subs (fr_back N0 hfr ?ra ?rb) ?rc; (case ra => assumption); (case rb => assumption); (case rc => (try simp only [List.cons_append, List.nil_append]); k_mem))); (case rP0 => omega ))
end
section
local macro_rules | `(tactic| walk_at "zz none") => `(tactic| skip)
local macro_rules | `(tactic| walk_at "binaryOp Mod int int") => `(tactic| (k_here; (with_reducible refine mod_gap ?f0 ?f1 ?_; (case f0 => omega); (case f1 => omega))))
set_option maxHeartbeats 8000000 in
theorem peer_take1 {w : World} {mean : ExcName → Option Value} {mg mb : Str → Option Value} {dp un : Nat} {gd : Option (List Code)} {cn : Str} {cs : Scope} {a : Addr} {ccd : Value} {cl : List (Str × Addr)} {outer : List Env} {A₀ : Around} {base h₀ : Heap} {L : Addr} {m : Str → Option Value} {s : Shared} {Q E : Value → Shared → Prop} {fr led : List (Addr × Obj)}
    {px pd : Addr} {j0 j1 j2 j3 j4 v0 v1 v2 v3 v4 : Tok} {ring wnd most bb q cc k q' k' sz : Int} {ts ta tz : Tok}
    (B : Below A₀ base outer h₀) (F : Fr h₀ L s.heap m) (X : (Mine.hd.heap_39 w.params).In h₀) (N : News h₀ L s.heap led) (T : Top Mine.hd.view_39 (looseW Mine.hd.view_39 [Str.ofString "Sender"]) mean mg mb h₀) (hk : cs.kind = .function)
    (hps : Picks ([(px, instObj 180 pd), (pd, peerD w j0 j1 j2 j3 j4 (.int ring v0) (.int wnd v1) (.int most v2) (.int ((bb + q).fmod ring) v3) (.int ((cc + k).fmod ring) v4))]) led fr) (hap : Apart fr ([(px, instObj 180 pd), (pd, peerD w j0 j1 j2 j3 j4 (.int ring v0) (.int wnd v1) (.int most v2) (.int ((bb + q).fmod ring) v3) (.int ((cc + k).fmod ring) v4))])) (hds : Dist ([(px, instObj 180 pd), (pd, peerD w j0 j1 j2 j3 j4 (.int ring v0) (.int wnd v1) (.int most v2) (.int ((bb + q).fmod ring) v3) (.int ((cc + k).fmod ring) v4))]))
    (hpre0 : 0 < ring) (hpre1 : 2 * (q' - q) + 2 ≤ ring) (hpre2 : - ring ≤ 2 * (q' - q)) (hpre3 : 2 * (k' - k) + 2 ≤ ring) (hpre4 : - ring ≤ 2 * (k' - k))
    (hd : dp + 4 < recursionLimit) (hu : un + 40 < cLine)
    (ret : ∀ (q2 k2 sz2 mo2 : Int) (v1' v2' v3' v4' : Tok) (h' : Heap) (tk' : Nat), ((q < q' ∨ (q = q' ∧ k ≤ k')) → q2 = q' ∧ k2 = k' ∧ sz2 = sz ∧ mo2 = max most sz) → (¬ (q < q' ∨ (q = q' ∧ k ≤ k')) → q2 = q ∧ k2 = k ∧ sz2 = wnd ∧ mo2 = most) → Fr h₀ L h' m → News h₀ L h' ([(px, instObj 180 pd), (pd, peerD w j0 j1 j2 j3 j4 (.int ring v0) (.int sz2 v1') (.int mo2 v2') (.int ((bb + q2).fmod ring) v3') (.int ((cc + k2).fmod ring) v4'))] ++ fr) → Q (.bool (decide (q < q' ∨ (q = q' ∧ k ≤ k')))) { s with heap := h', toks := tk' }) :
    wpAny (model PySem.Challenge.rw_pf0400_01.row.prog w) (ktrTop dp un gd cn cs L a ccd cl outer) (call (.ref 177) [.ref px, .int ((bb + q').fmod ring) ts, .int ((cc + k').fmod ring) ta, .int sz tz]) Q E s := by
  have N0 := hps.news N
  simp only [Dist, NeAll, and_true] at hds
  have q0_1 := hds
  replace q0_1 := Nq.mk q0_1
  revert X
  k_fill
  intro X
  refine wpAny_call ?_
  refine' code_fr B F X N0 T ?kA ?kF ?kK ?k6 ?k7 ?k8 ?k9 ?kB hap.out ?_ ?c2 ?c3 ?c4 ?c5
  case kA => exact rfl
  case kF => exact rfl
  case kK => assumption
  case k6 => k_is
  case k7 => k_is
  case k8 => ktr_room
  case k9 => exact BindsTo.of_eq rfl
  case kB => exact locs rfl
  case c2 => exact rfl
  case c3 => exact rfl
  case c4 => exact rfl
  case c5 => decide
  intro g' L' h' FG' F' N' B' X' T' hfr hlt
  clear N
  (try k_lt hlt); (try dsimp only); (try k_lift B'); (try k_fold)

  k_steps
  all_goals first | rw [decide_eq_true (p := (q < q' ∨ (q = q' ∧ k ≤ k'))) (by omega)] at ret | rw [decide_eq_false (p := (q < q' ∨ (q = q' ∧ k ≤ k'))) (by omega)] at ret
  all_goals (refine' ret _ _ _ _ _ _ _ _ _ _ ?rP0 ?rP1 ?rF ?rN; (case rF => assumption); (case rN => (refine' news_subs (fr_back N0 hfr ?ra ?rb) ?rc; (case ra => assumption); (case rb => assumption); (case rc => (try simp only [List.cons_append, List.nil_append]); k_mem))); (case rP0 => first | exact fun _ => ⟨rfl, rfl, rfl, by omega⟩ | exact fun _ => ⟨rfl, rfl, rfl, rfl⟩ | exact fun h => (by exfalso; omega) ); (case rP1 => first | exact fun _ => ⟨rfl, rfl, rfl, by omega⟩ | exact fun _ => ⟨rfl, rfl, rfl, rfl⟩ | exact fun h => (by exfalso; omega) ))
end

structure WS where
  (x y : Int) (t u : Tok) (sv : Value) (k sz wd : Int) (tk ts tw : Tok) (seqv ackv : Value) (v1 v2 : Tok)
abbrev winLed (w : World) (src wx wd : Addr) (n : Nat) (j0 j1 j2 j3 j4 v0 : Tok) (ring : Int) (c : WS) : List (Addr × Obj) :=
  [(src, srcO c.x c.y c.t c.u n), (wx, instObj 180 wd), (wd, peerD w j0 j1 j2 j3 j4 (.int ring v0) (.int c.sz c.v1) (.int c.wd c.v2) c.seqv c.ackv)]
abbrev winPs (c : WS) : List (Str × Value) := [(Str.ofString "seq", c.sv), (Str.ofString "ack", .int c.k c.tk), (Str.ofString "size", .int c.sz c.ts), (Str.ofString "widest", .int c.wd c.tw)]
def winF (ring bg fi : Int) (c : WS) : Prop := 0 ≤ c.x ∧ 0 ≤ c.y ∧ c.y < 2147483647 ∧ ((c.sv = .none ∧ c.seqv = .none) ∨ ∃ q tq v3 v4, c.sv = .int q tq ∧ c.seqv = .int ((bg + q).fmod ring) v3 ∧ c.ackv = .int ((fi + c.k).fmod ring) v4)
abbrev winSt : List Str := [Str.ofString "far", Str.ofString "near", Str.ofString "told", Str.ofString "is_newer"]
section
variable {prog : Program} {w : World} {A : Around} {E : Value → Shared → Prop} {s : Shared} {env : Env} {h₀ : Heap} {body : List Stmt} {Q : Flow → Shared → Prop}
def winR (w : World) (src wx wd : Addr) (n : Nat) (j0 j1 j2 j3 j4 v0 : Tok) (ring bg fi : Int) (m₀ : Str → Option Value) (pre : List Int) := KstS (winLed w src wx wd n j0 j1 j2 j3 j4 v0 ring) winPs (winF ring bg fi) (Str.ofString "turn") winSt m₀ (fun _ _ => True) pre
theorem win_loop {r : Addr} {a₀ b₀ : Int} {t₀ u₀ w₀ : Tok} {m : Nat} {m₀ : Str → Option Value} {led : List (Addr × Obj)} {src wx wd : Addr} {n : Nat} {j0 j1 j2 j3 j4 v0 v1 v2 v4 : Tok} {ring bg fi x y : Int} {t u tk ts tw tr tb tf : Tok}
    (hh : A.handled = none) (hr : IsRange s.heap r a₀ b₀ 1 t₀ u₀ w₀) (hsmall : Builtin.Range.small a₀ b₀ 1 = true) (hn : Builtin.Range.rangeSize a₀ b₀ 1 = (m : Int)) (F : Fr h₀ env.locals s.heap m₀) (N : News h₀ env.locals s.heap led)
    (hs : Subs led [(src, srcO x y t u n), (wx, instObj 180 wd), (wd, peerD w j0 j1 j2 j3 j4 (.int ring v0) (.int 0 v1) (.int 0 v2) .none (.int 0 v4))])
    (hx : 0 ≤ x) (hy : 0 ≤ y) (hy2 : y < 2147483647)
    (l1 : m₀ (Str.ofString "seq") = some .none) (l2 : m₀ (Str.ofString "ack") = some (.int 0 tk)) (l3 : m₀ (Str.ofString "size") = some (.int 0 ts)) (l4 : m₀ (Str.ofString "widest") = some (.int 0 tw))
    (lr : m₀ (Str.ofString "ring") = some (.int ring tr)) (lb : m₀ (Str.ofString "begin") = some (.int bg tb)) (lf : m₀ (Str.ofString "first") = some (.int fi tf))
    (turn0 : ∀ (pre : List Int) (kk : Int) (t5 : Tok) (g : Str → Option Value) (h : Heap) (tk : Nat) (own : List (Addr × Obj)) (x y k sz wdv : Int) (t u tk1 ts tw v1 v2 : Tok) (ackv : Value), AllNq src own → AllNq wx own → AllNq wd own → 0 ≤ x → 0 ≤ y → y < 2147483647 →
      Fr h₀ env.locals h (fun z => if z = Str.ofString "turn" then some (.int kk t5) else if z = Str.ofString "seq" then some .none else if z = Str.ofString "ack" then some (.int k tk1) else if z = Str.ofString "size" then some (.int sz ts) else if z = Str.ofString "widest" then some (.int wdv tw) else if winSt.contains z then g z else m₀ z) →
      News h₀ env.locals h ((src, srcO x y t u n) :: (wx, instObj 180 wd) :: (wd, peerD w j0 j1 j2 j3 j4 (.int ring v0) (.int sz v1) (.int wdv v2) .none ackv) :: own) →
      wpAny (model prog w) A (execs body env) (InvPostN h₀ env.locals (winR w src wx wd n j0 j1 j2 j3 j4 v0 ring bg fi m₀ (pre ++ [kk])) own [src, wx, wd] { s with heap := h, toks := tk } Q) E { s with heap := h, toks := tk })
    (turn1 : ∀ (pre : List Int) (kk : Int) (t5 : Tok) (g : Str → Option Value) (h : Heap) (tk : Nat) (own : List (Addr × Obj)) (x y q k sz wdv : Int) (t u tq tk1 ts tw v1 v2 v3 v4 : Tok), AllNq src own → AllNq wx own → AllNq wd own → 0 ≤ x → 0 ≤ y → y < 2147483647 →
      Fr h₀ env.locals h (fun z => if z = Str.ofString "turn" then some (.int kk t5) else if z = Str.ofString "seq" then some (.int q tq) else if z = Str.ofString "ack" then some (.int k tk1) else if z = Str.ofString "size" then some (.int sz ts) else if z = Str.ofString "widest" then some (.int wdv tw) else if winSt.contains z then g z else m₀ z) →
      News h₀ env.locals h ((src, srcO x y t u n) :: (wx, instObj 180 wd) :: (wd, peerD w j0 j1 j2 j3 j4 (.int ring v0) (.int sz v1) (.int wdv v2) (.int ((bg + q).fmod ring) v3) (.int ((fi + k).fmod ring) v4)) :: own) →
      wpAny (model prog w) A (execs body env) (InvPostN h₀ env.locals (winR w src wx wd n j0 j1 j2 j3 j4 v0 ring bg fi m₀ (pre ++ [kk])) own [src, wx, wd] { s with heap := h, toks := tk } Q) E { s with heap := h, toks := tk })
    (done : ∀ (g : Str → Option Value) (h : Heap) (tk : Nat) (x y : Int) (t u : Tok), 0 ≤ x → 0 ≤ y → y < 2147483647 → Fr h₀ env.locals h g → News h₀ env.locals h [(src, srcO x y t u n)] → Q .next { s with heap := h, toks := tk }) :
    wpAny (model prog w) A (pyIter (.ref r)) (fun it s₂ => LoopAtV prog w A h₀ env (Str.ofString "turn") body Q E it s₂) E s := by
  refine kst_range (winLed w src wx wd n j0 j1 j2 j3 j4 v0 ring) winPs (winF ring bg fi) winSt (fun _ _ => True) ⟨x, y, t, u, .none, 0, 0, 0, tk, ts, tw, .none, .int 0 v4, v1, v2⟩ hh hr hsmall hn F (news_subs N hs) ⟨hx, hy, hy2, .inl ⟨rfl, rfl⟩⟩ ?_ trivial ?_ ?_
  · intro p hp
    simp only [List.mem_cons, List.not_mem_nil, or_false] at hp
    rcases hp with rfl | rfl | rfl | rfl
    · exact l1
    · exact l2
    · exact l3
    · exact l4
  · rintro ⟨x, y, t, u, sv, k, sz, wdv, tk1, ts, tw, seqv, ackv, v1, v2⟩ pre kk t5 g h tk own _ _ hoff ⟨f1, f2, f3, f4⟩ _ F' N'
    have o1 : AllNq src own := ownNq hoff (.head _)
    have o2 : AllNq wx own := ownNq hoff (.tail _ (.head _))
    have o3 : AllNq wd own := ownNq hoff (.tail _ (.tail _ (.head _)))
    rcases f4 with ⟨e1, e2⟩ | ⟨q, tq, v3, v4, e1, e2, e3⟩
    · dsimp only at e1 e2
      subst e1 e2
      exact turn0 pre kk t5 g h tk own x y k sz wdv t u tk1 ts tw v1 v2 ackv o1 o2 o3 f1 f2 f3 F' N'
    · dsimp only at e1 e2 e3
      subst e1 e2 e3
      exact turn1 pre kk t5 g h tk own x y q k sz wdv t u tq tk1 ts tw v1 v2 v3 v4 o1 o2 o3 f1 f2 f3 F' N'
  · rintro ⟨x, y, t, u, sv, k, sz, wdv, tk1, ts, tw, seqv, ackv, v1, v2⟩ g h tk ⟨f1, f2, f3, _⟩ _ F' N'
    exact done _ h tk x y t u f1 f2 f3 F' (news_sub N' fun p hp => by rw [List.mem_singleton.mp hp]; exact .head _)
theorem win_end {L : Addr} {src wx wd : Addr} {n : Nat} {j0 j1 j2 j3 j4 v0 v1 v2 v3 v4 : Tok} {ring bg fi x y q k sz wdv qn kn szn wdn : Int} {t u tq tk1 ts tw : Tok} {m₀ m' : Str → Option Value} {pre : List Int} {own news' : List (Addr × Obj)} {s₁ : Shared} {h' : Heap} {tk : Nat}
    (F : Fr h₀ L h' m') (N : News h₀ L h' news') (hs : Subs news' ([(src, srcO x y t u n), (wx, instObj 180 wd), (wd, peerD w j0 j1 j2 j3 j4 (.int ring v0) (.int sz v1) (.int wdv v2) (.int ((bg + q).fmod ring) v3) (.int ((fi + k).fmod ring) v4))] ++ own))
    (l1 : m' (Str.ofString "seq") = some (.int qn tq)) (l2 : m' (Str.ofString "ack") = some (.int kn tk1)) (l3 : m' (Str.ofString "size") = some (.int szn ts)) (l4 : m' (Str.ofString "widest") = some (.int wdn tw))
    (e1 : qn = q) (e2 : kn = k) (e3 : szn = sz) (e4 : wdn = wdv)
    (hx : 0 ≤ x) (hy : 0 ≤ y) (hy2 : y < 2147483647)
    (hr : ∀ z, z ≠ Str.ofString "turn" → z ≠ Str.ofString "seq" → z ≠ Str.ofString "ack" → z ≠ Str.ofString "size" → z ≠ Str.ofString "widest" → z ≠ Str.ofString "far" → z ≠ Str.ofString "near" → z ≠ Str.ofString "told" → z ≠ Str.ofString "is_newer" → winSt.contains z = false → m' z = m₀ z) :
    InvEndN h₀ L (winR w src wx wd n j0 j1 j2 j3 j4 v0 ring bg fi m₀ pre) own [src, wx, wd] s₁ { s₁ with heap := h', toks := tk } := by
  subst e1 e2 e3 e4
  have sub1 := fun p hp => hs p (List.mem_append_left own hp)
  have sub2 := fun p hp => hs p (List.mem_append_right _ hp)
  refine kst_end (ps := winPs) ⟨x, y, t, u, .int qn tq, kn, szn, wdn, tk1, ts, tw, .int ((bg + qn).fmod ring) v3, .int ((fi + kn).fmod ring) v4, v1, v2⟩ F N sub1 sub2 rfl ⟨hx, hy, hy2, .inr ⟨qn, tq, v3, v4, rfl, rfl, rfl⟩⟩ ?_ ?_ trivial
  · intro p hp
    simp only [List.mem_cons, List.not_mem_nil, or_false] at hp
    rcases hp with rfl | rfl | rfl | rfl
    · exact l1
    · exact l2
    · exact l3
    · exact l4
  · intro z h1 h2 h3
    have e : ∀ {a : Str}, a ∈ winSt → z ≠ a := fun {a} ha e => by
      subst e
      rw [List.contains_iff_mem.mpr ha] at h3
      cases h3
    exact hr z h1 (h2 _ (.head _)) (h2 _ (.tail _ (.head _))) (h2 _ (.tail _ (.tail _ (.head _)))) (h2 _ (.tail _ (.tail _ (.tail _ (.head _))))) (e (.head _)) (e (.tail _ (.head _))) (e (.tail _ (.tail _ (.head _)))) (e (.tail _ (.tail _ (.tail _ (.head _))))) h3
end

section
local macro_rules | `(tactic| walk_at "call ref") => `(tactic| (k_here; k_dflt (refine' take_ok ?zB ?zF ?zX ?zN ?zT ?zhk ?zhp ?zap ?za1 ?za2 ?za3 ?za4 ?za5 ?zhd ?zhu ?_; (case zB => k_asm); (case zF => k_asm); (case zX => k_asm); (case zN => k_asm); (case zT => k_asm); (case zhk => first | exact rfl | assumption); (case zhp => k_mem); (case zap => k_all); (case za1 => omega); (case za2 => omega); (case za3 => omega); (case za4 => omega); (case za5 => omega); (case zhd => ktr_room); (case zhu => ktr_units)); intro d' td' x' y' t' u' h' tk' hd0' hd1' hx' hy' hz' F' N'; (try simp only [List.mem_cons, List.not_mem_nil, or_false, Int.reduceToNat, Int.reducePow] at hi'); (try simp only [List.cons_append, List.nil_append] at N'); (try dsimp only); (try k_sweep)))
local macro_rules | `(tactic| walk_at "call ref") => `(tactic| (k_here; k_dflt (refine' one_int ?zB ?zF ?zX ?zN ?zT ?zhk ?zhp ?zhp2 ?zhne ?zap ?zhi ?za1 ?za2 ?za3 ?za4 ?za5 ?zhd ?zhu ?_; (case zB => k_asm); (case zF => k_asm); (case zX => k_asm); (case zN => k_asm); (case zT => k_asm); (case zhk => first | exact rfl | assumption); (case zhp => k_mem); (case zhp2 => k_mem); (case zhne => k_ne); (case zap => k_all); (case zhi => first | exact (IntsAre.cons _ _ (IntsAre.cons _ _ (IntsAre.cons _ _ IntsAre.nil))) | exact (IntsAre.cons _ _ (IntsAre.cons _ _ (IntsAre.cons _ _ (IntsAre.cons _ _ IntsAre.nil)))) | exact (IntsAre.cons _ _ (IntsAre.cons _ _ (IntsAre.cons _ _ (IntsAre.cons _ _ (IntsAre.cons _ _ IntsAre.nil))))) | exact (IntsAre.cons _ _ (IntsAre.cons _ _ (IntsAre.cons _ _ (IntsAre.cons _ _ (IntsAre.cons _ _ (IntsAre.cons _ _ (IntsAre.cons _ _ IntsAre.nil)))))))); (case za1 => omega); (case za2 => omega); (case za3 => omega); (case za4 => exact Nat.le_of_ble_eq_true rfl); (case za5 => exact Nat.le_of_ble_eq_true rfl); (case zhd => ktr_room); (case zhu => ktr_units)); intro r' tr' x' y' t' u' h' tk' hi' hx' hy' hz' F' N'; (try simp only [List.mem_cons, List.not_mem_nil, or_false, Int.reduceToNat, Int.reducePow] at hi'); (try simp only [List.cons_append, List.nil_append] at N'); (try dsimp only); (try k_sweep)))
local macro_rules | `(tactic| walk_at "call ref") => `(tactic| (k_here; k_dflt (refine' peer_new ?zB ?zF ?zX ?zN ?zT ?zhk ?zhd ?zhu ?_; (case zB => k_asm); (case zF => k_asm); (case zX => k_asm); (case zN => k_asm); (case zT => k_asm); (case zhk => first | exact rfl | assumption); (case zhd => ktr_room); (case zhu => ktr_units)); intro x' d' k0' k1' k2' k3' k4' t0' t1' t2' t4' h' tk' F' N' l1' l2'; (try simp only [List.mem_cons, List.not_mem_nil, or_false, Int.reduceToNat, Int.reducePow] at hi'); (try simp only [List.cons_append, List.nil_append] at N'); (try dsimp only); (try k_sweep)))
local macro_rules | `(tactic| ktr_rel) => `(tactic| first | assumption | omega)
local macro_rules | `(tactic| walk_at "call ref") => `(tactic| (k_here; k_dflt (refine' peer_take0 ?zB ?zF ?zX ?zN ?zT ?zhk ?zhps ?zhap ?zhds ?zhd ?zhu ?_; (case zB => k_asm); (case zF => k_asm); (case zX => k_asm); (case zN => k_asm); (case zT => k_asm); (case zhk => first | exact rfl | assumption); (case zhps => k_mem); (case zhap => k_all); (case zhds => k_all); (case zhd => ktr_room); (case zhu => ktr_units)); intro mo' v1' v2' v3' v4' h' tk' p0' F' N'; (try simp only [List.mem_cons, List.not_mem_nil, or_false, Int.reduceToNat, Int.reducePow] at hi'); (try simp only [List.cons_append, List.nil_append] at N'); (try simp only [decide_eq_true_eq, decide_eq_false_iff_not] at p0'); (try dsimp only); (try k_sweep)))
local macro_rules | `(tactic| walk_at "call ref") => `(tactic| (k_here; k_dflt (refine' peer_take1 ?zB ?zF ?zX ?zN ?zT ?zhk ?zhps ?zhap ?zhds ?zhpre0 ?zhpre1 ?zhpre2 ?zhpre3 ?zhpre4 ?zhd ?zhu ?_; (case zB => k_asm); (case zF => k_asm); (case zX => k_asm); (case zN => k_asm); (case zT => k_asm); (case zhk => first | exact rfl | assumption); (case zhps => k_mem); (case zhap => k_all); (case zhds => k_all); (case zhpre0 => ktr_rel); (case zhpre1 => ktr_rel); (case zhpre2 => ktr_rel); (case zhpre3 => ktr_rel); (case zhpre4 => ktr_rel); (case zhd => ktr_room); (case zhu => ktr_units)); intro q2' k2' sz2' mo2' v1' v2' v3' v4' h' tk' p0' p1' F' N'; (try simp only [List.mem_cons, List.not_mem_nil, or_false, Int.reduceToNat, Int.reducePow] at hi'); (try simp only [List.cons_append, List.nil_append] at N'); (try simp only [decide_eq_true_eq, decide_eq_false_iff_not] at p0'); (try simp only [decide_eq_true_eq, decide_eq_false_iff_not] at p1'); (try dsimp only); (try k_sweep)))
local macro_rules | `(tactic| walk_at "pyIter ref") => `(tactic| (k_here; (with_reducible show wpAny _ _ (pyIter (Value.ref _)) (fun it s₂ => LoopAtV _ _ _ _ _ _ _ _ _ it s₂) _ _); k_dflt (refine' win_loop ?hh ?hr ?hsm ?hn ?F ?N ?hs ?hx ?hy ?hy2 ?l1 ?l2 ?l3 ?l4 ?lr ?lb ?lf (fun pre' kk' t5' g' h' tk' own' x' y' k' sz' wdv' t' u' tk1' ts' tw' v1' v2' ackv' o1' o2' o3' f1' f2' f3' F' N' => ?_) (fun pre' kk' t5' g' h' tk' own' x' y' q' k' sz' wdv' t' u' tq' tk1' ts' tw' v1' v2' v3' v4' o1' o2' o3' f1' f2' f3' F' N' => ?_) (fun g' h' tk' x' y' t' u' f1' f2' f3' F' N' => ?_); (case hh => exact rfl); (case hr => assumption); (case hsm => exact small_one (by omega) (by omega) (by omega) (by omega)); (case hn => exact rangeSize_nat _ _); (case F => k_asm); (case N => k_asm); (case hs => k_mem); (case hx => omega); (case hy => omega); (case hy2 => omega); (case l1 => exact rfl); (case l2 => exact rfl); (case l3 => exact rfl); (case l4 => exact rfl); (case lr => exact rfl); (case lb => exact rfl); (case lf => exact rfl)); (all_goals (try dsimp only [InvPostN])); (all_goals (try k_fold))))
set_option maxHeartbeats 8000000 in
theorem windows_ok {w : World} {mean : ExcName → Option Value} {mg mb : Str → Option Value} {dp un : Nat} {gd : Option (List Code)} {cn : Str} {cs : Scope} {a : Addr} {ccd : Value} {cl : List (Str × Addr)} {outer : List Env} {A₀ : Around} {base h₀ : Heap} {L : Addr} {m : Str → Option Value} {s : Shared} {Q E : Value → Shared → Prop} {fr led : List (Addr × Obj)}
    {src : Addr} {x y : Int} {t u : Tok} {n : Nat}
    (B : Below A₀ base outer h₀) (F : Fr h₀ L s.heap m) (X : (Mine.hd.heap_39 w.params).In h₀) (N : News h₀ L s.heap led) (T : Top Mine.hd.view_39 (looseW Mine.hd.view_39 [Str.ofString "Sender"]) mean mg mb h₀) (hk : cs.kind = .function)
    (hp : Pick src (srcO x y t u n) led fr) (hap : Apart fr [(src, srcO x y t u n)])
    (hx : 0 ≤ x) (hy : 0 ≤ y) (hy2 : y < 2147483647)
    (hd : dp + 10 < recursionLimit) (hu : un + 100 < cLine)
    (ret : ∀ (x' y' : Int) (t' u' : Tok) (h' : Heap) (tk' : Nat), 0 ≤ x' → 0 ≤ y' → y' < 2147483647 → Fr h₀ L h' m → News h₀ L h' ((src, srcO x' y' t' u' n) :: fr) → Q (.bool true) { s with heap := h', toks := tk' }) :
    wpAny (model PySem.Challenge.rw_pf0400_01.row.prog w) (ktrTop dp un gd cn cs L a ccd cl outer) (call (.ref 420) [.ref src]) Q E s := by
  have N0 := pick1 N hp
  revert X
  k_fill
  intro X
  refine wpAny_call ?_
  refine' code_fr B F X N0 T ?kA ?kF ?kK ?k6 ?k7 ?k8 ?k9 ?kB hap.out ?_ ?c2 ?c3 ?c4 ?c5
  case kA => exact rfl
  case kF => exact rfl
  case kK => assumption
  case k6 => k_is
  case k7 => k_is
  case k8 => ktr_room
  case k9 => exact BindsTo.of_eq rfl
  case kB => exact locs rfl
  case c2 => exact rfl
  case c3 => exact rfl
  case c4 => exact rfl
  case c5 => decide
  intro g' L' h' FG' F' N' B' X' T' hfr hlt
  clear N
  (try k_lt hlt); (try dsimp only); (try k_lift B'); (try k_fold)
  k_steps
  all_goals first
    | (refine' win_end ?F ?N ?hs ?l1 ?l2 ?l3 ?l4 ?e1 ?e2 ?e3 ?e4 ?hx ?hy ?hy2 ?hr; (case F => assumption); (case N => assumption); (case hs => ((simp only [List.cons_append, List.nil_append]); k_mem)); (case l1 => exact rfl); (case l2 => exact rfl); (case l3 => exact rfl); (case l4 => exact rfl); (case e1 => ktn_open); (case e2 => ktn_open); (case e3 => ktn_open); (case e4 => ktn_open); (case hx => assumption); (case hy => assumption); (case hy2 => assumption); (case hr => (intro z h1 h2 h3 h4 h5 h6 h7 h8 h9 hc; (try dsimp only); (repeat rw [if_neg (by assumption)]); rw [hc]; rfl)))
    | (with_reducible refine ret _ _ _ _ _ _ ?_ ?_ ?_ (by assumption) (fr_back N0 hfr (by assumption) (by assumption)) <;> assumption)
    | (exfalso; ktn_open)
end

section
set_option maxHeartbeats 8000000 in
theorem pool_ok {w : World} {mean : ExcName → Option Value} {mg mb : Str → Option Value} {dp un : Nat} {gd : Option (List Code)} {cn : Str} {cs : Scope} {a : Addr} {ccd : Value} {cl : List (Str × Addr)} {outer : List Env} {A₀ : Around} {base h₀ : Heap} {L : Addr} {m : Str → Option Value} {s : Shared} {Q E : Value → Shared → Prop} {fr led : List (Addr × Obj)}
    {l : Addr} {vs : List Value} {ns : List Int} {k : Int} {tk0 : Tok}
    (B : Below A₀ base outer h₀) (F : Fr h₀ L s.heap m) (X : (Mine.hd.heap_39 w.params).In h₀) (N : News h₀ L s.heap led) (T : Top Mine.hd.view_39 (looseW Mine.hd.view_39 [Str.ofString "Sender"]) mean mg mb h₀) (hk : cs.kind = .function)
    (hps : Picks ([]) led fr) (hap : Apart fr ([])) 
    (hpre0 : h₀.IsList l vs.toArray) (hpre1 : IntsAre vs ns) (hpre2 : ns.length ≤ 1048576) (hpre3 : 0 ≤ k) (hpre4 : k < 2)
    (hd : dp + 3 < recursionLimit) (hu : un + 30 < cLine)
    (ret : ∀ (z : Addr) (x y : Int) (t u : Tok) (h' : Heap) (tk' : Nat), 0 ≤ x → 0 ≤ y → y < 2147483647 → Fr h₀ L h' m → News h₀ L h' ((z, srcO x y t u 0) :: [] ++ fr) → Fresh ((z, srcO x y t u 0) :: []) ([] ++ fr) → Q (.ref z) { s with heap := h', toks := tk' }) :
    wpAny (model PySem.Challenge.rw_pf0400_01.row.prog w) (ktrTop dp un gd cn cs L a ccd cl outer) (call (.ref 382) [.ref l, .int k tk0]) Q E s := by
  have N0 := hps.news N
  revert X
  k_fill
  intro X
  refine wpAny_call ?_
  refine' code_fr B F X N0 T ?kA ?kF ?kK ?k6 ?k7 ?k8 ?k9 ?kB hap.out ?_ ?c2 ?c3 ?c4 ?c5
  case kA => exact rfl
  case kF => exact rfl
  case kK => assumption
  case k6 => k_is
  case k7 => k_is
  case k8 => ktr_room
  case k9 => exact BindsTo.of_eq rfl
  case kB => exact locs rfl
  case c2 => exact rfl
  case c3 => exact rfl
  case c4 => exact rfl
  case c5 => decide
  intro g' L' h' FG' F' N' B' X' T' hfr hlt
  clear N
  (try k_lt hlt); (try dsimp only); (try k_lift B'); (try k_fold)

  have hl9 := Fr.lst FG' hpre0
  k_steps
  all_goals (refine' ret _ _ _ _ _ _ _ ?rP0 ?rP1 ?rP2 ?rF ?rN ?rD; (case rF => assumption); (case rN => (refine' news_subs (fr_back N0 hfr ?ra ?rb) ?rc; (case ra => assumption); (case rb => assumption); (case rc => (try simp only [List.cons_append, List.nil_append]); k_mem))); (case rD => k_all); (case rP0 => first | exact Int.fmod_nonneg_of_pos _ (by decide) | exact Int.fmod_lt_of_pos _ (by decide) | ((repeat' split) <;> omega) ); (case rP1 => first | exact Int.fmod_nonneg_of_pos _ (by decide) | exact Int.fmod_lt_of_pos _ (by decide) | ((repeat' split) <;> omega) ); (case rP2 => first | exact Int.fmod_nonneg_of_pos _ (by decide) | exact Int.fmod_lt_of_pos _ (by decide) | ((repeat' split) <;> omega) ))
end

section
local macro_rules | `(tactic| walk_at "subscriptTail Name Constant ref str") => `(tactic| (k_here; (with_reducible show wpAny _ _ (subscriptTail _ _ (Value.ref _) (Value.str _ _)) _ _ _); (with_reducible rename StL _ _ _ _ _ _ _ => S9'); k_dflt (first | (refine' item_st_int ?N ?hm S9' ?hl (fun t' => ?_); (case N => with_reducible assumption); (case hm => k_mem); (case hl => with_reducible_and_instances k_mem); k_whole) | (refine' item_st_bool ?N ?hm S9' ?hl ?_; (case N => with_reducible assumption); (case hm => k_mem); (case hl => with_reducible_and_instances k_mem); k_whole))))
local macro_rules | `(tactic| walk_at "subscriptTail Name Name ref str") => `(tactic| (k_here; (with_reducible show wpAny _ _ (subscriptTail _ _ (Value.ref _) (Value.str _ _)) _ _ _); (with_reducible rename StL _ _ _ _ _ _ _ => S9'); k_dflt (first | (refine' item_st_int ?N ?hm S9' ?hl (fun t' => ?_); (case N => with_reducible assumption); (case hm => k_mem); (case hl => with_reducible_and_instances k_mem); k_whole) | (refine' item_st_bool ?N ?hm S9' ?hl ?_; (case N => with_reducible assumption); (case hm => k_mem); (case hl => with_reducible_and_instances k_mem); k_whole))))
local macro_rules | `(tactic| walk_at "setItem ref str") => `(tactic| (k_here; k_dflt ((first | (with_reducible rename StL _ _ _ _ _ _ _ => S9') | ((with_reducible rename Obj.IsDictOf _ _ (PySem.strPairs _) => hd9); (with_reducible rename PyProof.V.FlatPairs _ _ _ => hf9); (with_reducible rename ((_ == sysModules) = false) => lo9); (have S9' := StL.of3 lo9 hd9 hf9 (by decide +kernel) (by decide +kernel) (by decide +kernel)); clear hd9 hf9)); (first
  | (refine' set_st ?v ?F ?N ?U S9' ?n ?e ?_; (case v => k_flat); (case F => k_asm); (case N => k_asm); (case U => k_updF); (case n => decide); (case e => decide +kernel))
  | (refine' set_st ?v ?F ?N ?U S9'.tail ?n ?e ?_; (case v => k_flat); (case F => k_asm); (case N => k_asm); (case U => k_updF); (case n => decide); (case e => decide +kernel))); intro h' o' F' N' S'; clear S9'; (try dsimp only at N'); (try k_sweep))))
set_option maxHeartbeats 8000000 in
theorem left_ok {w : World} {mean : ExcName → Option Value} {mg mb : Str → Option Value} {dp un : Nat} {gd : Option (List Code)} {cn : Str} {cs : Scope} {a : Addr} {ccd : Value} {cl : List (Str × Addr)} {outer : List Env} {A₀ : Around} {base h₀ : Heap} {L : Addr} {m : Str → Option Value} {s : Shared} {Q E : Value → Shared → Prop} {fr led : List (Addr × Obj)}
    {st : Addr} {so : Obj} {ring iss mss many aq u n g wnd wide : Int}
    (B : Below A₀ base outer h₀) (F : Fr h₀ L s.heap m) (X : (Mine.hd.heap_39 w.params).In h₀) (N : News h₀ L s.heap led) (T : Top Mine.hd.view_39 (looseW Mine.hd.view_39 [Str.ofString "Sender"]) mean mg mb h₀) (hk : cs.kind = .function)
    (hps : Picks ([(st, so)]) led fr) (hap : Apart fr ([(st, so)])) 
    (hpre0 : StL PySem.Challenge.rw_pf0400_01.row.prog w st so 11 stKs (stLs ring iss mss many aq u n g wnd wide)) (hpre1 : 0 ≤ many) (hpre2 : many ≤ 20)
    (hd : dp + 3 < recursionLimit) (hu : un + 30 < cLine)
    (ret : ∀ (r : Int) (tr : Tok) (h' : Heap) (tk' : Nat), r = leftN many n u → Fr h₀ L h' m → News h₀ L h' led → Q (.int r tr) { s with heap := h', toks := tk' }) :
    wpAny (model PySem.Challenge.rw_pf0400_01.row.prog w) (ktrTop dp un gd cn cs L a ccd cl outer) (call (.ref 406) [.ref st]) Q E s := by
  have N0 := hps.news N
  revert X
  k_fill
  intro X
  refine wpAny_call ?_
  refine' code_frC B F X N0 T ?kA ?kF ?kK ?k6 ?k7 ?k8 ?k9 ?kB ?kD hap.out ?_ ?c2 ?c3 ?c4
  case kA => exact rfl
  case kF => exact rfl
  case kK => assumption
  case k6 => k_is
  case k7 => k_is
  case k8 => ktr_room
  case k9 => exact BindsTo.of_eq rfl
  case kB => exact rfl
  case kD => decide +kernel
  case c2 => exact rfl
  case c3 => exact rfl
  case c4 => exact rfl
  intro g' L' h' tk' cells' FG' F' N' Y' B' X' T' hfr l1
  clear N
  (try k_lt l1); (have la1 := AllLq.add 1 l1); (have la2 := AllLq.add 1 la1); (have la3 := AllLq.add 1 la2); (have la4 := AllLq.add 1 la3); k_cells Y'; (try simp only [List.cons_append, List.nil_append] at N'); (try dsimp only); (try k_lift B'); (try k_fold)

  k_steps
  all_goals (refine' ret _ _ _ _ ?rP0 ?rF (news_sub (fr_back N0 hfr ?ra (news_subs ?rb ?rc)) hps.sup); (case rF => assumption); (case ra => assumption); (case rb => assumption); (case rc => k_mem); (case rP0 => (refine left_is ?_; rw [cnt_range]; omega) ))
end
section
local macro_rules | `(tactic| walk_at "zz none") => `(tactic| skip)
local macro_rules | `(tactic| walk_at "subscriptTail Name Constant ref str") => `(tactic| (k_here; (with_reducible show wpAny _ _ (subscriptTail _ _ (Value.ref _) (Value.str _ _)) _ _ _); (with_reducible rename StL _ _ _ _ _ _ _ => S9'); k_dflt (first | (refine' item_st_int ?N ?hm S9' ?hl (fun t' => ?_); (case N => with_reducible assumption); (case hm => k_mem); (case hl => with_reducible_and_instances k_mem); k_whole) | (refine' item_st_bool ?N ?hm S9' ?hl ?_; (case N => with_reducible assumption); (case hm => k_mem); (case hl => with_reducible_and_instances k_mem); k_whole))))
local macro_rules | `(tactic| walk_at "subscriptTail Name Name ref str") => `(tactic| (k_here; (with_reducible show wpAny _ _ (subscriptTail _ _ (Value.ref _) (Value.str _ _)) _ _ _); (with_reducible rename StL _ _ _ _ _ _ _ => S9'); k_dflt (first | (refine' item_st_int ?N ?hm S9' ?hl (fun t' => ?_); (case N => with_reducible assumption); (case hm => k_mem); (case hl => with_reducible_and_instances k_mem); k_whole) | (refine' item_st_bool ?N ?hm S9' ?hl ?_; (case N => with_reducible assumption); (case hm => k_mem); (case hl => with_reducible_and_instances k_mem); k_whole))))
local macro_rules | `(tactic| walk_at "setItem ref str") => `(tactic| (k_here; k_dflt ((first | (with_reducible rename StL _ _ _ _ _ _ _ => S9') | ((with_reducible rename Obj.IsDictOf _ _ (PySem.strPairs _) => hd9); (with_reducible rename PyProof.V.FlatPairs _ _ _ => hf9); (with_reducible rename ((_ == sysModules) = false) => lo9); (have S9' := StL.of3 lo9 hd9 hf9 (by decide +kernel) (by decide +kernel) (by decide +kernel)); clear hd9 hf9)); (first
  | (refine' set_st ?v ?F ?N ?U S9' ?n ?e ?_; (case v => k_flat); (case F => k_asm); (case N => k_asm); (case U => k_updF); (case n => decide); (case e => decide +kernel))
  | (refine' set_st ?v ?F ?N ?U S9'.tail ?n ?e ?_; (case v => k_flat); (case F => k_asm); (case N => k_asm); (case U => k_updF); (case n => decide); (case e => decide +kernel))); intro h' o' F' N' S'; clear S9'; (try dsimp only at N'); (try k_sweep))))
set_option maxHeartbeats 8000000 in
theorem due_ok {w : World} {mean : ExcName → Option Value} {mg mb : Str → Option Value} {dp un : Nat} {gd : Option (List Code)} {cn : Str} {cs : Scope} {a : Addr} {ccd : Value} {cl : List (Str × Addr)} {outer : List Env} {A₀ : Around} {base h₀ : Heap} {L : Addr} {m : Str → Option Value} {s : Shared} {Q E : Value → Shared → Prop} {fr led : List (Addr × Obj)}
    {st : Addr} {so : Obj} {ring iss mss many aq u n g wnd wide : Int}
    (B : Below A₀ base outer h₀) (F : Fr h₀ L s.heap m) (X : (Mine.hd.heap_39 w.params).In h₀) (N : News h₀ L s.heap led) (T : Top Mine.hd.view_39 (looseW Mine.hd.view_39 [Str.ofString "Sender"]) mean mg mb h₀) (hk : cs.kind = .function)
    (hps : Picks ([(st, so)]) led fr) (hap : Apart fr ([(st, so)])) 
    (hpre0 : StL PySem.Challenge.rw_pf0400_01.row.prog w st so 11 stKs (stLs ring iss mss many aq u n g wnd wide))
    (hd : dp + 3 < recursionLimit) (hu : un + 30 < cLine)
    (ret : ∀ (b : Bool) (h' : Heap) (tk' : Nat), (b = true ↔ (aq = 0 ∧ n ≤ many + 1)) → Fr h₀ L h' m → News h₀ L h' led → Q (.bool b) { s with heap := h', toks := tk' }) :
    wpAny (model PySem.Challenge.rw_pf0400_01.row.prog w) (ktrTop dp un gd cn cs L a ccd cl outer) (call (.ref 413) [.ref st]) Q E s := by
  have N0 := hps.news N
  revert X
  k_fill
  intro X
  refine wpAny_call ?_
  refine' code_fr B F X N0 T ?kA ?kF ?kK ?k6 ?k7 ?k8 ?k9 ?kB hap.out ?_ ?c2 ?c3 ?c4 ?c5
  case kA => exact rfl
  case kF => exact rfl
  case kK => assumption
  case k6 => k_is
  case k7 => k_is
  case k8 => ktr_room
  case k9 => exact BindsTo.of_eq rfl
  case kB => exact locs rfl
  case c2 => exact rfl
  case c3 => exact rfl
  case c4 => exact rfl
  case c5 => decide
  intro g' L' h' FG' F' N' B' X' T' hfr hlt
  clear N
  (try k_lt hlt); (try dsimp only); (try k_lift B'); (try k_fold)

  k_steps
  all_goals (refine' ret _ _ _ ?rP0 ?rF (news_sub (fr_back N0 hfr ?ra (news_subs ?rb ?rc)) hps.sup); (case rF => assumption); (case ra => assumption); (case rb => assumption); (case rc => k_mem); (case rP0 => (first | (simp_all; done) | (simp_all <;> omega)) ))
end

section
local macro_rules | `(tactic| ktr_rel) => `(tactic| first | assumption | omega | (simp only [octs_size, List.size_toArray, List.length_nil]; omega))
local macro_rules | `(tactic| walk_at "subscriptTail Name Constant ref str") => `(tactic| (k_here; (with_reducible show wpAny _ _ (subscriptTail _ _ (Value.ref _) (Value.str _ _)) _ _ _); (with_reducible rename StL _ _ _ _ _ _ _ => S9'); k_dflt (first | (refine' item_st_int ?N ?hm S9' ?hl (fun t' => ?_); (case N => with_reducible assumption); (case hm => k_mem); (case hl => with_reducible_and_instances k_mem); k_whole) | (refine' item_st_bool ?N ?hm S9' ?hl ?_; (case N => with_reducible assumption); (case hm => k_mem); (case hl => with_reducible_and_instances k_mem); k_whole))))
local macro_rules | `(tactic| walk_at "subscriptTail Name Name ref str") => `(tactic| (k_here; (with_reducible show wpAny _ _ (subscriptTail _ _ (Value.ref _) (Value.str _ _)) _ _ _); (with_reducible rename StL _ _ _ _ _ _ _ => S9'); k_dflt (first | (refine' item_st_int ?N ?hm S9' ?hl (fun t' => ?_); (case N => with_reducible assumption); (case hm => k_mem); (case hl => with_reducible_and_instances k_mem); k_whole) | (refine' item_st_bool ?N ?hm S9' ?hl ?_; (case N => with_reducible assumption); (case hm => k_mem); (case hl => with_reducible_and_instances k_mem); k_whole))))
local macro_rules | `(tactic| walk_at "setItem ref str") => `(tactic| (k_here; k_dflt ((first | (with_reducible rename StL _ _ _ _ _ _ _ => S9') | ((with_reducible rename Obj.IsDictOf _ _ (PySem.strPairs _) => hd9); (with_reducible rename PyProof.V.FlatPairs _ _ _ => hf9); (with_reducible rename ((_ == sysModules) = false) => lo9); (have S9' := StL.of3 lo9 hd9 hf9 (by decide +kernel) (by decide +kernel) (by decide +kernel)); clear hd9 hf9)); (first
  | (refine' set_st ?v ?F ?N ?U S9' ?n ?e ?_; (case v => k_flat); (case F => k_asm); (case N => k_asm); (case U => k_updF); (case n => decide); (case e => decide +kernel))
  | (refine' set_st ?v ?F ?N ?U S9'.tail ?n ?e ?_; (case v => k_flat); (case F => k_asm); (case N => k_asm); (case U => k_updF); (case n => decide); (case e => decide +kernel))); intro h' o' F' N' S'; clear S9'; (try dsimp only at N'); (try k_sweep))))
local macro_rules | `(tactic| walk_at "call ref") => `(tactic| (k_here; k_dflt (refine' take_ok ?zB ?zF ?zX ?zN ?zT ?zhk ?zhp ?zap ?za1 ?za2 ?za3 ?za4 ?za5 ?zhd ?zhu ?_; (case zB => k_asm); (case zF => k_asm); (case zX => k_asm); (case zN => k_asm); (case zT => k_asm); (case zhk => first | exact rfl | assumption); (case zhp => k_mem); (case zap => k_all); (case za1 => omega); (case za2 => omega); (case za3 => omega); (case za4 => omega); (case za5 => omega); (case zhd => ktr_room); (case zhu => ktr_units)); intro d' td' x' y' t' u' h' tk' hd0' hd1' hx' hy' hz' F' N'; (try simp only [List.mem_cons, List.not_mem_nil, or_false, Int.reduceToNat, Int.reducePow] at hi'); (try simp only [List.cons_append, List.nil_append] at N'); (try dsimp only); (try k_sweep)))
local macro_rules | `(tactic| walk_at "call ref") => `(tactic| (k_here; k_dflt (refine' one_int ?zB ?zF ?zX ?zN ?zT ?zhk ?zhp ?zhp2 ?zhne ?zap ?zhi ?za1 ?za2 ?za3 ?za4 ?za5 ?zhd ?zhu ?_; (case zB => k_asm); (case zF => k_asm); (case zX => k_asm); (case zN => k_asm); (case zT => k_asm); (case zhk => first | exact rfl | assumption); (case zhp => k_mem); (case zhp2 => k_mem); (case zhne => k_ne); (case zap => k_all); (case zhi => first | exact (IntsAre.cons _ _ (IntsAre.cons _ _ (IntsAre.cons _ _ IntsAre.nil))) | exact (IntsAre.cons _ _ (IntsAre.cons _ _ (IntsAre.cons _ _ (IntsAre.cons _ _ IntsAre.nil)))) | exact (IntsAre.cons _ _ (IntsAre.cons _ _ (IntsAre.cons _ _ (IntsAre.cons _ _ (IntsAre.cons _ _ IntsAre.nil))))) | exact (IntsAre.cons _ _ (IntsAre.cons _ _ (IntsAre.cons _ _ (IntsAre.cons _ _ (IntsAre.cons _ _ (IntsAre.cons _ _ (IntsAre.cons _ _ IntsAre.nil)))))))); (case za1 => omega); (case za2 => omega); (case za3 => omega); (case za4 => exact Nat.le_of_ble_eq_true rfl); (case za5 => exact Nat.le_of_ble_eq_true rfl); (case zhd => ktr_room); (case zhu => ktr_units)); intro r' tr' x' y' t' u' h' tk' hi' hx' hy' hz' F' N'; (try simp only [List.mem_cons, List.not_mem_nil, or_false, Int.reduceToNat, Int.reducePow] at hi'); (try simp only [List.cons_append, List.nil_append] at N'); (try dsimp only); (try k_sweep)))
local macro_rules | `(tactic| walk_at "call ref") => `(tactic| (k_here; k_dflt (refine' one_tri ?zB ?zF ?zX ?zN ?zT ?zhk ?zhp ?zhp2 ?zhp3 ?zhp4 ?zhne ?zap ?zap2 ?za1 ?za2 ?za3 ?zb1 ?zb2 ?zb3 ?zb4 ?zhd ?zhu ?_; (case zB => k_asm); (case zF => k_asm); (case zX => k_asm); (case zN => k_asm); (case zT => k_asm); (case zhk => first | exact rfl | assumption); (case zhp => k_mem); (case zhp2 => k_mem); (case zhp3 => k_mem); (case zhp4 => k_mem); (case zhne => k_ne); (case zap => k_all); (case zap2 => k_all); (case za1 => omega); (case za2 => omega); (case za3 => omega); (case zb1 => assumption); (case zb2 => assumption); (case zb3 => assumption); (case zb4 => assumption); (case zhd => ktr_room); (case zhu => ktr_units)); intro z' q' v1' v2' v3' c' x' y' t' u' h' tk' hi' hj' hx' hy' hz' F' N' lz'; (try simp only [List.mem_cons, List.not_mem_nil, or_false, Int.reduceToNat, Int.reducePow] at hi'); (try simp only [List.cons_append, List.nil_append] at N'); (try dsimp only); (try k_sweep)))

local macro_rules | `(tactic| walk_at "call ref") => `(tactic| (k_here; k_dflt (refine' sender_new ?zB ?zF ?zX ?zN ?zT ?zhk ?zh1 ?zhd ?zhu ?_; (case zB => k_asm); (case zF => k_asm); (case zX => k_asm); (case zN => k_asm); (case zT => k_asm); (case zhk => first | exact rfl | assumption); (case zh1 => omega); (case zhd => ktr_room); (case zhu => ktr_units)); intro x' d' px' pd' qx' qd' k0' k1' k2' k3' k4' k5' k6' k7' k8' k9' k10' t1' t2' t3' t4' t5' t6' j0' j1' j2' j3' j4' v0' v1' v2' v4' i0' i1' u0' u1' h' tk' F' N' fr'; (try simp only [List.mem_cons, List.not_mem_nil, or_false, Int.reduceToNat, Int.reducePow] at hi'); (try simp only [List.cons_append, List.nil_append] at N'); (simp only [Fresh, List.cons_append, List.nil_append, and_true] at fr'); (repeat ((with_reducible rename (AllNq _ _ ∧ _) => hq9); obtain ⟨_, _⟩ := hq9)); (try dsimp only); (try k_sweep)))
local macro_rules | `(tactic| walk_at "call ref") => `(tactic| (k_here; k_dflt (refine' put_ok ?zB ?zF ?zX ?zN ?zT ?zhk ?zhps ?zhap ?zhds ?zhpre0 ?zhpre1 ?zhd ?zhu ?_; (case zB => k_asm); (case zF => k_asm); (case zX => k_asm); (case zN => k_asm); (case zT => k_asm); (case zhk => first | exact rfl | assumption); (case zhps => k_mem); (case zhap => k_all); (case zhds => k_all); (case zhpre0 => ktr_rel); (case zhpre1 => ktr_rel); (case zhd => ktr_room); (case zhu => ktr_units)); intro r' tr' b0' h' tk' p0' F' N'; (try simp only [List.mem_cons, List.not_mem_nil, or_false, Int.reduceToNat, Int.reducePow] at hi'); (try simp only [List.cons_append, List.nil_append] at N'); (try simp only [decide_eq_true_eq, decide_eq_false_iff_not] at p0'); (try dsimp only); (try k_sweep)))
local macro_rules | `(tactic| walk_at "call ref") => `(tactic| (k_here; k_dflt (refine' peer_take0 ?zB ?zF ?zX ?zN ?zT ?zhk ?zhps ?zhap ?zhds ?zhd ?zhu ?_; (case zB => k_asm); (case zF => k_asm); (case zX => k_asm); (case zN => k_asm); (case zT => k_asm); (case zhk => first | exact rfl | assumption); (case zhps => k_mem); (case zhap => k_all); (case zhds => k_all); (case zhd => ktr_room); (case zhu => ktr_units)); intro mo' v1' v2' v3' v4' h' tk' p0' F' N'; (try simp only [List.mem_cons, List.not_mem_nil, or_false, Int.reduceToNat, Int.reducePow] at hi'); (try simp only [List.cons_append, List.nil_append] at N'); (try simp only [decide_eq_true_eq, decide_eq_false_iff_not] at p0'); (try dsimp only); (try k_sweep)))
local macro_rules | `(tactic| walk_at "call ref") => `(tactic| (k_here; k_dflt (refine' peer_take_up ?zB ?zF ?zX ?zN ?zT ?zhk ?zhps ?zhap ?zhds ?zhpre0 ?zhpre1 ?zhd ?zhu ?_; (case zB => k_asm); (case zF => k_asm); (case zX => k_asm); (case zN => k_asm); (case zT => k_asm); (case zhk => first | exact rfl | assumption); (case zhps => k_mem); (case zhap => k_all); (case zhds => k_all); (case zhpre0 => ktr_rel); (case zhpre1 => ktr_rel); (case zhd => ktr_room); (case zhu => ktr_units)); intro mo' v1' v2' v3' v4' h' tk' p0' F' N'; (try simp only [List.mem_cons, List.not_mem_nil, or_false, Int.reduceToNat, Int.reducePow] at hi'); (try simp only [List.cons_append, List.nil_append] at N'); (try simp only [decide_eq_true_eq, decide_eq_false_iff_not] at p0'); (try dsimp only); (try k_sweep)))
set_option maxHeartbeats 8000000 in
theorem state_ok {w : World} {mean : ExcName → Option Value} {mg mb : Str → Option Value} {dp un : Nat} {gd : Option (List Code)} {cn : Str} {cs : Scope} {a : Addr} {ccd : Value} {cl : List (Str × Addr)} {outer : List Env} {A₀ : Around} {base h₀ : Heap} {L : Addr} {m : Str → Option Value} {s : Shared} {Q E : Value → Shared → Prop} {fr led : List (Addr × Obj)}
    {src : Addr} {x y : Int} {t u : Tok} {nn : Nat}
    (B : Below A₀ base outer h₀) (F : Fr h₀ L s.heap m) (X : (Mine.hd.heap_39 w.params).In h₀) (N : News h₀ L s.heap led) (T : Top Mine.hd.view_39 (looseW Mine.hd.view_39 [Str.ofString "Sender"]) mean mg mb h₀) (hk : cs.kind = .function)
    (hp : Pick src (srcO x y t u nn) led fr) (hap : Apart fr [(src, srcO x y t u nn)])
    (hx : 0 ≤ x) (hy : 0 ≤ y) (hy2 : y < 2147483647)
    (hd : dp + 10 < recursionLimit) (hu : un + 100 < cLine)
    (ret : ∀ (tp sn sd px pd qx qd st : Addr) (so : Obj) (k0 k1 k2 k3 k4 k5 k6 k7 k8 k9 k10 a0 a1 a2 a3 a4 a5 j0 j1 j2 j3 j4 c0 c1 c2 c3 c4 i0 i1 r0 b0 : Tok) (ring iss mss many aq u n g wnd wide wide2 : Int) (H : Array UInt8) (x' y' : Int) (t' u' : Tok) (h' : Heap) (tk' : Nat),
      StL PySem.Challenge.rw_pf0400_01.row.prog w st so 11 stKs (stLs ring iss mss many aq u n g wnd wide2) → 256 ≤ ring → 0 ≤ n - u → n - u < ring → 0 ≤ g - u → g - u < ring → H.size ≤ 1000000 → 0 ≤ iss → iss < ring → 1 ≤ mss → mss ≤ 9 → 0 ≤ many → many ≤ 20 → 0 ≤ u → u ≤ n → n ≤ g → g ≤ 1 + many + (if aq = 0 then 1 else 0) → 0 ≤ wnd → wnd ≤ 29 → wnd ≤ wide → wide ≤ wnd + 30 → wide2 = wide → H = octs (max 0 (u - 1)) many → (H.size : Int) = heldN many u → 0 ≤ x' → 0 ≤ y' → y' < 2147483647 →
      Fr h₀ L h' m → News h₀ L h' ((tp, { cls := Value.type "tuple", data := Data.seq #[Value.ref sn, Value.ref st] }) :: (sn, instObj 371 sd) :: (sd, sendA w k0 k1 k2 k3 k4 k5 k6 k7 k8 k9 k10 a0 a1 a2 a3 a4 a5 iss ring mss u n g px qx (decide (u = 0)) (decide (aq = 0)) (decide (g = many + 2))) :: (px, instObj 180 pd) :: (pd, peerD w j0 j1 j2 j3 j4 (.int ring c0) (.int wnd c1) (.int wide c2) (.int 8 c3) (.int 0 c4)) :: (qx, instObj 117 qd) :: (qd, queueD w i0 i1 (.int 40 r0) (.bytes H b0)) :: (st, so) :: (src, srcO x' y' t' u' nn) :: fr) → Fresh ((tp, { cls := Value.type "tuple", data := Data.seq #[Value.ref sn, Value.ref st] }) :: (sn, instObj 371 sd) :: (sd, sendA w k0 k1 k2 k3 k4 k5 k6 k7 k8 k9 k10 a0 a1 a2 a3 a4 a5 iss ring mss u n g px qx (decide (u = 0)) (decide (aq = 0)) (decide (g = many + 2))) :: (px, instObj 180 pd) :: (pd, peerD w j0 j1 j2 j3 j4 (.int ring c0) (.int wnd c1) (.int wide c2) (.int 8 c3) (.int 0 c4)) :: (qx, instObj 117 qd) :: (qd, queueD w i0 i1 (.int 40 r0) (.bytes H b0)) :: (st, so) :: []) ((src, srcO x' y' t' u' nn) :: fr) → Q (.ref tp) { s with heap := h', toks := tk' }) :
    wpAny (model PySem.Challenge.rw_pf0400_01.row.prog w) (ktrTop dp un gd cn cs L a ccd cl outer) (call (.ref 401) [.ref src]) Q E s := by
  have N0 := pick1 N hp
  revert X
  k_fill
  intro X
  refine wpAny_call ?_
  refine' code_frC B F X N0 T ?kA ?kF ?kK ?k6 ?k7 ?k8 ?k9 ?kB ?kD hap.out ?_ ?c2 ?c3 ?c4
  case kA => exact rfl
  case kF => exact rfl
  case kK => assumption
  case k6 => k_is
  case k7 => k_is
  case k8 => ktr_room
  case k9 => exact BindsTo.of_eq rfl
  case kB => exact rfl
  case kD => decide +kernel
  case c2 => exact rfl
  case c3 => exact rfl
  case c4 => exact rfl
  intro g' L' h' tk' cells' FG' F' N' Y' B' X' T' hfr l1
  clear N
  (try k_lt l1); (have la1 := AllLq.add 1 l1); (have la2 := AllLq.add 1 la1); (have la3 := AllLq.add 1 la2); (have la4 := AllLq.add 1 la3); k_cells Y'; (try simp only [List.cons_append, List.nil_append] at N'); (try dsimp only); (try k_lift B'); (try k_fold)
  k_steps
  with_reducible rename StL _ _ _ _ _ _ _ => S9'
  refine' ret _ _ _ _ _ _ _ _ _ _ _ _ _ _ _ _ _ _ _ _ _ _ _ _ _ _ _ _ _ _ _ _ _ _ _ _ _ _ _ _ _ _ _ _ _ _ _ _ _ _ _ _ _ _ _ _ _ _ ?rS ?f1 ?e1 ?e2 ?e3 ?e4 ?e5 ?f2 ?f3 ?f4 ?f5 ?f6 ?f7 ?f8 ?f9 ?g1 ?g2 ?g3 ?g4 ?g5 ?g6 ?hw ?hH ?hZ ?m1 ?m2 ?m3 ?rF ?rN ?rD
  case rF => assumption
  case rN => (refine' news_subs (fr_back N0 hfr ?ra ?rb) ?rc; (case ra => assumption); (case rb => assumption); (case rc => (try simp only [List.cons_append, List.nil_append]); k_mem))
  case rS => exact S9'
  case rD => k_all
  have hZ9 : ∀ v w : Int, (octs v w).size = (w - v).toNat := octs_size
  case f1 => omega
  case e5 => (rw [Array.empty_append, octs_size]; (repeat' split) <;> omega)
  case hw => omega
  case f2 => exact Int.fmod_nonneg_of_pos _ (by omega)
  case f3 => exact Int.fmod_lt_of_pos _ (by omega)
  case hZ => (unfold heldN; rw [Array.empty_append, octs_size]; (repeat' split) <;> omega)
  case hH => (rw [Array.empty_append]; congr 1; (repeat' split) <;> omega)
  all_goals (try simp only [beq_iff_eq] at *)
  all_goals first | assumption | omega
end

section
local macro_rules | `(tactic| walk_at "subscriptTail Name Constant ref str") => `(tactic| (k_here; (with_reducible show wpAny _ _ (subscriptTail _ _ (Value.ref _) (Value.str _ _)) _ _ _); (with_reducible rename StL _ _ _ _ _ _ _ => S9'); k_dflt (first | (refine' item_st_int ?N ?hm S9' ?hl (fun t' => ?_); (case N => with_reducible assumption); (case hm => k_mem); (case hl => with_reducible_and_instances k_mem); k_whole) | (refine' item_st_bool ?N ?hm S9' ?hl ?_; (case N => with_reducible assumption); (case hm => k_mem); (case hl => with_reducible_and_instances k_mem); k_whole))))
local macro_rules | `(tactic| walk_at "subscriptTail Name Name ref str") => `(tactic| (k_here; (with_reducible show wpAny _ _ (subscriptTail _ _ (Value.ref _) (Value.str _ _)) _ _ _); (with_reducible rename StL _ _ _ _ _ _ _ => S9'); k_dflt (first | (refine' item_st_int ?N ?hm S9' ?hl (fun t' => ?_); (case N => with_reducible assumption); (case hm => k_mem); (case hl => with_reducible_and_instances k_mem); k_whole) | (refine' item_st_bool ?N ?hm S9' ?hl ?_; (case N => with_reducible assumption); (case hm => k_mem); (case hl => with_reducible_and_instances k_mem); k_whole))))
local macro_rules | `(tactic| walk_at "setItem ref str") => `(tactic| (k_here; k_dflt ((first | (with_reducible rename StL _ _ _ _ _ _ _ => S9') | ((with_reducible rename Obj.IsDictOf _ _ (PySem.strPairs _) => hd9); (with_reducible rename PyProof.V.FlatPairs _ _ _ => hf9); (with_reducible rename ((_ == sysModules) = false) => lo9); (have S9' := StL.of3 lo9 hd9 hf9 (by decide +kernel) (by decide +kernel) (by decide +kernel)); clear hd9 hf9)); (first
  | (refine' set_st ?v ?F ?N ?U S9' ?n ?e ?_; (case v => k_flat); (case F => k_asm); (case N => k_asm); (case U => k_updF); (case n => decide); (case e => decide +kernel))
  | (refine' set_st ?v ?F ?N ?U S9'.tail ?n ?e ?_; (case v => k_flat); (case F => k_asm); (case N => k_asm); (case U => k_updF); (case n => decide); (case e => decide +kernel))); intro h' o' F' N' S'; clear S9'; (try dsimp only at N'); (try k_sweep))))
local macro_rules | `(tactic| walk_at "ite") => `(tactic| (k_here; k_openite; first
  | (refine ite_neg ?hc ?_; (case hc => ((repeat ((with_reducible rename Ans _ => hq9); (replace hq9 := Ans.out hq9))); (k_dflt (try simp only [bne_iff_ne, beq_iff_eq, ne_eq, beqD, decide_eq_decide, Bool.and_eq_true, Bool.or_eq_true, Bool.not_eq_true', Bool.not_eq_true, Bool.not_eq_false, Bool.and_eq_false_iff, Bool.or_eq_false_iff, decide_eq_true_eq, decide_eq_false_iff_not, Bool.not_eq_false', not_true_eq_false, not_false_eq_true, Bool.true_eq_false, Bool.false_eq_true, iff_true, iff_false, true_iff, false_iff])); first | done | omega | ((with_reducible rename (_ = heldN _ _) => hz9); (unfold heldN at hz9); omega))); (repeat ((with_reducible rename Ans _ => hq9); clear hq9)))
  | (refine ite_pos ?hc ?_; (case hc => ((repeat ((with_reducible rename Ans _ => hq9); (replace hq9 := Ans.out hq9))); (k_dflt (try simp only [bne_iff_ne, beq_iff_eq, ne_eq, beqD, decide_eq_decide, Bool.and_eq_true, Bool.or_eq_true, Bool.not_eq_true', Bool.not_eq_true, Bool.not_eq_false, Bool.and_eq_false_iff, Bool.or_eq_false_iff, decide_eq_true_eq, decide_eq_false_iff_not, Bool.not_eq_false', not_true_eq_false, not_false_eq_true, Bool.true_eq_false, Bool.false_eq_true, iff_true, iff_false, true_iff, false_iff])); first | done | omega | ((with_reducible rename (_ = heldN _ _) => hz9); (unfold heldN at hz9); omega))); (repeat ((with_reducible rename Ans _ => hq9); clear hq9)))))
local macro_rules | `(tactic| ktr_rel) => `(tactic| first | with_reducible assumption | omega)
local macro_rules | `(tactic| walk_at "call ref") => `(tactic| (k_here; k_dflt (refine' take_ok ?zB ?zF ?zX ?zN ?zT ?zhk ?zhp ?zap ?za1 ?za2 ?za3 ?za4 ?za5 ?zhd ?zhu ?_; (case zB => k_asm); (case zF => k_asm); (case zX => k_asm); (case zN => k_asm); (case zT => k_asm); (case zhk => first | exact rfl | assumption); (case zhp => k_mem); (case zap => k_all); (case za1 => omega); (case za2 => omega); (case za3 => omega); (case za4 => omega); (case za5 => omega); (case zhd => ktr_room); (case zhu => ktr_units)); intro d' td' x' y' t' u' h' tk' hd0' hd1' hx' hy' hz' F' N'; (try simp only [List.mem_cons, List.not_mem_nil, or_false, Int.reduceToNat, Int.reducePow] at hi'); (try simp only [List.cons_append, List.nil_append] at N'); (try dsimp only); (try k_sweep)))
local macro_rules | `(tactic| walk_at "call ref") => `(tactic| (k_here; k_dflt (refine' state_ok ?zB ?zF ?zX ?zN ?zT ?zhk ?zhp ?zap ?za1 ?za2 ?za3 ?zhd ?zhu ?_; (case zB => k_asm); (case zF => k_asm); (case zX => k_asm); (case zN => k_asm); (case zT => k_asm); (case zhk => first | exact rfl | assumption); (case zhp => k_mem); (case zap => k_all); (case za1 => omega); (case za2 => omega); (case za3 => omega); (case zhd => ktr_room); (case zhu => ktr_units)); intro tp' sn' sd' px' pd' qx' qd' st' so' k0' k1' k2' k3' k4' k5' k6' k7' k8' k9' k10' a0' a1' a2' a3' a4' a5' j0' j1' j2' j3' j4' c0' c1' c2' c3' c4' i0' i1' r0' b0' ring' iss' mss' many' aq' u' n' g' wnd' wide' widf' H' x' y' t' v' h' tk' so9' f1' e1' e2' e3' e4' e5' f2' f3' f4' f5' f6' f7' f8' f9' g1' g2' g3' g4' g5' g6' hw' hH' hZ' m1' m2' m3' F' N' fr'; (try simp only [List.mem_cons, List.not_mem_nil, or_false, Int.reduceToNat, Int.reducePow] at hi'); (try simp only [List.cons_append, List.nil_append] at N'); (simp only [Fresh, List.cons_append, List.nil_append, and_true] at fr'); (repeat ((with_reducible rename (AllNq _ _ ∧ _) => hq9); obtain ⟨_, _⟩ := hq9)); (try dsimp only); (try k_sweep)))
local macro_rules | `(tactic| walk_at "call ref") => `(tactic| (k_here; k_dflt (refine' left_ok ?zB ?zF ?zX ?zN ?zT ?zhk ?zhps ?zhap ?zhpre0 ?zhpre1 ?zhpre2 ?zhd ?zhu ?_; (case zB => k_asm); (case zF => k_asm); (case zX => k_asm); (case zN => k_asm); (case zT => k_asm); (case zhk => first | exact rfl | assumption); (case zhps => k_mem); (case zhap => k_all); (case zhpre0 => ktr_rel); (case zhpre1 => ktr_rel); (case zhpre2 => ktr_rel); (case zhd => ktr_room); (case zhu => ktr_units)); intro r' tr' h' tk' p0' F' N'; (try simp only [List.mem_cons, List.not_mem_nil, or_false, Int.reduceToNat, Int.reducePow] at hi'); (try simp only [List.cons_append, List.nil_append] at N'); (try simp only [decide_eq_true_eq, decide_eq_false_iff_not] at p0'); (replace p0' := Ans.mk p0'); (try dsimp only); (try k_sweep)))
local macro_rules | `(tactic| walk_at "call ref") => `(tactic| (k_here; k_dflt (refine' due_ok ?zB ?zF ?zX ?zN ?zT ?zhk ?zhps ?zhap ?zhpre0 ?zhd ?zhu ?_; (case zB => k_asm); (case zF => k_asm); (case zX => k_asm); (case zN => k_asm); (case zT => k_asm); (case zhk => first | exact rfl | assumption); (case zhps => k_mem); (case zhap => k_all); (case zhpre0 => ktr_rel); (case zhd => ktr_room); (case zhu => ktr_units)); intro b' h' tk' p0' F' N'; (try simp only [List.mem_cons, List.not_mem_nil, or_false, Int.reduceToNat, Int.reducePow] at hi'); (try simp only [List.cons_append, List.nil_append] at N'); (try simp only [decide_eq_true_eq, decide_eq_false_iff_not] at p0'); (have e9' := bool_dec p0'; subst e9'; clear p0'); (try dsimp only); (try k_sweep)))
local macro_rules | `(tactic| walk_at "call ref") => `(tactic| (k_here; k_dflt (refine' flight_ok ?zB ?zF ?zX ?zN ?zT ?zhk ?zhps ?zhap ?zhpre0 ?zhpre1 ?zhd ?zhu ?_; (case zB => k_asm); (case zF => k_asm); (case zX => k_asm); (case zN => k_asm); (case zT => k_asm); (case zhk => first | exact rfl | assumption); (case zhps => k_mem); (case zhap => k_all); (case zhpre0 => ktr_rel); (case zhpre1 => ktr_rel); (case zhd => ktr_room); (case zhu => ktr_units)); intro tr' h' tk' F' N'; (try simp only [List.mem_cons, List.not_mem_nil, or_false, Int.reduceToNat, Int.reducePow] at hi'); (try simp only [List.cons_append, List.nil_append] at N'); (try dsimp only); (try k_sweep)))
local macro_rules | `(tactic| walk_at "call ref") => `(tactic| (k_here; k_dflt (refine' unsent_ok ?zB ?zF ?zX ?zN ?zT ?zhk ?zhps ?zhap ?zhds ?zhpre0 ?zhpre1 ?zhpre2 ?zhd ?zhu ?_; (case zB => k_asm); (case zF => k_asm); (case zX => k_asm); (case zN => k_asm); (case zT => k_asm); (case zhk => first | exact rfl | assumption); (case zhps => k_mem); (case zhap => k_all); (case zhds => k_all); (case zhpre0 => ktr_rel); (case zhpre1 => ktr_rel); (case zhpre2 => ktr_rel); (case zhd => ktr_room); (case zhu => ktr_units)); intro r' tr' h' tk' p0' F' N'; (try simp only [List.mem_cons, List.not_mem_nil, or_false, Int.reduceToNat, Int.reducePow] at hi'); (try simp only [List.cons_append, List.nil_append] at N'); (try simp only [decide_eq_true_eq, decide_eq_false_iff_not] at p0'); (replace p0' := unsent_is (by with_reducible assumption) (by with_reducible assumption) (by with_reducible assumption) (by with_reducible assumption) p0'); (replace p0' := Ans.mk p0'); (try dsimp only); (try k_sweep)))
local macro_rules | `(tactic| walk_at "call ref") => `(tactic| (k_here; k_dflt (refine' data_sent_ok ?zB ?zF ?zX ?zN ?zT ?zhk ?zhps ?zhap ?zhds ?zhpre0 ?zhpre1 ?zhpre2 ?zhd ?zhu ?_; (case zB => k_asm); (case zF => k_asm); (case zX => k_asm); (case zN => k_asm); (case zT => k_asm); (case zhk => first | exact rfl | assumption); (case zhps => k_mem); (case zhap => k_all); (case zhds => k_all); (case zhpre0 => ktr_rel); (case zhpre1 => ktr_rel); (case zhpre2 => ktr_rel); (case zhd => ktr_room); (case zhu => ktr_units)); intro r' tr' h' tk' p0' F' N'; (try simp only [List.mem_cons, List.not_mem_nil, or_false, Int.reduceToNat, Int.reducePow] at hi'); (try simp only [List.cons_append, List.nil_append] at N'); (try simp only [decide_eq_true_eq, decide_eq_false_iff_not] at p0'); (replace p0' := sent_is (by with_reducible assumption) (by with_reducible assumption) (by with_reducible assumption) (by with_reducible assumption) p0'); (replace p0' := Ans.mk p0'); (try dsimp only); (try k_sweep)))
local macro_rules | `(tactic| walk_at "call ref") => `(tactic| (k_here; k_dflt (refine' usable_ok ?zB ?zF ?zX ?zN ?zT ?zhk ?zhps ?zhap ?zhds ?zhpre0 ?zhpre1 ?zhd ?zhu ?_; (case zB => k_asm); (case zF => k_asm); (case zX => k_asm); (case zN => k_asm); (case zT => k_asm); (case zhk => first | exact rfl | assumption); (case zhps => k_mem); (case zhap => k_all); (case zhds => k_all); (case zhpre0 => ktr_rel); (case zhpre1 => ktr_rel); (case zhd => ktr_room); (case zhu => ktr_units)); intro r' tr' h' tk' p0' F' N'; (try simp only [List.mem_cons, List.not_mem_nil, or_false, Int.reduceToNat, Int.reducePow] at hi'); (try simp only [List.cons_append, List.nil_append] at N'); (try simp only [decide_eq_true_eq, decide_eq_false_iff_not] at p0'); (replace p0' := Ans.mk p0'); (try dsimp only); (try k_sweep)))
local macro_rules | `(tactic| walk_at "call ref") => `(tactic| (k_here; k_dflt (refine' fin_acked_ok ?zB ?zF ?zX ?zN ?zT ?zhk ?zhps ?zhap ?zhds ?zhpre0 ?zhpre1 ?zhpre2 ?zhd ?zhu ?_; (case zB => k_asm); (case zF => k_asm); (case zX => k_asm); (case zN => k_asm); (case zT => k_asm); (case zhk => first | exact rfl | assumption); (case zhps => k_mem); (case zhap => k_all); (case zhds => k_all); (case zhpre0 => ktr_rel); (case zhpre1 => ktr_rel); (case zhpre2 => ktr_rel); (case zhd => ktr_room); (case zhu => ktr_units)); intro b' h' tk' p0' F' N'; (try simp only [List.mem_cons, List.not_mem_nil, or_false, Int.reduceToNat, Int.reducePow] at hi'); (try simp only [List.cons_append, List.nil_append] at N'); (try simp only [decide_eq_true_eq, decide_eq_false_iff_not] at p0'); (have e9' := bool_dec p0'; subst e9'; clear p0'); (try dsimp only); (try k_sweep)))
local macro_rules | `(tactic| walk_at "call ref") => `(tactic| (k_here; k_dflt (refine' fin_due_ok ?zB ?zF ?zX ?zN ?zT ?zhk ?zhps ?zhap ?zhds ?zhpre0 ?zhpre1 ?zhpre2 ?zhpre3 ?zhpre4 ?zhd ?zhu ?_; (case zB => k_asm); (case zF => k_asm); (case zX => k_asm); (case zN => k_asm); (case zT => k_asm); (case zhk => first | exact rfl | assumption); (case zhps => k_mem); (case zhap => k_all); (case zhds => k_all); (case zhpre0 => ktr_rel); (case zhpre1 => ktr_rel); (case zhpre2 => ktr_rel); (case zhpre3 => ktr_rel); (case zhpre4 => ktr_rel); (case zhd => ktr_room); (case zhu => ktr_units)); intro b' h' tk' p0' F' N'; (try simp only [List.mem_cons, List.not_mem_nil, or_false, Int.reduceToNat, Int.reducePow] at hi'); (try simp only [List.cons_append, List.nil_append] at N'); (try simp only [decide_eq_true_eq, decide_eq_false_iff_not] at p0'); (have e9' := bool_dec p0'; subst e9'; clear p0'); (try dsimp only); (try k_sweep)))
local macro_rules | `(tactic| walk_at "call ref") => `(tactic| (k_here; k_dflt (refine' all_acked_ok ?zB ?zF ?zX ?zN ?zT ?zhk ?zhps ?zhap ?zhds ?zhpre0 ?zhpre1 ?zhpre2 ?zhd ?zhu ?_; (case zB => k_asm); (case zF => k_asm); (case zX => k_asm); (case zN => k_asm); (case zT => k_asm); (case zhk => first | exact rfl | assumption); (case zhps => k_mem); (case zhap => k_all); (case zhds => k_all); (case zhpre0 => ktr_rel); (case zhpre1 => ktr_rel); (case zhpre2 => ktr_rel); (case zhd => ktr_room); (case zhu => ktr_units)); intro b' h' tk' p0' F' N'; (try simp only [List.mem_cons, List.not_mem_nil, or_false, Int.reduceToNat, Int.reducePow] at hi'); (try simp only [List.cons_append, List.nil_append] at N'); (try simp only [decide_eq_true_eq, decide_eq_false_iff_not] at p0'); (have e9' := bool_dec p0'; subst e9'; clear p0'); (try dsimp only); (try k_sweep)))
local macro_rules | `(tactic| walk_at "call ref") => `(tactic| (k_here; k_dflt (refine' go_on_ok ?zB ?zF ?zX ?zN ?zT ?zhk ?zhps ?zhap ?zhds ?zhpre0 ?zhpre1 ?zhpre2 ?zhd ?zhu ?_; (case zB => k_asm); (case zF => k_asm); (case zX => k_asm); (case zN => k_asm); (case zT => k_asm); (case zhk => first | exact rfl | assumption); (case zhps => k_mem); (case zhap => k_all); (case zhds => k_all); (case zhpre0 => ktr_rel); (case zhpre1 => ktr_rel); (case zhpre2 => ktr_rel); (case zhd => ktr_room); (case zhu => ktr_units)); intro g' t4' t5' h' tk' p0' F' N'; (try simp only [List.mem_cons, List.not_mem_nil, or_false, Int.reduceToNat, Int.reducePow] at hi'); (try simp only [List.cons_append, List.nil_append] at N'); (try simp only [decide_eq_true_eq, decide_eq_false_iff_not] at p0'); (replace p0' := Ans.mk p0'); (try dsimp only); (try k_sweep)))
local macro_rules | `(tactic| walk_at "call builtin:len") => `(tactic| (k_here; (with_reducible show wpAny _ _ (call (Value.builtin "len") [Value.ref _]) _ _ _); k_dflt (refine' len_cnt ?k1 ?k2 ?k3 ?k4 ?_; (case k1 => k_asm); (case k2 => k_mem); (case k3 => assumption); (case k4 => omega)); intro r' t' tk' p0'; (replace p0' := Ans.mk (held_is (by with_reducible assumption) p0'))))
local macro_rules | `(tactic| walk_at "eval ListComp") => `(tactic| (k_here; (with_reducible show wpAny _ _ (eval (Expr.ListComp _ _ _ _) _) _ _ _); lcf_look; lcg_calm; k_dflt (refine LCg.ListComp_U (F₀ := by k_asm) (by with_unfolding_all rfl) (by decide) (by rfl) (by decide) (by rfl) ?_); k_dflt lcg_toSrc))
set_option maxHeartbeats 8000000 in
theorem numbers_ok {w : World} {mean : ExcName → Option Value} {mg mb : Str → Option Value} {dp un : Nat} {gd : Option (List Code)} {cn : Str} {cs : Scope} {a : Addr} {ccd : Value} {cl : List (Str × Addr)} {outer : List Env} {A₀ : Around} {base h₀ : Heap} {L : Addr} {m : Str → Option Value} {s : Shared} {Q E : Value → Shared → Prop} {fr led : List (Addr × Obj)}
    {src : Addr} {x y : Int} {t u : Tok} {n : Nat}
    (B : Below A₀ base outer h₀) (F : Fr h₀ L s.heap m) (X : (Mine.hd.heap_39 w.params).In h₀) (N : News h₀ L s.heap led) (T : Top Mine.hd.view_39 (looseW Mine.hd.view_39 [Str.ofString "Sender"]) mean mg mb h₀) (hk : cs.kind = .function)
    (hp : Pick src (srcO x y t u n) led fr) (hap : Apart fr [(src, srcO x y t u n)])
    (hx : 0 ≤ x) (hy : 0 ≤ y) (hy2 : y < 2147483647)
    (hd : dp + 20 < recursionLimit) (hu : un + 200 < cLine)
    (ret : ∀ (x' y' : Int) (t' u' : Tok) (h' : Heap) (tk' : Nat), 0 ≤ x' → 0 ≤ y' → y' < 2147483647 → Fr h₀ L h' m → News h₀ L h' ((src, srcO x' y' t' u' n) :: fr) → Q (.bool true) { s with heap := h', toks := tk' }) :
    wpAny (model PySem.Challenge.rw_pf0400_01.row.prog w) (ktrTop dp un gd cn cs L a ccd cl outer) (call (.ref 425) [.ref src]) Q E s := by
  have N0 := pick1 N hp
  revert X
  k_fill
  intro X
  refine wpAny_call ?_
  refine' code_frC B F X N0 T ?kA ?kF ?kK ?k6 ?k7 ?k8 ?k9 ?kB ?kD hap.out ?_ ?c2 ?c3 ?c4
  case kA => exact rfl
  case kF => exact rfl
  case kK => assumption
  case k6 => k_is
  case k7 => k_is
  case k8 => ktr_room
  case k9 => exact BindsTo.of_eq rfl
  case kB => exact rfl
  case kD => decide +kernel
  case c2 => exact rfl
  case c3 => exact rfl
  case c4 => exact rfl
  intro g' L' h' tk' cells' FG' F' N' Y' B' X' T' hfr l1
  clear N
  (try k_lt l1); (have la1 := AllLq.add 1 l1); (have la2 := AllLq.add 1 la1); (have la3 := AllLq.add 1 la2); (have la4 := AllLq.add 1 la3); k_cells Y'; (try simp only [List.cons_append, List.nil_append] at N'); (try dsimp only); (try k_lift B'); (try k_fold)
  k_steps
  all_goals first
    | (exfalso; (with_reducible rename (@Eq Bool _ false) => hb9); (repeat ((with_reducible rename Ans _ => hq9); (replace hq9 := Ans.out hq9); subst hq9)); (simp at hb9))
    | ((with_reducible rename Ans _ => hq9); (replace hq9 := Ans.out hq9); (refine dec_true (Q := Q) ?hp ?hq); (case hp => exact two_eq (by rw [hq9]; split <;> omega)); (case hq => (refine' ret _ _ _ _ _ _ ?m1 ?m2 ?m3 ?rF ?rN; (case rF => assumption); (case rN => (refine' news_subs (fr_back N0 hfr ?ra ?rb) ?rc; (case ra => assumption); (case rb => assumption); (case rc => (try simp only [List.cons_append, List.nil_append]); k_mem))); (case m1 => assumption); (case m2 => assumption); (case m3 => assumption))))
end

section
variable {prog : Program} {w : World} {A : Around} {E : Value → Shared → Prop} {s : Shared} {env : Env} {h₀ : Heap} {body : List Stmt} {Q : Flow → Shared → Prop}
abbrev lawR (x : Str) (stored : List Str) (m₀ : Str → Option Value) (pre : List Int) := KstS (fun _ : Unit => ([] : List (Addr × Obj))) (fun _ => []) (fun _ => True) x stored m₀ (fun _ _ => True) pre
/-- a loop whose turns hand nothing on -/
theorem free_loop {x : Str} {stored : List Str} {r : Addr} {a₀ b₀ : Int} {t₀ u₀ w₀ : Tok} {m : Nat} {m₀ : Str → Option Value} {led : List (Addr × Obj)}
    (hh : A.handled = none) (hr : IsRange s.heap r a₀ b₀ 1 t₀ u₀ w₀) (hsmall : Builtin.Range.small a₀ b₀ 1 = true) (hn : Builtin.Range.rangeSize a₀ b₀ 1 = (m : Int)) (F : Fr h₀ env.locals s.heap m₀) (N : News h₀ env.locals s.heap led)
    (turn : ∀ (pre : List Int) (kk : Int) (t5 : Tok) (g : Str → Option Value) (h : Heap) (tk : Nat) (own : List (Addr × Obj)), a₀ ≤ kk → kk < a₀ + (m : Int) →
      Fr h₀ env.locals h (fun z => if z = x then some (.int kk t5) else if stored.contains z then g z else m₀ z) → News h₀ env.locals h own →
      wpAny (model prog w) A (execs body env) (InvPostN h₀ env.locals (lawR x stored m₀ (pre ++ [kk])) own [] { s with heap := h, toks := tk } Q) E { s with heap := h, toks := tk })
    (done : ∀ (g : Str → Option Value) (h : Heap) (tk : Nat), Fr h₀ env.locals h (fun z => if z = x then g z else if stored.contains z then g z else m₀ z) → News h₀ env.locals h [] → Q .next { s with heap := h, toks := tk }) :
    wpAny (model prog w) A (pyIter (.ref r)) (fun it s₂ => LoopAtV prog w A h₀ env x body Q E it s₂) E s := by
  refine kst_range (fun _ : Unit => ([] : List (Addr × Obj))) (fun _ => []) (fun _ => True) stored (fun _ _ => True) () hh hr hsmall hn F (fun _ hp => nomatch hp) trivial (fun _ hp => nomatch hp) trivial ?_ ?_
  · intro c pre k t u h tk own e1 e2 _ _ _ F' N'
    exact turn pre k t u h tk own (by omega) (by omega) F' N'
  · intro c u h tk _ _ F' N'
    exact done u h tk F' N'
theorem free_end {L : Addr} {x : Str} {m₀ m' : Str → Option Value} {pre : List Int} {own news' : List (Addr × Obj)} {s₁ : Shared} {h' : Heap} {tk : Nat}
    (F : Fr h₀ L h' m') (N : News h₀ L h' news') (hs : Subs news' own) (hr : ∀ z, z ≠ x → z ≠ Str.ofString "source" → [Str.ofString "source"].contains z = false → m' z = m₀ z) :
    InvEndN h₀ L (lawR x [Str.ofString "source"] m₀ pre) own [] s₁ { s₁ with heap := h', toks := tk } :=
  kst_end () F N (fun _ hp => nomatch hp) hs rfl trivial (fun _ hp => nomatch hp) (fun z h1 _ h3 => hr z h1 (fun e => by subst e; simp at h3) h3) trivial
end
section
local macro_rules | `(tactic| ktr_rel) => `(tactic| first | with_reducible assumption | omega)
local macro_rules | `(tactic| walk_at "call ref") => `(tactic| (k_here; k_dflt (refine' pool_ok ?zB ?zF ?zX ?zN ?zT ?zhk ?zhps ?zhap ?zhpre0 ?zhpre1 ?zhpre2 ?zhpre3 ?zhpre4 ?zhd ?zhu ?_; (case zB => k_asm); (case zF => k_asm); (case zX => k_asm); (case zN => k_asm); (case zT => k_asm); (case zhk => first | exact rfl | assumption); (case zhps => k_mem); (case zhap => k_all); (case zhpre0 => ktr_rel); (case zhpre1 => ktr_rel); (case zhpre2 => ktr_rel); (case zhpre3 => ktr_rel); (case zhpre4 => ktr_rel); (case zhd => ktr_room); (case zhu => ktr_units)); intro z' x' y' t' u' h' tk' p0' p1' p2' F' N' fr'; (try simp only [List.mem_cons, List.not_mem_nil, or_false, Int.reduceToNat, Int.reducePow] at hi'); (try simp only [List.cons_append, List.nil_append] at N'); (simp only [Fresh, List.cons_append, List.nil_append, and_true] at fr'); (repeat ((with_reducible rename (AllNq _ _ ∧ _) => hq9); obtain ⟨_, _⟩ := hq9)); (try simp only [decide_eq_true_eq, decide_eq_false_iff_not] at p0'); (try simp only [decide_eq_true_eq, decide_eq_false_iff_not] at p1'); (try simp only [decide_eq_true_eq, decide_eq_false_iff_not] at p2'); (try dsimp only); (try k_sweep)))
local macro_rules | `(tactic| walk_at "call ref") => `(tactic| (k_here; k_dflt (refine' windows_ok ?zB ?zF ?zX ?zN ?zT ?zhk ?zhp ?zhap ?zhx ?zhy ?zhy2 ?zhd ?zhu ?_; (case zB => k_asm); (case zF => k_asm); (case zX => k_asm); (case zN => k_asm); (case zT => k_asm); (case zhk => first | exact rfl | assumption); (case zhp => k_mem); (case zhap => k_all); (case zhx => omega); (case zhy => omega); (case zhy2 => omega); (case zhd => ktr_room); (case zhu => ktr_units)); intro x' y' t' u' h' tk' hx' hy' hz' F' N'; (try simp only [List.mem_cons, List.not_mem_nil, or_false, Int.reduceToNat, Int.reducePow] at hi'); (try simp only [List.cons_append, List.nil_append] at N'); (try dsimp only); (try k_sweep)))
local macro_rules | `(tactic| walk_at "call ref") => `(tactic| (k_here; k_dflt (refine' numbers_ok ?zB ?zF ?zX ?zN ?zT ?zhk ?zhp ?zhap ?zhx ?zhy ?zhy2 ?zhd ?zhu ?_; (case zB => k_asm); (case zF => k_asm); (case zX => k_asm); (case zN => k_asm); (case zT => k_asm); (case zhk => first | exact rfl | assumption); (case zhp => k_mem); (case zhap => k_all); (case zhx => omega); (case zhy => omega); (case zhy2 => omega); (case zhd => ktr_room); (case zhu => ktr_units)); intro x' y' t' u' h' tk' hx' hy' hz' F' N'; (try simp only [List.mem_cons, List.not_mem_nil, or_false, Int.reduceToNat, Int.reducePow] at hi'); (try simp only [List.cons_append, List.nil_append] at N'); (try dsimp only); (try k_sweep)))
local macro_rules | `(tactic| walk_at "pyIter ref") => `(tactic| (k_here; (with_reducible show wpAny _ _ (pyIter (Value.ref _)) (fun it s₂ => LoopAtV _ _ _ _ _ _ _ _ _ it s₂) _ _); k_dflt (refine' free_loop (stored := [Str.ofString "source"]) ?hh ?hr ?hsm ?hn ?F ?N (fun pre' kk' t5' g' h' tk' own' l1' l2' F' N' => ?_) (fun g' h' tk' F' N' => ?_); (case hh => exact rfl); (case hr => assumption); (case hsm => exact small_one (by omega) (by omega) (by omega) (by omega)); (case hn => exact rangeSize_nat _ _); (case F => k_asm); (case N => k_asm)); (all_goals (try dsimp only [InvPostN])); (all_goals (try k_fold))))
set_option maxRecDepth 100000 in
set_option maxHeartbeats 8000000 in
theorem law_holds : PySem.Challenge.rw_pf0400_01.Holds := by
  refine Mine.hd ?_
  k_go0
  (all_goals try k_fold)
  k_steps
  (refine' free_end ?F ?N ?hs ?hr; (case F => assumption); (case N => assumption); (case hs => ((try simp only [List.cons_append, List.nil_append]); k_mem)); (case hr => (intro z h1 h2 hc; (try dsimp only); (repeat rw [if_neg (by assumption)]); rw [hc]; rfl)))
end


end
end Mine
set_option maxRecDepth 100000 in
set_option maxHeartbeats 8000000 in
theorem PySem.Challenge.cw_pf0400_01_holds : PySem.Challenge.rw_pf0400_01.Holds := by
  exact Mine.law_holds
