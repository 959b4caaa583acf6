import PyProof.Rows.All
import Wide.All
import OpenK.AllK
import Wide.FinOn
import PySem.Challenge.RW_pb0235_01
section
open PySem PySem.W PyProof.Rows
set_option Elab.async false
set_option maxRecDepth 100000
set_option maxHeartbeats 8000000
namespace Mine
open_top hd for PySem.Challenge.rw_pb0235_01
end Mine
end
section
open PySem PySem.W PySem.Calls PyProof.Rows PyProof.V PySem.Spec
set_option Elab.async false
set_option maxRecDepth 100000
set_option maxHeartbeats 4000000
namespace Mine
theorem offPbBase : True := by
  w_top off
  k_with_none
  trivial
/-! ### short arithmetic: each lemma stands for one omega, so that the compiled file stays small -/
theorem om_u0 {a m n : Nat} (h : a + m < n) : a < n := Nat.lt_of_le_of_lt (Nat.le_add_right _ _) h
theorem om_u1 {a m n k : Nat} (h : a + m < n) (e : k ≤ m) : a + k < n := Nat.lt_of_le_of_lt (Nat.add_le_add_left e _) h
theorem om_u2 {a m n i j : Nat} (h : a + m < n) (e : i + j ≤ m) : a + i + j < n := by omega
theorem om_sub2 {n j : Nat} (h : j < n) : n - j = n - j - 1 + 1 := (Nat.sub_add_cancel (Nat.sub_pos_of_lt h)).symm
theorem om_sub3 {n j : Nat} : n - 1 - j = n - j - 1 := Nat.sub_right_comm n 1 j
theorem om_sub1 {n j l : Nat} (e : l = n + 1) : n - j - 1 < l := e ▸ Nat.lt_succ_of_le (Nat.le_trans (Nat.sub_le _ _) (Nat.sub_le _ _))
theorem om_sub5 {n j l : Nat} (e : l = n + 1) : n - 1 - j < l := e ▸ Nat.lt_succ_of_le (Nat.le_trans (Nat.sub_le _ _) (Nat.sub_le _ _))
theorem om_sub4 {n j : Nat} (h : j < n) : n - (j + 1) < n - j := Nat.sub_succ_lt_self n j h
theorem om_e1 {a b k m : Nat} (e : a = b) (h : b ≤ m) (d : m ≤ k) : a ≤ k := e ▸ Nat.le_trans h d
theorem om_e3 {a b k m : Nat} (e : a = b + 1) (h : b ≤ m) (d : m + 1 ≤ k) : a ≤ k := e ▸ Nat.le_trans (Nat.succ_le_succ h) d
theorem om_lt {a b n : Nat} (e : a = n) (h : b < n) : b < a := e ▸ h
/-- entering a def without cells, over the whole heap at the call -/
theorem enter_plain {prog : Program} {w : World} {A : Around} {s : Shared} {K : Frag} {R : Result → Shared → Prop} {name qual : Str} {params : Arguments} {body : List Stmt} {scope : Scope}
    {dV kV doc pm cdv ct oc : Value} {an od : Option Addr} {osl : Array (Option Value)} {f : Addr} {args : Args} {binds : List (Str × Value)}
    (X : K.In s.heap) (hlim : s.heap.NoLimit)
    (ho : K.lookup f = some ⟨oc, od, .func (fnOf name qual params body scope dV kV doc pm an cdv ct), osl⟩) (hcd : codeIn K cdv qual = true) (hroom : A.depth < recursionLimit)
    (hbind : BindsTo s (fnOf name qual params body scope dV kV doc pm an cdv ct) args binds) (hloc : ∀ y ∈ binds, scope.names.lookup y.1 = some .local)
    (h : ∀ h₁, Fr s.heap s.heap.objs.size h₁ (fun y => binds.reverse.lookup y) →
      wpAny (model prog w) (A.deeper (envOf qual scope s.heap.objs.size f cdv)) (execs body (envOf qual scope s.heap.objs.size f cdv))
        (fun fl s' => R (.ok (.ret (match fl with | .ret v => v | _ => .none))) s') (fun _ _ => False)
        { s with heap := h₁, toks := s.toks + binds.length })
    (hco : scope.isCoroutine = false) (hgen : scope.isGenerator = false) (hk : scope.kind = .function) (hcell : ∀ x ∈ scope.names, x.2 ≠ .cell) :
    codeAny (model prog w) A (.call (.ref f) args) R s := by
  refine codeAny_call_def (fd := fnOf name qual params body scope dV kV doc pm an cdv ct) (body := body) (binds := binds) hroom (X _ _ ho) rfl hlim (codeRec_of X hcd) rfl hbind hcell hloc (fun h₁ hns hk₁ => ?_) hco hgen hk
  exact wpAny_mono (h h₁ ⟨hns, fun b o e => hk₁ b o e, Nat.le_refl _⟩) (fun _ _ y => y) fun _ _ y => y.elim
/-- entering a def without cells, where the objects of `news` may be turned; b is what stays for ever -/
theorem enter_mut {prog : Program} {w : World} {A : Around} {s : Shared} {K : Frag} {R : Result → Shared → Prop} {name qual : Str} {params : Arguments} {body : List Stmt} {scope : Scope}
    {dV kV doc pm cdv ct oc : Value} {an od : Option Addr} {osl : Array (Option Value)} {f : Addr} {args : Args} {binds : List (Str × Value)} {b : Heap} {news : List (Addr × Obj)}
    (X : K.In b) (hlim : b.NoLimit) (hb : b.StaysIn s.heap) (hn : ∀ p ∈ news, s.heap.get? p.1 = some p.2 ∧ b.get? p.1 = none)
    (ho : K.lookup f = some ⟨oc, od, .func (fnOf name qual params body scope dV kV doc pm an cdv ct), osl⟩) (hcd : codeIn K cdv qual = true) (hroom : A.depth < recursionLimit)
    (hbind : BindsTo s (fnOf name qual params body scope dV kV doc pm an cdv ct) args binds) (hloc : ∀ y ∈ binds, scope.names.lookup y.1 = some .local)
    (h : ∀ g h₁, b.StaysIn g → (∀ a o, s.heap.get? a = some o → a ∉ news.map (·.1) → g.get? a = some o) → Fr g s.heap.objs.size h₁ (fun y => binds.reverse.lookup y) → News g s.heap.objs.size h₁ news →
      (∀ p ∈ news, p.1 < s.heap.objs.size) →
      wpAny (model prog w) (A.deeper (envOf qual scope s.heap.objs.size f cdv)) (execs body (envOf qual scope s.heap.objs.size f cdv))
        (fun fl s' => R (.ok (.ret (match fl with | .ret v => v | _ => .none))) s') (fun _ _ => False)
        { s with heap := h₁, toks := s.toks + binds.length })
    (hco : scope.isCoroutine = false) (hgen : scope.isGenerator = false) (hk : scope.kind = .function) (hcell : ∀ x ∈ scope.names, x.2 ≠ .cell) :
    codeAny (model prog w) A (.call (.ref f) args) R s := by
  have Xs : K.In s.heap := X.keeps hb
  refine codeAny_call_def (fd := fnOf name qual params body scope dV kV doc pm an cdv ct) (body := body) (binds := binds) hroom (Xs _ _ ho) rfl (hlim.keeps hb) (codeRec_of Xs hcd) rfl hbind hcell hloc (fun h₁ hns hk₁ => ?_) hco hgen hk
  have nm : ∀ a o, b.get? a = some o → a ∉ news.map (·.1) := fun a o e q => by
    obtain ⟨p, hp, rfl⟩ := List.mem_map.mp q
    rw [(hn p hp).2] at e; cases e
  refine wpAny_mono (h (hideAll s.heap (news.map (·.1))) h₁ (fun a o e => hideAll_get _ (hb a o e) (nm a o e)) (fun a o e q => hideAll_get _ e q) ⟨hns, fun a o e => hk₁ a o (of_hideAll _ e), Nat.le_of_eq (hideAll_size _ _)⟩
    (fun p hp => ⟨hk₁ _ _ (hn p hp).1, Nat.ne_of_lt (Heap.lt_size (hn p hp).1), hideAll_none _ (List.mem_map_of_mem hp)⟩) (fun p hp => Heap.lt_size (hn p hp).1)) (fun _ _ y => y) fun _ _ y => y.elim
section
variable {prog : Program} {w : World} {A : Around} {E : Value → Shared → Prop} {s : Shared} {env : Env} {h₀ : Heap} {x : Str} {body : List Stmt} {Q : Flow → Shared → Prop}
/-- a loop over a list that lies in the base, by an invariant over the turn's number, the frame and the ledger -/
theorem iter_vals {l : Addr} {vs : List Value} {m₀ : Str → Option Value} {news : List (Addr × Obj)} (J : Nat → (Str → Option Value) → List (Addr × Obj) → Prop)
    (hh : A.handled = none) (hl : h₀.IsList l vs.toArray) (F : Fr h₀ env.locals s.heap m₀) (N : News h₀ env.locals s.heap news) (hj : J 0 m₀ news)
    (turn : ∀ i v m₁ news₁ h tk own, vs[i]? = some v → news₁.map (·.1) = news.map (·.1) → OwnOff own (news.map (·.1)) → J i m₁ news₁ → Fr h₀ env.locals h (fun y => if y = x then some v else m₁ y) → News h₀ env.locals h (news₁ ++ own) →
      wpAny (model prog w) A (execs body env) (InvPostN h₀ env.locals (J (i + 1)) own (news.map (·.1)) { s with heap := h, toks := tk } Q) E { s with heap := h, toks := tk })
    (done : ∀ m₁ news₁ h tk, J vs.length m₁ news₁ → Fr h₀ env.locals h m₁ → News h₀ env.locals h news₁ → Q .next { s with heap := h, toks := tk }) :
    wpAny (model prog w) A (pyIter (.ref l)) (fun it s₂ => LoopAtV prog w A h₀ env x body Q E it s₂) E s := by
  have hls : s.heap.IsList l vs.toArray := hl.at fun o e => F.keep l o e
  obtain ⟨ol, hol, _⟩ := id hl
  have hlt : l < h₀.objs.size := Heap.lt_size hol
  have hne : l ≠ s.heap.objs.size := Nat.ne_of_lt (Nat.lt_trans (Nat.lt_of_lt_of_le hlt F.above) F.ns.lt)
  refine wpAny_pyIter_list hls ?_
  have W := Walks.list (prog := prog) (w := w) hh s.heap.objs.size l hne vs.toArray
  have hlen : vs.toArray.size = vs.length := by simp
  rw [hlen] at W
  let J' : Nat → (Str → Option Value) → List (Addr × Obj) → Prop := fun i m₁ news₁ => news₁.map (·.1) = news.map (·.1) ∧ J i m₁ news₁
  refine ⟨_, _, _, vs.length, _, _, m₀, news, J', rfl, W, ?_, ?_, ?_, ⟨⟨_, Heap.get?_push_size _ rfl, rfl, rfl⟩, hls.at fun o e => Heap.get?_push_of_some _ e⟩, F.push _, (fun p hp => ⟨Heap.get?_push_of_some _ (N p hp).1, (N p hp).2⟩), ⟨rfl, hj⟩, ?_, ?_⟩
  · intro hm
    rcases List.mem_cons.mp hm with e | hm
    · exact absurd F.ns.lt (e ▸ Nat.lt_irrefl _)
    · exact absurd (Nat.lt_of_lt_of_le hlt F.above) ((List.mem_singleton.mp hm) ▸ Nat.lt_irrefl _)
  · intro b hb
    rw [List.mem_singleton.mp hb]
    exact next_is_new F
  · intro p hp hI
    exact absurd (Heap.lt_size (N p hp).1) ((List.mem_singleton.mp hI) ▸ Nat.lt_irrefl _)
  · rintro i v m₁ news₁ s₁ own ⟨hh', tk', rfl⟩ hin hP ⟨hadr, hJ⟩ hoff hown _ _ _ F₁ N₁
    have hsep : OwnOff own (news.map (·.1)) := by
      intro p hp b hb e
      obtain ⟨q, hq, rfl⟩ := List.mem_map.mp hb
      rcases List.mem_cons.mp (hown p hp) with h1 | h1
      · exact absurd (Heap.lt_size (N q hq).1) (by rw [← e, h1]; exact Nat.lt_irrefl _)
      · have h2 := List.mem_singleton.mp h1
        have h3 := (N q hq).2.2
        rw [← e, h2, hol] at h3
        cases h3
    have hv : vs[i]? = some v := by simpa using hP
    have N₂ : News h₀ env.locals hh' (news₁ ++ own) := fun p hp => N₁ p ((List.mem_append.mp hp).elim (fun h => List.mem_append.mpr (.inr h)) fun h => List.mem_append.mpr (.inl h))
    refine wpAny_mono (turn i v m₁ news₁ hh' tk' own hv hadr hsep hJ F₁ N₂) (fun f s₂ p => ?_) fun _ _ e => e
    have fin : InvEndN h₀ env.locals (J (i + 1)) own (news.map (·.1)) { s with heap := hh', toks := tk' } s₂ → LoopStepU h₀ env.locals [s.heap.objs.size] own (J' (i + 1)) { s with heap := hh', toks := tk' } .next s₂ := by
      rintro ⟨h', tk, m', news', nx, e, F', N', hn, ho, ha, hm⟩
      refine ⟨rfl, h', tk, m', nx, e, F', fun p hp => N' p ((List.mem_append.mp hp).elim (ho p) (hn p)), fun p hp hq => ?_, ha, hm⟩
      have h1 : p.1 ∈ nx.map (·.1) := List.mem_map.mpr ⟨p, hp, rfl⟩
      rw [ha, ← hadr] at h1
      obtain ⟨q, hq1, hq2⟩ := List.mem_map.mp h1
      exact hoff q hq1 (by rw [hq2]; exact hq)
    cases f with
    | ret v => exact .ret p
    | brk => exact .brk p
    | next => exact .next (fin p)
    | cont => exact .cont (fin p)
  · rintro h' tk m' news' F' N' _ ⟨_, hJ⟩
    exact done m' news' h' tk hJ F' N'
/-- one name that holds an int; its value before turn i is st i -/
theorem iter_st {l : Addr} {vs : List Value} {m₀ : Str → Option Value} {news : List (Addr × Obj)} {y : Str} {c₀ : Int} {t₀ : Tok} (st : Nat → Int)
    (hh : A.handled = none) (hl : h₀.IsList l vs.toArray) (F : Fr h₀ env.locals s.heap m₀) (N : News h₀ env.locals s.heap news) (hy : m₀ y = some (.int c₀ t₀)) (h0 : c₀ = st 0)
    (turn : ∀ i v ta h tk own, vs[i]? = some v → OwnOff own (news.map (·.1)) → Fr h₀ env.locals h (fun z => if z = x then some v else if z = y then some (.int (st i) ta) else m₀ z) → News h₀ env.locals h (news ++ own) →
      wpAny (model prog w) A (execs body env) (InvPostN h₀ env.locals (fun m' nx => nx = news ∧ (∃ j t', m' y = some (.int j t') ∧ j = st (i + 1)) ∧ ∀ z, z ≠ x → z ≠ y → m' z = m₀ z) own (news.map (·.1)) { s with heap := h, toks := tk } Q) E { s with heap := h, toks := tk })
    (done : ∀ (u : Str → Option Value) t h tk, Fr h₀ env.locals h (fun z => if z = x then u z else if z = y then some (.int (st vs.length) t) else m₀ z) → News h₀ env.locals h news → Q .next { s with heap := h, toks := tk }) :
    wpAny (model prog w) A (pyIter (.ref l)) (fun it s₂ => LoopAtV prog w A h₀ env x body Q E it s₂) E s := by
  refine iter_vals (fun i m nx => nx = news ∧ (∃ j t', m y = some (.int j t') ∧ j = st i) ∧ ∀ z, z ≠ x → z ≠ y → m z = m₀ z) hh hl F N ⟨rfl, ⟨c₀, t₀, hy, h0⟩, fun _ _ _ => rfl⟩ ?_ ?_
  · rintro i v m₁ nx h tk own hv _ hoff ⟨rfl, ⟨j, t, ha, rfl⟩, hm⟩ F₁ N₁
    have e : (fun z => if z = x then some v else m₁ z) = fun z => if z = x then some v else if z = y then some (Value.int (st i) t) else m₀ z := by
      funext z
      by_cases h1 : z = x
      · simp [h1]
      · simp only [if_neg h1]
        by_cases h2 : z = y
        · subst h2; simp [ha]
        · simp only [if_neg h2]; exact hm z h1 h2
    rw [e] at F₁
    exact turn i v t h tk own hv hoff F₁ N₁
  · rintro m₁ nx h tk ⟨rfl, ⟨j, t, ha, rfl⟩, hm⟩ F₁ N₁
    refine done m₁ t h tk ?_ N₁
    have e : (fun z => if z = x then m₁ z else if z = y then some (Value.int (st vs.length) t) else m₀ z) = m₁ := by
      funext z
      by_cases h1 : z = x
      · simp [h1]
      · simp only [if_neg h1]
        by_cases h2 : z = y
        · subst h2; simp [ha]
        · simp only [if_neg h2]; exact (hm z h1 h2).symm
    rw [e]; exact F₁
end
/-! ### a loop over a list, any target, by an invariant over turn, frame and ledger -/
open PyProof.Rows.LCg PyProof.Rows.LCt
def ForEnd (h₀ : Heap) (L : Addr) (s : Shared) (I : Addr) (oI : Obj) (S : List (Addr × Obj) → Prop) (Jn : (Str → Option Value) → List (Addr × Obj) → Prop) (s₃ : Shared) : Prop :=
  ∃ h' tk' m' nx', s₃ = { s with heap := h', toks := tk' } ∧ Fr h₀ L h' m' ∧ News h₀ L h' ((I, oI) :: nx') ∧ (∀ p ∈ nx', p.1 ≠ I) ∧ S nx' ∧ Jn m' nx'
def ForPost (h₀ : Heap) (L : Addr) (s : Shared) (I : Addr) (oI : Obj) (S : List (Addr × Obj) → Prop) (Jn : (Str → Option Value) → List (Addr × Obj) → Prop) (Q : Flow → Shared → Prop) (f : Flow) (s₃ : Shared) : Prop :=
  match f with
  | .ret v => Q (.ret v) s₃
  | .brk => Q .next s₃
  | _ => ForEnd h₀ L s I oI S Jn s₃
theorem ForEnd.intro {h₀ : Heap} {L : Addr} {s : Shared} {I : Addr} {oI : Obj} {S : List (Addr × Obj) → Prop} {Jn : (Str → Option Value) → List (Addr × Obj) → Prop} {h' : Heap} {tk' : Nat} {m' : Str → Option Value} {all : List (Addr × Obj)}
    (F : Fr h₀ L h' m') (N : News h₀ L h' all) (nx' : List (Addr × Obj)) (sub : ∀ p ∈ (I, oI) :: nx', p ∈ all) (off : ∀ p ∈ nx', p.1 ≠ I) (hS : S nx') (hJ : Jn m' nx') : ForEnd h₀ L s I oI S Jn { s with heap := h', toks := tk' } :=
  ⟨h', tk', m', nx', rfl, F, fun p hp => N p (sub p hp), off, hS, hJ⟩
def ForAt (prog : Program) (w : World) (A : Around) (env : Env) (target : Expr) (body : List Stmt) (Q : Flow → Shared → Prop) (E : Value → Shared → Prop) (it : Value) (s₂ : Shared) : Prop :=
  codeAny (model prog w) A (.forLoop target it body [] env) (fun r s' => match r with | .ok f => Q f s' | .error e => cameBackBy (model prog w) A env E e s') s₂
section
variable {prog : Program} {w : World} {A : Around} {E : Value → Shared → Prop} {s : Shared} {env : Env} {h₀ : Heap} {body : List Stmt} {Q : Flow → Shared → Prop} {target iter : Expr} {pos : Pos}
theorem For_at (h : wpAny (model prog w) A (eval iter env) (fun xv s₁ => wpAny (model prog w) A (pyIter xv) (fun it s₂ => ForAt prog w A env target body Q E it s₂) E s₁) E s)
    (hs : ∀ x, foldedSetIterable iter env x = pure x := by intro _; rfl) : wpAny (model prog w) A (exec (.For target iter body [] pos) env) Q E s := wpAny_For h hs
/-- where the loop stands ahead of turn i -/
def IterSt (h₀ : Heap) (L : Addr) (s : Shared) (l : Addr) (vs : List Value) (J : Nat → (Str → Option Value) → List (Addr × Obj) → Prop) (k : Nat) (s' : Shared) : Prop :=
  ∃ h' tk m' nx i, s' = { s with heap := h', toks := tk } ∧ h'.IsListIter s.heap.objs.size l i ∧ Fr h₀ L h' m' ∧ News h₀ L h' nx ∧ (∀ p ∈ nx, p.1 ≠ s.heap.objs.size) ∧ SrcAt h₀ l vs.toArray nx ∧ J i m' nx ∧ i ≤ vs.length ∧ k = vs.length + 1 - i
theorem iter_list {l : Addr} {vs : List Value} {x : Str} {px : Pos} {L : Addr} {m₀ : Str → Option Value} {news : List (Addr × Obj)} (J : Nat → (Str → Option Value) → List (Addr × Obj) → Prop)
    (hh : A.handled = none) (F : Fr h₀ L s.heap m₀) (N : News h₀ L s.heap news) (hS : SrcAt h₀ l vs.toArray news) (hj : J 0 m₀ news)
    (turn : ∀ i v I oI m₁ nx h tk E', vs[i]? = some v → J i m₁ nx → (∀ p ∈ nx, p.1 ≠ I) → (∀ p ∈ news, p.1 < I) → Fr h₀ L h m₁ → News h₀ L h ((I, oI) :: nx) → SrcAt h₀ l vs.toArray nx →
      wpAny (model prog w) A (storeName env x v) (fun _ s₂ => wpAny (model prog w) A (execs body env) (ForPost h₀ L s I oI (SrcAt h₀ l vs.toArray) (J (i + 1)) Q) E' s₂) E' { s with heap := h, toks := tk })
    (done : ∀ m₁ nx h tk, J vs.length m₁ nx → Fr h₀ L h m₁ → News h₀ L h nx → Q .next { s with heap := h, toks := tk }) :
    wpAny (model prog w) A (pyIter (.ref l)) (fun it s₂ => ForAt prog w A env (.Name x px) body Q E it s₂) E s := by
  have hl := hS.list F.keep N
  have hlt : l < s.heap.objs.size := by obtain ⟨_, e, _⟩ := hl; exact Heap.lt_size e
  refine wpAny_pyIter_list hl ?_
  have up : ∀ b o, s.heap.get? b = some o → (s.heap.push { cls := .type "list_iterator", data := .fields #[.ref l, .int 0 0] }).get? b = some o := fun b o e => Heap.get?_push_of_some _ e
  have hlI : ∀ p ∈ news, p.1 < s.heap.objs.size := fun p hp => Heap.lt_size (N p hp).1
  have hIL : s.heap.objs.size ≠ L := Nat.ne_of_gt F.ns.lt
  have hI₀ : h₀.get? s.heap.objs.size = none := next_is_new F
  have hlI' : l ≠ s.heap.objs.size := Nat.ne_of_lt hlt
  refine codeAny_forLoop (IterSt h₀ L s l vs J) ?_ (vs.length + 1)
    ⟨_, s.toks, m₀, news, 0, rfl, ⟨_, Heap.get?_push_size _ rfl, rfl, rfl⟩, F.keeps up, N.grown up, fun p hp => Nat.ne_of_lt (hlI p hp), hS, hj, Nat.zero_le _, rfl⟩
  rintro k s' ⟨h', tk, m', nx, i, rfl, hit, F', N', hoff, hS', hJ, hi, rfl⟩
  have hl' := hS'.list F'.keep N'
  by_cases hlt' : i < vs.length
  · refine wpAny_pyNext_list_item hit hl' (x := vs[i]) (by simp [hlt']) fun h₁ hit₁ hs₁ => ?_
    have F₁ : Fr h₀ L h₁ m' := F'.change hs₁ hIL hI₀
    have N₁ : News h₀ L h₁ nx := fun p hp => ⟨(hs₁.2 p.1 (hoff p hp)).trans (N' p hp).1, (N' p hp).2⟩
    obtain ⟨oI, hoI, _⟩ := id hit₁
    refine wpAny_assign_Name (wpAny_mono (turn i vs[i] _ oI m' nx h₁ tk _ (by simp [hlt']) hJ hoff hlI F₁ (fun p hp => ?_) hS') (fun _ s₂ h₂ => wpAny_mono h₂ (fun f s₃ h₃ => ?_) fun _ _ e => e) fun _ _ e => e)
    · rcases List.mem_cons.mp hp with rfl | hp
      · exact ⟨hoI, hIL, hI₀⟩
      · exact N₁ p hp
    · have fin : ForEnd h₀ L s s.heap.objs.size oI (SrcAt h₀ l vs.toArray) (J (i + 1)) s₃ → ∃ m, m < vs.length + 1 - i ∧ IterSt h₀ L s l vs J m s₃ := by
        rintro ⟨h₃', tk₃, m₃, nx₃, rfl, F₃, N₃, off₃, S₃, J₃⟩
        refine ⟨vs.length + 1 - (i + 1), om_sub4 (Nat.lt_succ_of_lt hlt'), h₃', tk₃, m₃, nx₃, i + 1, rfl, ?_, F₃, fun p hp => N₃ p (List.mem_cons_of_mem _ hp), off₃, S₃, J₃, hlt', rfl⟩
        obtain ⟨o', e', r'⟩ := hit₁
        have e'' : o' = oI := by rw [hoI] at e'; exact (Option.some.inj e').symm
        exact ⟨o', by rw [e'']; exact (N₃ _ (List.mem_cons_self ..)).1, r'⟩
      cases f with
      | ret v => exact h₃
      | brk => exact h₃
      | next => exact fin h₃
      | cont => exact fin h₃
  · have hin : i = vs.length := Nat.le_antisymm hi (Nat.le_of_not_lt hlt')
    subst hin
    refine wpAny_pyNext_list_end hh hit hl' (by simp) fun h₁ hs₁ => wpAny_execs_nil ?_
    have F₁ : Fr h₀ L h₁ m' := ⟨F'.ns.at' fun o e => hs₁ _ o (Ne.symm hIL) e, fun b o e => hs₁ b o (fun q => by rw [q, hI₀] at e; cases e) (F'.keep b o e), F'.above⟩
    exact done m' nx h₁ tk hJ F₁ fun p hp => ⟨hs₁ _ _ (hoff p hp) (N' p hp).1, (N' p hp).2⟩
end
section
variable {prog : Program} {w : World} {A : Around} {E : Value → Shared → Prop} {s : Shared} {env : Env} {h₀ : Heap} {body : List Stmt} {Q : Flow → Shared → Prop}
/-- the same where the frame's names stay (cells may turn) -/
theorem iter_listM {l : Addr} {vs : List Value} {x : Str} {px : Pos} {L : Addr} {m₀ : Str → Option Value} {news : List (Addr × Obj)} (J : Nat → List (Addr × Obj) → Prop)
    (hh : A.handled = none) (F : Fr h₀ L s.heap m₀) (N : News h₀ L s.heap news) (hS : SrcAt h₀ l vs.toArray news) (hj : J 0 news)
    (turn : ∀ i v I oI nx h tk E', vs[i]? = some v → J i nx → (∀ p ∈ nx, p.1 ≠ I) → (∀ p ∈ news, p.1 < I) → Fr h₀ L h m₀ → News h₀ L h ((I, oI) :: nx) → SrcAt h₀ l vs.toArray nx →
      wpAny (model prog w) A (storeName env x v) (fun _ s₂ => wpAny (model prog w) A (execs body env) (ForPost h₀ L s I oI (SrcAt h₀ l vs.toArray) (fun m' nx => m' = m₀ ∧ J (i + 1) nx) Q) E' s₂) E' { s with heap := h, toks := tk })
    (done : ∀ nx h tk, J vs.length nx → Fr h₀ L h m₀ → News h₀ L h nx → Q .next { s with heap := h, toks := tk }) :
    wpAny (model prog w) A (pyIter (.ref l)) (fun it s₂ => ForAt prog w A env (.Name x px) body Q E it s₂) E s :=
  iter_list (fun i m' nx => m' = m₀ ∧ J i nx) hh F N hS ⟨rfl, hj⟩ (fun i v I oI m₁ nx h tk E' hv hJ a b F₁ N₁ S₁ => by
    obtain ⟨rfl, hJ⟩ := hJ
    exact turn i v I oI nx h tk E' hv hJ a b F₁ N₁ S₁) fun m₁ nx h tk hJ F₁ N₁ => by
    obtain ⟨rfl, hJ⟩ := hJ
    exact done nx h tk hJ F₁ N₁
end
/-! ### comprehensions by an invariant -/
section
variable {prog : Program} {w : World} {A : Around} {s : Shared} {h₀ : Heap} {L : Addr} {m : Str → Option Value} {env : Env} {elt ct : Expr} {x : Str} {scope : Scope} {cl : List (Str × Addr)} {S : List (Addr × Obj) → Prop} {P : Nat → Value → Prop} {Fin : List Value → List (Addr × Obj) → Prop} {n : Nat}
theorem om_i1 {i k n : Nat} (e : i + (k + 1) = n) : i < n := e ▸ Nat.lt_add_of_pos_right (Nat.succ_pos k)
theorem om_i2 {i k n : Nat} (e : i + (k + 1) = n) : i + 1 + k = n := (Nat.succ_add i k).trans e
theorem CompEnd_mono {h₀ : Heap} {L : Addr} {m : Str → Option Value} {s s₂ : Shared} {I C D : Addr} {oI oC oD : Obj} {S : List (Addr × Obj) → Prop} {G G' : Value → List (Addr × Obj) → Prop} {v : Value}
    (h : CompEnd h₀ L m s I oI C oC D oD S G v s₂) (k : ∀ nx, G v nx → G' v nx) : CompEnd h₀ L m s I oI C oC D oD S G' v s₂ := by
  obtain ⟨h', tk', news', a, b, c, d, e', f⟩ := h
  exact ⟨h', tk', news', a, b, c, d, e', k _ f⟩
theorem compRest_inv (J : Nat → List Value → List (Addr × Obj) → Prop)
    (step : ∀ i ys news v I oI C oC D m₂ h tk (E' : Value → Shared → Prop), i < n → J i ys news → P i v → NsObj oC m₂ → m₂ x = some v → Fr h₀ L h m → News h₀ L h ((I, oI) :: (C, oC) :: (D, lst ys) :: news) → Off3 I C D news → ((@Ne Nat I C) ∧ (@Ne Nat I D) ∧ (@Ne Nat C D)) →
      wpAny (model prog w) A (eval elt (compEnvC scope cl C env)) (CompEnd h₀ L m { s with heap := h, toks := tk } I oI C oC D (lst ys) S (fun y news' => J (i + 1) (ys ++ [y]) news')) E' { s with heap := h, toks := tk })
    (fin : ∀ ys news, J n ys news → Fin ys news) : ∀ k i ys news, i + k = n → J i ys news → CompRest prog w A h₀ L m env elt x scope cl s S P Fin k i ys news := by
  intro k
  induction k with
  | zero => exact fun i ys news e hJ => CompRest.zero (fin ys news ((show i = n from e) ▸ hJ))
  | succ k ih =>
    exact fun i ys news e hJ => CompRest.succ fun v I oI C oC D m₂ h tk E' hP ho hx F N o3 ne => wpAny_mono (step i ys news v I oI C oC D m₂ h tk E' (om_i1 e) hJ hP ho hx F N o3 ne)
      (fun y s₂ h₂ => CompEnd_mono h₂ fun _ f => ih _ _ _ (om_i2 e) f) fun _ _ z => z
theorem compRestT_inv (J : Nat → List Value → List (Addr × Obj) → Prop)
    (step : ∀ i ys news v I oI C oC D m₂ h tk (E' : Value → Shared → Prop), i < n → J i ys news → P i v → NsObj oC m₂ → m₂ x = some v → Fr h₀ L h m → News h₀ L h ((I, oI) :: (C, oC) :: (D, lst ys) :: news) → Off3 I C D news → ((@Ne Nat I C) ∧ (@Ne Nat I D) ∧ (@Ne Nat C D)) →
      wpAny (model prog w) A (isTrue ct (compEnvC scope cl C env) (eval ct (compEnvC scope cl C env))) (fun ok s' => if ok = true then
        wpAny (model prog w) A (eval elt (compEnvC scope cl C env)) (CompEnd h₀ L m { s with heap := h, toks := tk } I oI C oC D (lst ys) S (fun y news' => J (i + 1) (ys ++ [y]) news')) E' s'
        else CompEnd h₀ L m { s with heap := h, toks := tk } I oI C oC D (lst ys) S (fun _ news' => J (i + 1) ys news') Value.none s') E' { s with heap := h, toks := tk })
    (fin : ∀ ys news, J n ys news → Fin ys news) : ∀ k i ys news, i + k = n → J i ys news → CompRestT prog w A h₀ L m env ct elt x scope cl s S P Fin k i ys news := by
  intro k
  induction k with
  | zero => exact fun i ys news e hJ => CompRestT.zero (fin ys news ((show i = n from e) ▸ hJ))
  | succ k ih =>
    refine fun i ys news e hJ => CompRestT.succ fun v I oI C oC D m₂ h tk E' hP ho hx F N o3 ne => wpAny_mono (step i ys news v I oI C oC D m₂ h tk E' (om_i1 e) hJ hP ho hx F N o3 ne)
      (fun ok s₂ h₂ => ?_) fun _ _ z => z
    cases ok with
    | true => exact wpAny_mono h₂ (fun y s₃ h₃ => CompEnd_mono h₃ fun _ f => ih _ _ _ (om_i2 e) f) fun _ _ z => z
    | false =>
      have h₃ : CompEnd h₀ L m { s with heap := h, toks := tk } I oI C oC D (lst ys) S (fun _ news' => J (i + 1) ys news') Value.none s₂ := h₂
      exact CompEnd_mono (G' := fun _ nx => CompRestT prog w A h₀ L m env ct elt x scope cl s S P Fin k (i + 1) ys nx) h₃ fun _ f => ih _ _ _ (om_i2 e) f
end
/-- entering a def with cells, over the whole heap at the call -/
theorem enter_cells {prog : Program} {w : World} {A : Around} {s : Shared} {K : Frag} {R : Result → Shared → Prop} {name qual : Str} {params : Arguments} {body : List Stmt} {scope : Scope}
    {dV kV doc pm cdv ct oc : Value} {an od : Option Addr} {osl : Array (Option Value)} {f : Addr} {args : Args} {binds : List (Str × Value)}
    (X : K.In s.heap) (hlim : s.heap.NoLimit)
    (ho : K.lookup f = some ⟨oc, od, .func (fnOf name qual params body scope dV kV doc pm an cdv ct), osl⟩) (hcd : codeIn K cdv qual = true) (hroom : A.depth < recursionLimit)
    (hbind : BindsTo s (fnOf name qual params body scope dV kV doc pm an cdv ct) args binds)
    (hkind : (binds.all fun y => scope.names.lookup y.1 == some .local || scope.names.lookup y.1 == some .cell) = true)
    (hnd : ((cellsFrom 0 scope.names []).map (·.1)).Nodup)
    (h : ∀ L h₁ tk cells, L = s.heap.objs.size → Fr s.heap L h₁ (bindL (envOfC qual scope L f cdv).kindOf binds fun _ => none) → News s.heap L h₁ cells →
      CellsAre (bindC (envOfC qual scope L f cdv).kindOf binds fun _ => none) (cellsFrom (L + 1) scope.names []) cells →
      wpAny (model prog w) (A.deeper (envOfC qual scope L f cdv)) (execs body (envOfC qual scope L f cdv))
        (fun fl s' => R (.ok (.ret (match fl with | .ret v => v | _ => .none))) s') (fun _ _ => False)
        { s with heap := h₁, toks := tk })
    (hco : scope.isCoroutine = false) (hgen : scope.isGenerator = false) (hk : scope.kind = .function) :
    codeAny (model prog w) A (.call (.ref f) args) R s := by
  refine codeAny_call_function hroom (X _ _ ho) rfl hco hgen rfl (codeRec_of X hcd) (hbind _ _ _ _ ?_)
  refine wpAny_newFunctionEnv_cells hk (kindsX hkind _) fun env' he s' x => ?_
  subst he
  refine ⟨hlim.keeps x.toInCall.keep, codeAny_func ?_⟩
  obtain ⟨h₁, tk, rfl, _⟩ := x.done
  obtain ⟨cells, NC, Y⟩ := Cl.news (h₀ := s.heap) (Nat.le_refl _) fun n c hm => ⟨x.cell n c (lookup_of_mem_nodup (cellsFrom_names scope.names 0 (s.heap.objs.size + 1) [] [] rfl ▸ hnd) hm), x.above n c hm⟩
  exact wpAny_mono (h s.heap.objs.size h₁ tk cells rfl ⟨x.toInCall.ns, x.toInCall.keep, Nat.le_refl _⟩ NC Y) (fun fl s' hl => hl) fun _ _ y => y.elim
/-! ### tuples of texts in the ledger -/
abbrev tupOf (vs : List Value) (n : Nat) : Obj := { cls := .type "tuple", data := .seq vs.toArray n }
def TupIn (news : List (Addr × Obj)) (a : Addr) (xs : List Str) : Prop := ∃ vs n, (a, tupOf vs n) ∈ news ∧ StrsAre vs xs
inductive TupsIn (news : List (Addr × Obj)) : List Value → List (List Str) → Prop
  | nil : TupsIn news [] []
  | cons {a : Addr} {xs : List Str} {vs : List Value} {xss : List (List Str)} : TupIn news a xs → TupsIn news vs xss → TupsIn news (.ref a :: vs) (xs :: xss)
theorem TupIn.mono {news news' : List (Addr × Obj)} {a : Addr} {xs : List Str} (h : TupIn news a xs) (k : ∀ p ∈ news, p ∈ news') : TupIn news' a xs :=
  let ⟨vs, n, hm, hs⟩ := h; ⟨vs, n, k _ hm, hs⟩
theorem TupsIn.mono {news news' : List (Addr × Obj)} (k : ∀ p ∈ news, p ∈ news') {vs : List Value} {xss : List (List Str)} (h : TupsIn news vs xss) : TupsIn news' vs xss := by
  induction h with
  | nil => exact .nil
  | cons a _ ih => exact .cons (a.mono k) ih
theorem TupsIn.append {news : List (Addr × Obj)} {vs ws : List Value} {xss yss : List (List Str)} (h : TupsIn news vs xss) (h2 : TupsIn news ws yss) : TupsIn news (vs ++ ws) (xss ++ yss) := by
  induction h with
  | nil => exact h2
  | cons a _ ih => exact .cons a ih
theorem TupsIn.length {news : List (Addr × Obj)} {vs : List Value} {xss : List (List Str)} (h : TupsIn news vs xss) : vs.length = xss.length := by
  induction h with
  | nil => rfl
  | cons _ _ ih => exact congrArg (· + 1) ih
theorem TupsIn.item {news : List (Addr × Obj)} {vs : List Value} {xss : List (List Str)} (h : TupsIn news vs xss) : ∀ (i : Nat) (v : Value), vs[i]? = some v → ∃ a xs, v = .ref a ∧ xss[i]? = some xs ∧ TupIn news a xs := by
  induction h with
  | nil => exact fun _ _ e => nomatch e
  | cons a _ ih =>
    intro i v e
    cases i with
    | zero => exact ⟨_, _, (Option.some.inj e).symm, rfl, a⟩
    | succ i => exact ih i v e
abbrev tupD (xs : List Str) : PyData := .tuple (xs.map .str)
theorem TupIn.reads {h₀ h : Heap} {L : Addr} {news : List (Addr × Obj)} {a : Addr} {xs : List Str} (N : News h₀ L h news) (x : TupIn news a xs) : Reads h (.ref a) (tupD xs) [] := by
  obtain ⟨vs, n, hm, hs⟩ := x
  exact .tuple (N _ hm).1 rfl rfl (by simpa using hs.reads h)
theorem TupsIn.reads {h₀ h : Heap} {L : Addr} {news : List (Addr × Obj)} (N : News h₀ L h news) : ∀ {vs : List Value} {xss : List (List Str)}, TupsIn news vs xss → ReadsAll h vs (xss.map tupD) [] := by
  intro vs xss t
  induction t with
  | nil => exact .nil
  | cons a _ ih => exact .cons (as := []) (bs := []) (a.reads N) ih
theorem any_eqv_tup (xs : List Str) : ∀ xss : List (List Str), (xss.map tupD).any (fun y => PyData.eqv y (tupD xs)) = decide (xs ∈ xss) := by
  have one : ∀ ys zs : List Str, PyData.eqvAll (ys.map .str) (zs.map .str) = decide (zs = ys) := by
    intro ys
    induction ys with
    | nil => intro zs; cases zs <;> simp [PyData.eqvAll]
    | cons y r ih => intro zs; cases zs with
      | nil => simp [PyData.eqvAll]
      | cons z t =>
        simp only [List.map_cons, PyData.eqvAll, PyData.eqv, ih t, List.cons.injEq]
        by_cases h1 : y = z
        · subst h1; simp
        · have h2 : (y == z) = false := by simpa using h1
          have h3 : ¬ z = y := fun e => h1 e.symm
          simp [h2, h3]
  intro xss
  induction xss with
  | nil => simp
  | cons ys r ih =>
    simp only [List.map_cons, List.any_cons, ih, PyData.eqv, one]
    by_cases h : xs = ys
    · simp [h]
    · simp [h]
theorem canLay_strs : ∀ {xs : List Str}, (∀ x ∈ xs, PyData.strOk x = true) → PyData.canLayAll0 (xs.map .str) = true
  | [], _ => rfl
  | x :: r, h => by
    have ih := canLay_strs (xs := r) fun y hy => h y (List.mem_cons_of_mem _ hy)
    have hx := h x (List.mem_cons_self ..)
    simp only [List.map_cons, PyData.canLayAll0, PyData.canLay0, hx, ih, Bool.and_true]
/-- all is news and new objects above it -/
def Grow (news all : List (Addr × Obj)) : Prop := ∃ nw, all = nw ++ news ∧ ∀ q ∈ nw, ∀ p ∈ news, p.1 < q.1
theorem Grow.refl (news : List (Addr × Obj)) : Grow news news := ⟨[], rfl, fun _ h => nomatch h⟩
theorem Grow.trans {a b c : List (Addr × Obj)} (x : Grow a b) (y : Grow b c) : Grow a c := by
  obtain ⟨n1, rfl, h1⟩ := x
  obtain ⟨n2, rfl, h2⟩ := y
  refine ⟨n2 ++ n1, (List.append_assoc ..).symm, fun q hq p hp => ?_⟩
  rcases List.mem_append.mp hq with hq | hq
  · exact h2 q hq p (List.mem_append_right _ hp)
  · exact h1 q hq p hp
theorem Grow.mem {a b : List (Addr × Obj)} (x : Grow a b) {p : Addr × Obj} (h : p ∈ a) : p ∈ b := by
  obtain ⟨n, rfl, _⟩ := x; exact List.mem_append_right _ h
theorem Grow.one {a : Addr} {o : Obj} {news : List (Addr × Obj)} (h : ∀ p ∈ news, p.1 < a) : Grow news ((a, o) :: news) :=
  ⟨[(a, o)], rfl, fun q hq p hp => by rw [List.mem_singleton.mp hq]; exact h p hp⟩
section
variable {prog : Program} {w : World} {A : Around} {E : Value → Shared → Prop} {s : Shared} {h₀ : Heap} {L : Addr} {m : Str → Option Value} {news : List (Addr × Obj)} {Q : Value → Shared → Prop}
/-- rest + (one,) -/
theorem cat_ok {env : Env} {r o : Str} {p1 p2 p3 p4 : Pos} {k : Nat} {a : Addr} {xs : List Str} {n : Str} {t : Tok} (F : Fr h₀ L s.heap m) (N : News h₀ L s.heap news)
    (hr : ∀ Q : Value → Shared → Prop, Q (.ref a) s → wpAny (model prog w) A (eval (.Name r p1) env) Q E s) (ho : ∀ Q : Value → Shared → Prop, Q (.str n t) s → wpAny (model prog w) A (eval (.Name o p2) env) Q E s)
    (ha : TupIn news a xs) (hsz : xs.length ≤ 900)
    (h : ∀ c nw h', Fr h₀ L h' m → News h₀ L h' (nw ++ news) → (∀ q ∈ nw, ∀ p ∈ news, p.1 < q.1) → TupIn nw c (xs ++ [n]) → Q (.ref c) { s with heap := h' }) :
    wpAny (model prog w) A (eval (.BinOp (.Name r p1) .Add (.Tuple [.Name o p2] k p3) p4) env) Q E s := by
  refine wpAny_BinOp (hr _ (Tuple_ (spliced_cons (ho _ (spliced_nil ?_)))))
  refine newTuple_N F N (fun h' F' N' => ?_) (by rw [sizeLine_eq]; simp)
  have o1 : ∀ p ∈ news, p.1 < s.heap.objs.size := fun p hp => Heap.lt_size (N p hp).1
  obtain ⟨vs, n1, hm1, hs1⟩ := ha
  have l1 := hs1.length
  refine add_tuples (ws := [.str n t]) F' N' ⟨_, (N' _ (List.mem_cons_of_mem _ hm1)).1, rfl, _, rfl⟩ ⟨_, (N' _ (List.mem_cons_self ..)).1, rfl, _, rfl⟩ (fun e => ?_) (fun _ e => nomatch e) (fun _ _ h2 F2 N2 => ?_) (by rw [sizeLine_eq]; simp; omega)
  · subst e
    cases hs1
    exact h _ [(s.heap.objs.size, tupOf [.str n t] 0)] h' F' N' (fun q hq p hp => by rw [List.mem_singleton.mp hq]; exact o1 p hp) ⟨_, 0, List.mem_cons_self .., .cons n t .nil⟩
  · refine h _ [(h'.objs.size, tupOf (vs ++ [Value.str n t]) 0), (s.heap.objs.size, tupOf [Value.str n t] 0)] h2 F2 N2 (fun q hq p hp => ?_) ⟨_, 0, List.mem_cons_self .., hs1.append' (.cons n t .nil)⟩
    have o2 := o1 p hp
    have o3 : s.heap.objs.size < h'.objs.size := Heap.lt_size (N' _ (List.mem_cons_self ..)).1
    rcases List.mem_cons.mp hq with rfl | hq
    · exact Nat.lt_trans o2 o3
    · rw [List.mem_singleton.mp hq]; exact o2
theorem depth_strs : ∀ xs : List Str, PyData.depthAll (xs.map .str) = 0
  | [] => rfl
  | x :: r => by simp only [List.map_cons, PyData.depthAll, PyData.depth, depth_strs r, Nat.max_self]
theorem notIn_tups {c D : Addr} {xs : List Str} {xss : List (List Str)} {vs : List Value} {k : Nat} (N : News h₀ L s.heap news) (hD : (D, listOf vs.toArray k) ∈ news) (hs : TupsIn news vs xss) (hc : TupIn news c xs)
    (o1 : ∀ ys ∈ xss, ∀ x ∈ ys, PyData.strOk x = true) (o2 : ∀ x ∈ xs, PyData.strOk x = true) (hu : A.units + 20 < cLine) (h : Q (.bool (!decide (xs ∈ xss))) s) :
    wpAny (model prog w) A (compareOp .NotIn (.ref c) (.ref D)) Q E s := by
  have hl : ∀ {yss : List (List Str)}, (∀ ys ∈ yss, ∀ x ∈ ys, PyData.strOk x = true) → PyData.canLayAll0 (yss.map tupD) = true := by
    intro yss
    induction yss with
    | nil => intro _; rfl
    | cons ys r ih =>
      intro hy
      have h1 := canLay_strs (hy ys (List.mem_cons_self ..))
      have h2 := ih fun zs hz => hy zs (List.mem_cons_of_mem _ hz)
      simp only [List.map_cons, PyData.canLayAll0, PyData.canLay0, h1, h2, Bool.and_true]
  refine PySem.SeqAt.notIn_list_reads (xs := xss.map tupD) (d := tupD xs) (.list (N _ hD).1 rfl rfl (by simpa using hs.reads N)) (hc.reads N) (hl o1) (canLay_strs o2) ?_ (by rw [any_eqv_tup]; exact h)
  have : (tupD xs).depth = 1 := by show PyData.depthAll (xs.map .str) + 1 = 1; rw [depth_strs]
  have h2 : min (PyData.depthAll (xss.map tupD)) (tupD xs).depth ≤ (tupD xs).depth := Nat.min_le_right _ _
  omega
theorem in_tups {c D : Addr} {xs : List Str} {xss : List (List Str)} {ds es : List Addr} (hD : Reads s.heap (.ref D) (.list (xss.map tupD)) ds) (hc : Reads s.heap (.ref c) (tupD xs) es)
    (o1 : ∀ ys ∈ xss, ∀ x ∈ ys, PyData.strOk x = true) (o2 : ∀ x ∈ xs, PyData.strOk x = true) (hu : A.units + 20 < cLine) (h : Q (.bool (decide (xs ∈ xss))) s) :
    wpAny (model prog w) A (compareOp .In (.ref c) (.ref D)) Q E s := by
  have hl : ∀ {yss : List (List Str)}, (∀ ys ∈ yss, ∀ x ∈ ys, PyData.strOk x = true) → PyData.canLayAll0 (yss.map tupD) = true := by
    intro yss
    induction yss with
    | nil => intro _; rfl
    | cons ys r ih =>
      intro hy
      have h1 := canLay_strs (hy ys (List.mem_cons_self ..))
      have h2 := ih fun zs hz => hy zs (List.mem_cons_of_mem _ hz)
      simp only [List.map_cons, PyData.canLayAll0, PyData.canLay0, h1, h2, Bool.and_true]
  refine PySem.SeqAt.in_list_reads (xs := xss.map tupD) (d := tupD xs) hD hc (hl o1) (canLay_strs o2) ?_ (by rw [any_eqv_tup]; exact h)
  have : (tupD xs).depth = 1 := by show PyData.depthAll (xs.map .str) + 1 = 1; rw [depth_strs]
  have h2 : min (PyData.depthAll (xss.map tupD)) (tupD xs).depth ≤ (tupD xs).depth := Nat.min_le_right _ _
  omega
end
end Mine
end
section
open PySem PySem.W PySem.Calls PyProof.Rows PyProof.V PySem.Spec
set_option Elab.async false
set_option maxRecDepth 100000
set_option maxHeartbeats 4000000
namespace Mine
theorem offPbLeads : True := by
  w_top off
  k_with_none
  trivial
/-- how far the qualifiers are found, going through the names -/
def adv (qs : List Str) : List Str → Nat → Nat
  | [], k => k
  | n :: r, k => adv qs r (if qs[k]? = some n then k + 1 else k)
def leads (ns qs : List Str) : Bool := decide (adv qs ns 0 = qs.length)
theorem adv_append (qs : List Str) : ∀ (a b : List Str) (k : Nat), adv qs (a ++ b) k = adv qs b (adv qs a k)
  | [], _, _ => rfl
  | _ :: a, b, _ => adv_append qs a b _
theorem adv_take {qs ns : List Str} {i : Nat} {n : Str} (h : ns[i]? = some n) : adv qs (ns.take (i + 1)) 0 = if qs[adv qs (ns.take i) 0]? = some n then adv qs (ns.take i) 0 + 1 else adv qs (ns.take i) 0 := by
  rw [List.take_add_one, h, adv_append]; rfl
theorem adv_hit {qs ns : List Str} {i : Nat} {n : Str} (h : ns[i]? = some n) (hlt : adv qs (ns.take i) 0 < qs.length) (e : n = qs.getD (adv qs (ns.take i) 0) Str.empty) :
    adv qs (ns.take (i + 1)) 0 = adv qs (ns.take i) 0 + 1 := by
  rw [adv_take h, if_pos]
  rw [e, List.getD_eq_getElem?_getD, List.getElem?_eq_getElem hlt]; rfl
theorem adv_miss {qs ns : List Str} {i : Nat} {n : Str} (h : ns[i]? = some n) (e : ¬ n = qs.getD (adv qs (ns.take i) 0) Str.empty) :
    adv qs (ns.take (i + 1)) 0 = adv qs (ns.take i) 0 := by
  rw [adv_take h, if_neg]
  intro q
  exact e (by rw [List.getD_eq_getElem?_getD, q]; rfl)
theorem adv_full {qs ns : List Str} {i : Nat} {n : Str} (h : ns[i]? = some n) (hge : qs.length ≤ adv qs (ns.take i) 0) :
    adv qs (ns.take (i + 1)) 0 = adv qs (ns.take i) 0 := by
  rw [adv_take h, if_neg]
  rw [List.getElem?_eq_none hge]; exact fun q => nomatch q
theorem leads_ok {w : World} {mg mb : Str → Option Value} {A : Around} {s : Shared} {Q E : Value → Shared → Prop}
    (X : (Mine.hd.heap_39 w.params).In s.heap) (T : TopRead Mine.hd.view_39 (looseW Mine.hd.view_39 [Str.ofString "LedgerError"]) mg mb s.heap)
    (hh : A.handled = none) (hd : A.depth + 1 < recursionLimit) (hu : A.units + 50 < cLine)
    {a b : Addr} {vs qs : List Value} {ns ms : List Str} (ha : s.heap.IsList a vs.toArray) (hvs : StrsAre vs ns) (hb : IsTup s.heap b qs.toArray) (hqs : StrsAre qs ms)
    (hn : ns.length ≤ 1000) (hm : ms.length ≤ 1000)
    (ret : ∀ h' tk', (∀ b o, s.heap.get? b = some o → h'.get? b = some o) → Q (.bool (leads ns ms)) { s with heap := h', toks := tk' }) :
    wpAny (model Challenge.rw_pb0235_01.row.prog w) A (call (.ref 191) [.ref a, .ref b]) Q E s := by
  revert X; k_fill; intro X
  refine wpAny_call ?_
  refine' enter_plain X T.nolimit ?ho ?hcd ?hroom ?hbind ?hloc ?_ ?c2 ?c3 ?c4 ?c5
  case ho => k_is
  case hcd => k_is
  case hroom => exact om_u0 hd
  case hbind => exact (BindsTo.of_eq (binds := [(Str.ofString "around", .ref a), (Str.ofString "qualifiers", .ref b)]) rfl)
  case hloc => exact locs rfl
  case c2 => rfl
  case c3 => rfl
  case c4 => rfl
  case c5 => decide
  intro h₁ F
  have N : News s.heap s.heap.objs.size h₁ [] := News.nil
  try dsimp only
  try k_fold
  have hqm : qs.length = ms.length := hqs.length
  k_with "pyIter ref" => ((rename Fr _ _ _ _ => lF'); (rename News _ _ _ _ => lN'); (with_unfolding_all refine' iter_st (y := Str.ofString "at") (fun i => (adv ms (ns.take i) 0 : Int)) hh ha lF' lN' (by rfl) (by rfl) (fun i v ta h tk own hv hoff F' N' => ?_) (fun u t h tk F' N' => ?_)); (all_goals clear lF' lN'); rotate_left; (try k_fold); rotate_right; (obtain ⟨n, tn, hve, hnn⟩ := StrsAre.item hvs i v hv); subst hve; (try k_fold))
  k_with "call builtin:len" => (refine PyProof.Rows.len_tuple (IsTup.keeps hb (Fr.keep (by assumption))) ?_ ?_; (simp only [List.size_toArray]; omega))
  k_with "subscriptTail" => (refine item_strsTu (IsTup.keeps hb (Fr.keep (by assumption))) hqs ?_ ?_ ?_ (fun t' => ?_) (by with_unfolding_all rfl) (by intro _; with_unfolding_all rfl); (all_goals try (simp only [List.size_toArray, decide_eq_true_eq] at *; omega)))
  k_with "InvEndN" => (refine InvEndN.intro (by assumption) (by assumption) ⟨rfl, ⟨_, _, by rfl, ?_⟩, by k_same2⟩ (by rfl) (by exact List.forall_mem_nil _) (by intro p hp; exact hp))
  k_steps
  · rename_i h1 h2 _ _ _
    simp only [List.size_toArray, Int.toNat_natCast, beq_iff_eq] at h1 h2
    rw [adv_hit hnn (by omega) h2]; rfl
  · rename_i h1 h2
    simp only [Int.toNat_natCast, beq_eq_false_iff_ne, ne_eq] at h2
    rw [adv_miss hnn h2]
  · rename_i h1
    simp only [List.size_toArray] at h1
    rw [adv_full hnn (by omega)]
  · have e : ((adv ms (List.take vs.length ns) 0 : Int) == ((qs.toArray.size : Nat) : Int)) = leads ns ms := by
      rw [List.size_toArray, hqm, hvs.length, List.take_length, leads, Bool.eq_iff_iff]
      simp only [beq_iff_eq, decide_eq_true_eq]; omega
    rw [e]
    exact ret _ _ (Fr.keep (by assumption))
end Mine
end
section
open PySem PySem.W PySem.Calls PyProof.Rows PyProof.V PySem.Spec
set_option Elab.async false
set_option maxRecDepth 100000
set_option maxHeartbeats 4000000
namespace Mine
theorem offPbDraw : True := by
  w_top off
  k_with_none
  trivial
/-- what a draw leaves of the tape -/
structure TapeAt (h : Heap) (tp cl : Addr) (ns : List Int) (k : Int) : Prop where
  tape : ∃ t c, h.get? tp = some (listOf #[.ref cl, .int k t] c)
  cells : ∃ vs c, h.get? cl = some (listOf (vs : List Value).toArray c) ∧ IntsAre vs ns
  apart : tp ≠ cl
  some_ : ns ≠ []
  few : ns.length ≤ 100
  lo : 0 ≤ k
  hi : k ≤ 1000
theorem fmod_nonneg_of_pos (a : Int) {b : Int} (h : 0 < b) : 0 ≤ Int.fmod a b := by
  rw [Int.fmod_eq_emod_of_nonneg _ (Int.le_of_lt h)]; exact Int.emod_nonneg _ (Int.ne_of_gt h)
theorem draw_ok {w : World} {mg mb : Str → Option Value} {A : Around} {s : Shared} {Q E : Value → Shared → Prop} {b : Heap}
    (X : (Mine.hd.heap_39 w.params).In b) (T : TopRead Mine.hd.view_39 (looseW Mine.hd.view_39 [Str.ofString "LedgerError"]) mg mb b) (hb : b.StaysIn s.heap)
    (hh : A.handled = none) (hd : A.depth + 1 < recursionLimit) (hu : A.units + 50 < cLine)
    {tp cl : Addr} {ns : List Int} {k lim : Int} {lt : Tok} (H : TapeAt s.heap tp cl ns k) (hk : k < 1000) (btp : b.get? tp = none) (bcl : b.get? cl = none) (hl : 1 ≤ lim) (hl2 : lim ≤ 8)
    (ret : ∀ r t h' tk' ns', 0 ≤ r → r < lim → TapeAt h' tp cl ns' (k + 1) → (∀ a o, s.heap.get? a = some o → a ≠ tp → a ≠ cl → h'.get? a = some o) → Q (.int r t) { s with heap := h', toks := tk' }) :
    wpAny (model Challenge.rw_pb0235_01.row.prog w) A (call (.ref 210) [.ref tp, .int lim lt]) Q E s := by
  obtain ⟨⟨t₀, c₁, htp⟩, ⟨vs, c₂, hcl, hi⟩, hne, hsome, hfew, hk0, hk1⟩ := H
  revert X; k_fill; intro X
  refine wpAny_call ?_
  refine' enter_mut (news := [(tp, listOf #[.ref cl, .int k t₀] c₁), (cl, listOf vs.toArray c₂)]) X T.nolimit hb ?hn ?ho ?hcd ?hroom ?hbind ?hloc ?_ ?c2 ?c3 ?c4 ?c5
  case ho => k_is
  case hcd => k_is
  case hroom => exact om_u0 hd
  case hbind => exact (BindsTo.of_eq (binds := [(Str.ofString "tape", .ref tp), (Str.ofString "limit", .int lim lt)]) rfl)
  case hloc => exact locs rfl
  case c2 => rfl
  case c3 => rfl
  case c4 => rfl
  case c5 => decide
  case hn =>
    intro p hp
    rcases List.mem_cons.mp hp with rfl | hp
    · exact ⟨htp, btp⟩
    · rw [List.mem_singleton.mp hp]; exact ⟨hcl, bcl⟩
  intro g h₁ hg hkeep F N l1
  have Xg := X.keeps hg
  have Tg := T.keeps hg
  clear X T hb htp hcl hg
  have hlen : vs.length = ns.length := hi.length
  have hpos : 0 < ns.length := List.length_pos_iff.mpr hsome
  have hn1 : @Ne Nat tp cl := hne
  have hn2 : @Ne Nat cl tp := Ne.symm hne
  have hs0 : 0 ≤ Int.fmod k ↑vs.toArray.size := Int.fmod_nonneg hk0 (Int.natCast_nonneg _)
  have hs1 : Int.fmod k ↑vs.toArray.size < ns.length := by
    have := Int.fmod_lt_of_pos k (b := ↑vs.toArray.size) (by rw [List.size_toArray, hlen]; exact Int.ofNat_lt.mpr hpos)
    rw [List.size_toArray, hlen] at this ⊢; exact this
  have hfew62 : ns.length < 2 ^ 62 := Nat.lt_of_le_of_lt hfew (by decide)
  k_with_none
  k_with "binaryOp Mod int int" => (refine mod_int' ?_ ?_; (first | omega | (simp only [List.size_toArray]; omega)))
  k_with "subscriptTail Name Name ref int" => (refine ksa_sub (by assumption) (by k_mem) hi hs0 hs1 hfew62 (fun t => ?_) (by with_unfolding_all rfl))
  k_with "setItem ref int" => (k_dflt (refine' ksa_set ?k1 ?k2 ?k3 hi hs0 hs1 hfew62 ?_; (case k1 => k_asm); (case k2 => k_asm); (case k3 => k_upd)); intro h' F' N' hi' hl' hs')
  try dsimp only
  try k_fold
  k_steps
  all_goals (
    show Q _ _
    rename News _ _ _ _ => NN
    rename Fr _ _ _ _ => FF
    rename IntsAre (List.set _ _ _) _ => II
    refine ret _ _ _ _ _ (fmod_nonneg_of_pos _ (Int.lt_of_lt_of_le (by decide) hl)) (Int.fmod_lt_of_pos _ (Int.lt_of_lt_of_le (by decide) hl)) ⟨⟨_, _, (NN _ (.head _)).1⟩, ⟨_, _, (NN _ (.tail _ (.head _))).1, II⟩, hne, ?_, ?_, Int.add_nonneg hk0 (by decide), hk⟩ (fun a o e h1 h2 => FF.keep a o (hkeep a o e (by
      intro q
      rcases List.mem_cons.mp q with q | q
      · exact h1 q
      · exact h2 (List.mem_singleton.mp q))))
    · intro q
      have := congrArg List.length q
      rw [List.length_set] at this
      exact absurd hpos (by rw [this]; exact Nat.lt_irrefl 0)
    · simp only [List.length_set]; exact hfew)
end Mine
end
section
open PySem PySem.W PySem.Calls PyProof.Rows PyProof.V PySem.Spec PyProof.Rows.LCg PyProof.Rows.LCt
set_option Elab.async false
set_option maxRecDepth 100000
set_option maxHeartbeats 4000000
namespace Mine
theorem offPbRests : True := by
  w_top off
  k_with_none
  trivial
def restsStep (xss : List (List Str)) (n : Str) : List (List Str) := xss ++ (xss.map (· ++ [n])).filter (fun r => !decide (r ∈ xss))
def restsL (ns : List Str) : List (List Str) := ns.foldl restsStep [[]]
theorem restsL_snoc (ns : List Str) (n : Str) : restsL (ns ++ [n]) = restsStep (restsL ns) n := by simp [restsL]
theorem restsL_take {ns : List Str} {i : Nat} {n : Str} (h : ns[i]? = some n) : restsL (ns.take (i + 1)) = restsStep (restsL (ns.take i)) n := by
  rw [List.take_add_one, h]; exact restsL_snoc _ _
theorem restsStep_len (xss : List (List Str)) (n : Str) : (restsStep xss n).length ≤ 2 * xss.length := by
  unfold restsStep
  have := List.length_filter_le (fun r => !decide (r ∈ xss)) (xss.map (· ++ [n]))
  simp only [List.length_append, List.length_map] at this ⊢
  omega
theorem foldl_rests_len : ∀ (ns : List Str) (xss : List (List Str)), (ns.foldl restsStep xss).length ≤ 2 ^ ns.length * xss.length
  | [], xss => by simp
  | n :: r, xss => by
    have h1 := foldl_rests_len r (restsStep xss n)
    have h2 := restsStep_len xss n
    simp only [List.foldl_cons, List.length_cons]
    calc _ ≤ 2 ^ r.length * (restsStep xss n).length := h1
      _ ≤ 2 ^ r.length * (2 * xss.length) := Nat.mul_le_mul_left _ h2
      _ = 2 ^ (r.length + 1) * xss.length := by rw [Nat.pow_succ, Nat.mul_assoc]
theorem restsL_len {ns : List Str} (h : ns.length ≤ 8) : (restsL ns).length ≤ 256 := by
  have h1 := foldl_rests_len ns [[]]
  have h2 : 2 ^ ns.length ≤ 2 ^ 8 := Nat.pow_le_pow_right (by decide) h
  simp only [List.length_cons, List.length_nil] at h1
  unfold restsL
  omega
theorem mem_rests_sub : ∀ (ns : List Str) (xss : List (List Str)) (P : Str → Prop), (∀ n ∈ ns, P n) → (∀ xs ∈ xss, ∀ x ∈ xs, P x) → ∀ xs ∈ ns.foldl restsStep xss, ∀ x ∈ xs, P x
  | [], _, _, _, h, xs, hx => h xs hx
  | n :: r, xss, P, hn, h, xs, hx => by
    refine mem_rests_sub r (restsStep xss n) P (fun m hm => hn m (List.mem_cons_of_mem _ hm)) (fun ys hy y hyy => ?_) xs hx
    unfold restsStep at hy
    rcases List.mem_append.mp hy with hy | hy
    · exact h ys hy y hyy
    · obtain ⟨zs, hz, rfl⟩ := List.mem_map.mp (List.mem_filter.mp hy).1
      rcases List.mem_append.mp hyy with q | q
      · exact h zs hz y q
      · rw [List.mem_singleton.mp q]; exact hn n (List.mem_cons_self ..)
theorem restsL_ok {ns : List Str} {P : Str → Prop} (h : ∀ n ∈ ns, P n) : ∀ xs ∈ restsL ns, ∀ x ∈ xs, P x :=
  mem_rests_sub ns [[]] P h fun xs hx => by rw [List.mem_singleton.mp hx]; exact fun x q => nomatch q
theorem rests_short : ∀ (ns : List Str) (xss : List (List Str)) (k : Nat), (∀ xs ∈ xss, xs.length ≤ k) → ∀ xs ∈ ns.foldl restsStep xss, xs.length ≤ k + ns.length
  | [], _, _, h, xs, hx => h xs hx
  | n :: r, xss, k, h, xs, hx => by
    have := rests_short r (restsStep xss n) (k + 1) (fun ys hy => by
      unfold restsStep at hy
      rcases List.mem_append.mp hy with hy | hy
      · exact Nat.le_succ_of_le (h ys hy)
      · obtain ⟨zs, hz, rfl⟩ := List.mem_map.mp (List.mem_filter.mp hy).1
        have := h zs hz
        simp only [List.length_append, List.length_singleton]; omega) xs hx
    simp only [List.length_cons]; omega
theorem restsL_short (ns : List Str) : ∀ xs ∈ restsL ns, xs.length ≤ ns.length := fun xs hx => by
  have := rests_short ns [[]] 0 (fun xs hx => by rw [List.mem_singleton.mp hx]; exact Nat.le_refl _) xs hx
  rwa [Nat.zero_add] at this
theorem filter_take_snoc {xss : List (List Str)} {i : Nat} {xs : List Str} {n : Str} (h : xss[i]? = some xs) :
    ((xss.take (i + 1)).map (· ++ [n])).filter (fun r => !decide (r ∈ xss)) = ((xss.take i).map (· ++ [n])).filter (fun r => !decide (r ∈ xss)) ++ (if xs ++ [n] ∈ xss then [] else [xs ++ [n]]) := by
  rw [List.take_add_one, h]
  simp only [Option.toList_some, List.map_append, List.map_cons, List.map_nil, List.filter_append, List.filter_cons, List.filter_nil]
  by_cases q : xs ++ [n] ∈ xss <;> simp [q]
theorem rests_end {h₀ : Heap} {L I2 C D2 I c1 c2 D : Addr} {oI2 oC oD2 oI oF oO : Obj} {m : Str → Option Value} {s : Shared} {rest rest' nw : List (Addr × Obj)} {its : Array Value} {c : Nat} {R : Value → List (Addr × Obj) → Prop} {h5 : Heap} {tk : Nat} {y : Value}
    (F5 : Fr h₀ L h5 m) (N5 : News h₀ L h5 (nw ++ ((I2, oI2) :: (C, oC) :: (D2, oD2) :: (I, oI) :: (c1, oF) :: (c2, oO) :: rest'))) (o5 : ∀ q ∈ nw, ∀ p ∈ (I2, oI2) :: (C, oC) :: (D2, oD2) :: (I, oI) :: (c1, oF) :: (c2, oO) :: rest', p.1 < q.1)
    (off : Off3 I2 C D2 ((I, oI) :: (c1, oF) :: (c2, oO) :: rest')) (k1 : ∀ p ∈ rest, p ∈ rest') (k2 : ∀ p ∈ rest', c2 < p.1) (k3 : ∀ p ∈ rest', p.1 ≠ I) (hD : (D, W.listOf its c) ∈ rest)
    (hR : ∀ r2, (∀ p ∈ rest, p ∈ r2) → (∀ p ∈ r2, c2 < p.1) → (∀ p ∈ r2, p.1 ≠ I) → (∀ p ∈ nw ++ rest', p ∈ r2) → R y ((I, oI) :: (c1, oF) :: (c2, oO) :: r2)) :
    CompEnd h₀ L m s I2 oI2 C oC D2 oD2 (SrcAt h₀ D its) R y { s with heap := h5, toks := tk } := by
  refine CompEnd.intro F5 N5 ((I, oI) :: (c1, oF) :: (c2, oO) :: (nw ++ rest')) (fun p hp => ?_) (Off3.of fun p hp => ?_) ?_ (hR (nw ++ rest') (fun p hp => List.mem_append_right _ (k1 p hp)) (fun p hp => ?_) (fun p hp => ?_) (fun _ h => h))
  · simp only [List.mem_cons, List.mem_append] at hp ⊢
    rcases hp with h | h | h | h | h | h | h | h <;> simp [h]
  · have off' := off.mem
    have key : p ∈ nw → p.1 ≠ I2 ∧ p.1 ≠ C ∧ p.1 ≠ D2 := fun q =>
      ⟨Nat.ne_of_gt (o5 p q (I2, oI2) (by simp)), Nat.ne_of_gt (o5 p q (C, oC) (by simp)), Nat.ne_of_gt (o5 p q (D2, oD2) (by simp))⟩
    simp only [List.mem_cons, List.mem_append] at hp
    rcases hp with h | h | h | h | h
    · exact off' p (by simp [h])
    · exact off' p (by simp [h])
    · exact off' p (by simp [h])
    · exact key h
    · exact off' p (by simp [h])
  · exact .inr ⟨W.listOf its c, List.mem_cons_of_mem _ (List.mem_cons_of_mem _ (List.mem_cons_of_mem _ (List.mem_append_right _ (k1 _ hD)))), rfl, c, rfl⟩
  · rcases List.mem_append.mp hp with q | q
    · exact o5 p q (c2, oO) (by simp)
    · exact k2 p q
  · rcases List.mem_append.mp hp with q | q
    · exact Nat.ne_of_gt (o5 p q (I, oI) (by simp))
    · exact k3 p q
theorem rests_ok {w : World} {mg mb : Str → Option Value} {A : Around} {s : Shared} {Q E : Value → Shared → Prop}
    (X : (Mine.hd.heap_39 w.params).In s.heap) (T : TopRead Mine.hd.view_39 (looseW Mine.hd.view_39 [Str.ofString "LedgerError"]) mg mb s.heap)
    (hh : A.handled = none) (hd : A.depth + 1 < recursionLimit) (hu : A.units + 90 < cLine)
    {a : Addr} {vs : List Value} {ns : List Str} (ha : s.heap.IsList a vs.toArray) (hvs : StrsAre vs ns)
    (hn : ns.length ≤ 8) (hok : ∀ x ∈ ns, PyData.strOk x = true)
    (ret : ∀ D h' tk' ws c news, (∀ b o, s.heap.get? b = some o → h'.get? b = some o) → h'.get? D = some (listOf (ws : List Value).toArray c) → s.heap.get? D = none → TupsIn news ws (restsL ns) → (∀ p ∈ news, h'.get? p.1 = some p.2 ∧ s.heap.get? p.1 = none) → Q (.ref D) { s with heap := h', toks := tk' }) :
    wpAny (model Challenge.rw_pb0235_01.row.prog w) A (call (.ref 216) [.ref a]) Q E s := by
  revert X; k_fill; intro X
  refine wpAny_call ?_
  refine' enter_cells X T.nolimit ?ho ?hcd ?hroom ?hbind ?hkind ?hnd ?_ ?c2 ?c3 ?c4
  case ho => k_is
  case hcd => k_is
  case hroom => exact om_u0 hd
  case hbind => exact (BindsTo.of_eq (binds := [(Str.ofString "row", .ref a)]) rfl)
  case hkind => rfl
  case hnd => decide +kernel
  case c2 => rfl
  case c3 => rfl
  case c4 => rfl
  intro L h₁ tk cells hL F N Y
  obtain ⟨oO, oF0, hE, d1, d2⟩ := CellsAre.two Y
  subst hE
  clear Y
  try dsimp only
  try k_fold
  k_with_none
  k_with "exec For Name Name cons nil" => (refine For_at ?_)
  k_steps
  rename Fr _ _ _ _ => lF
  rename News _ _ _ _ => lN
  rename Obj.data _ = Data.cell (some (Value.ref _)) => dF
  rename_i t0 _ l1 l0 _ l2 _ oF
  have lN' : News s.heap L _ [(L + 1, oF), (L + 1 + 1, oO), (l0, W.listOf #[.ref t0] 0), (t0, tupOf [] 0)] := fun p hp => lN p (by
    simp only [List.mem_cons, List.not_mem_nil, or_false] at hp ⊢
    rcases hp with h | h | h | h <;> simp [h])
  clear lN
  refine iter_listM (fun i nx => ∃ oF oO D ws c rest, nx = (L + 1, oF) :: (L + 1 + 1, oO) :: rest ∧ oF.data = .cell (some (.ref D)) ∧ (∃ v, oO.data = .cell v) ∧ (∀ p ∈ rest, L + 1 + 1 < p.1) ∧ (D, W.listOf ws.toArray c) ∈ rest ∧ TupsIn rest ws (restsL (ns.take i))) hh lF lN' (.inl ha) ?j0 ?turn ?done
  case j0 =>
    refine ⟨oF, oO, l0, [.ref t0], 0, _, rfl, dF, ⟨_, d1⟩, ?_, List.mem_cons_self .., .cons ⟨[], 0, List.mem_cons_of_mem _ (List.mem_cons_self ..), .nil⟩ .nil⟩
    intro p hp
    simp only [List.mem_cons, List.not_mem_nil, or_false] at hp
    rcases hp with rfl | rfl
    · exact l2.2.1
    · exact l1.1
  case done =>
    rintro nx h tk ⟨oF, oO, D, ws, c, rest, rfl, dF, -, hr, hD, hT⟩ F N
    rw [hvs.length, List.take_length] at hT
    show wpAny _ _ (execs _ _) _ _ _
    have k1 := fun p hp => N p (List.mem_cons_of_mem (L + 1, oF) (List.mem_cons_of_mem (L + 1 + 1, oO) hp))
    k_with_none
    k_steps
    exact ret D _ _ ws c rest (Fr.keep (by assumption)) (k1 _ hD).1 (k1 _ hD).2.2 hT fun p hp => ⟨(k1 p hp).1, (k1 p hp).2.2⟩
  case turn =>
    rintro i v I oI nx h tk E' hv ⟨oF, oO, D, ws, c, rest, rfl, dF, ⟨vO, dO⟩, hr, hD, hT⟩ hI hI2 F N S
    obtain ⟨n, tn, rfl, hnn⟩ := StrsAre.item hvs i v hv
    have i1 : @Ne Nat I (L + 1) := Ne.symm (hI (L + 1, oF) (List.mem_cons_self ..))
    have i2 : @Ne Nat I (L + 1 + 1) := Ne.symm (hI (L + 1 + 1, oO) (List.mem_cons_of_mem _ (List.mem_cons_self ..)))
    refine storeX_C F N rfl (.tail i2 (.tail (Ne.symm (Nat.succ_ne_self (L + 1))) (.head fun p hp => Nat.ne_of_gt (hr p hp)))) dO (fun h2 oO2 F2 N2 dO2 => ?_)
    try dsimp only at N2
    k_with_none
    k_steps
    refine LCt.ListComp_T (F₀ := F2) (by with_unfolding_all rfl) (by decide) (by rfl) (by decide) (by rfl) ?_
    refine nameX_C N2 rfl (List.mem_cons_of_mem _ (List.mem_cons_self ..)) dF ?_
    generalize hxss : restsL (ns.take i) = xss at hT
    have hlen : ws.length = xss.length := hT.length
    have hl256 : xss.length ≤ 256 := by rw [← hxss]; exact restsL_len (by rw [List.length_take]; exact Nat.le_trans (Nat.min_le_right _ _) hn)
    have hsh : ∀ xs ∈ xss, xs.length ≤ 8 := fun xs hx => by
      have := restsL_short (ns.take i) xs (by rw [hxss]; exact hx)
      rw [List.length_take] at this; exact Nat.le_trans this (Nat.le_trans (Nat.min_le_right _ _) hn)
    have hokn : PyData.strOk n = true := hok n (List.mem_of_getElem? hnn)
    have hokx : ∀ xs ∈ xss, ∀ x ∈ xs, PyData.strOk x = true := by
      rw [← hxss]; exact restsL_ok fun x hx => hok x (List.mem_of_mem_take hx)
    have hDm : (D, W.listOf ws.toArray c) ∈ (I, oI) :: (L + 1, oF) :: (L + 1 + 1, oO2) :: rest := List.mem_cons_of_mem _ (List.mem_cons_of_mem _ (List.mem_cons_of_mem _ hD))
    refine LCt.CompSrcT.ledger hh F2 N2 hDm (by rw [List.size_toArray, sizeLine_eq, hlen]; exact Nat.le_trans hl256 (by decide)) (fun g => compRestT_inv (n := ws.toArray.size)
      (fun j ys nx => ∃ rest', nx = (I, oI) :: (L + 1, oF) :: (L + 1 + 1, oO2) :: rest' ∧ (∀ p ∈ rest, p ∈ rest') ∧ (∀ p ∈ rest', L + 1 + 1 < p.1) ∧ (∀ p ∈ rest', p.1 ≠ I) ∧
        TupsIn rest' ys (((xss.take j).map (· ++ [n])).filter (fun r => !decide (r ∈ xss)))) ?step ?fin _ 0 [] _ (Nat.zero_add _) ?start)
    case start => exact ⟨rest, rfl, fun _ h => h, hr, fun p hp => hI p (List.mem_cons_of_mem _ (List.mem_cons_of_mem _ hp)), by simpa using TupsIn.nil⟩
    case step =>
      rintro j ys nx v I2 oI2 C oC D2 m2 h3 tk3 E3 hj ⟨rest', rfl, k1, k2, k3, hT2⟩ hP hC hx F3 N3 off ne
      have hP' : ws[j]? = some v := by simpa using hP
      obtain ⟨a1, xs, rfl, hxs, hat⟩ := hT.item j v hP'
      have hxm : xs ∈ xss := List.mem_of_getElem? hxs
      have hmF : (L + 1, oF) ∈ (I2, oI2) :: (C, oC) :: (D2, lst ys) :: (I, oI) :: (L + 1, oF) :: (L + 1 + 1, oO2) :: rest' := by simp
      have hmO : (L + 1 + 1, oO2) ∈ (I2, oI2) :: (C, oC) :: (D2, lst ys) :: (I, oI) :: (L + 1, oF) :: (L + 1 + 1, oO2) :: rest' := by simp
      have hmC : (C, oC) ∈ (I2, oI2) :: (C, oC) :: (D2, lst ys) :: (I, oI) :: (L + 1, oF) :: (L + 1 + 1, oO2) :: rest' := by simp
      have hup : ∀ p ∈ rest, p ∈ (I2, oI2) :: (C, oC) :: (D2, lst ys) :: (I, oI) :: (L + 1, oF) :: (L + 1 + 1, oO2) :: rest' := fun p hp => by
        have := k1 p hp
        simp [this]
      refine wpAny_isTrue_Compare1 (cat_ok F3 N3 (fun Q q => LCgL.ld_own N3 hmC hC hx q) (fun Q q => lcf_cell N3 rfl hmO dO2 q rfl rfl) (hat.mono hup) (Nat.le_trans (hsh xs hxm) (by decide)) (fun c1 nw h4 F4 N4 o4 hc => ?_)) (by with_unfolding_all rfl)
      refine lcf_cell N4 rfl (List.mem_append_right _ hmF) dF ?_ rfl rfl
      have hokc : ∀ x ∈ xs ++ [n], PyData.strOk x = true := fun x hx => by
        rcases List.mem_append.mp hx with q | q
        · exact hokx xs hxm x q
        · rw [List.mem_singleton.mp q]; exact hokn
      refine notIn_tups N4 (List.mem_append_right _ (hup _ hD)) (hT.mono fun p hp => List.mem_append_right _ (hup p hp)) (hc.mono fun p hp => List.mem_append_left _ hp) hokx hokc (by show A.units + 3 + 20 < cLine; exact om_u2 (by assumption) (by decide)) ?_
      refine wpAny_truthy_bool ?_
      by_cases hin : xs ++ [n] ∈ xss
      · rw [decide_eq_true hin]
        simp only [Bool.not_true, Bool.false_eq_true, if_false]
        refine rests_end F4 N4 o4 off k1 k2 k3 hD (fun r2 q1 q2 q3 q4 => ⟨r2, rfl, q1, q2, q3, ?_⟩)
        rw [filter_take_snoc hxs, if_pos hin, List.append_nil]
        exact hT2.mono fun p hp => q4 p (List.mem_append_right _ hp)
      · rw [decide_eq_false hin]
        simp only [Bool.not_false, if_true]
        refine cat_ok F4 N4 (fun Q q => LCgL.ld_own N4 (List.mem_append_right _ hmC) hC hx q) (fun Q q => lcf_cell N4 rfl (List.mem_append_right _ hmO) dO2 q rfl rfl) (hat.mono fun p hp => List.mem_append_right _ (hup p hp)) (Nat.le_trans (hsh xs hxm) (by decide)) (fun c2 nw2 h5 F5 N5 o5 hc2 => ?_)
        refine rests_end (nw := nw2 ++ nw) F5 (by rw [List.append_assoc]; exact N5) (fun q hq p hp => ?_) off k1 k2 k3 hD (fun r2 q1 q2 q3 q4 => ⟨r2, rfl, q1, q2, q3, ?_⟩)
        · rcases List.mem_append.mp hq with q1 | q1
          · exact o5 q q1 p (List.mem_append_right _ hp)
          · exact o4 q q1 p hp
        · rw [filter_take_snoc hxs, if_neg hin]
          exact (hT2.mono fun p hp => q4 p (List.mem_append_right _ hp)).append (.cons (hc2.mono fun p hp => q4 p (by simp [hp])) .nil)
    case fin =>
      rintro ys nx ⟨rest', rfl, k1, k2, k3, hT2⟩
      intro D2 h3 tk3 F3 N3 o3
      rw [List.size_toArray, hlen, List.take_length] at hT2
      have hys : ys.length ≤ 256 := by
        rw [hT2.length]
        have q1 := List.length_filter_le (fun r => !decide (r ∈ xss)) (xss.map (· ++ [n]))
        rw [List.length_map] at q1; exact Nat.le_trans q1 hl256
      have hDm3 : (D, W.listOf ws.toArray c) ∈ (D2, lst ys) :: (I, oI) :: (L + 1, oF) :: (L + 1 + 1, oO2) :: rest' := by simp [k1 _ hD]
      have z1 := Heap.lt_size (N3 (L + 1 + 1, oO2) (by simp)).1
      refine add_lists F3 N3 ⟨_, (N3 _ hDm3).1, rfl, _, rfl⟩ ⟨_, (N3 _ (List.mem_cons_self ..)).1, rfl, _, rfl⟩ (fun h4 F4 N4 => ?_) (by rw [sizeLine_eq, hlen]; exact Nat.le_trans (Nat.add_le_add hl256 hys) (by decide))
      have e1 : @Ne Nat h3.objs.size (L + 1) := Nat.ne_of_gt (Nat.lt_trans (Nat.lt_succ_self (L + 1)) z1)
      have e2 : @Ne Nat D2 (L + 1) := Ne.symm o3.2.1
      refine storeX_C F4 N4 rfl (.tail e1 (.tail e2 (.tail i1 (.head fun p hp => ?_)))) dF (fun h5 oF5 F5 N5 dF5 => ?_)
      · rcases List.mem_cons.mp hp with rfl | hp
        · exact Nat.succ_ne_self (L + 1)
        · have := k2 p hp
          exact Nat.ne_of_gt (Nat.lt_trans (Nat.lt_succ_self (L + 1)) this)
      dsimp only at N5 ⊢
      refine wpAny_execs_nil ?_
      refine ForEnd.intro F5 N5 ((L + 1, oF5) :: (L + 1 + 1, oO2) :: (h3.objs.size, W.listOf (ws ++ ys).toArray 0) :: rest') (fun p hp => ?_) (fun p hp => ?_) (.inl ha)
        ⟨rfl, oF5, oO2, h3.objs.size, ws ++ ys, 0, (h3.objs.size, W.listOf (ws ++ ys).toArray 0) :: rest', rfl, dF5, ⟨_, dO2⟩, fun p hp => ?_, List.mem_cons_self .., ?_⟩
      · simp only [List.mem_cons] at hp ⊢
        rcases hp with h | h | h | h | h <;> simp [h]
      · simp only [List.mem_cons] at hp
        rcases hp with rfl | rfl | rfl | h
        · exact Ne.symm i1
        · exact Ne.symm i2
        · exact Nat.ne_of_gt (Heap.lt_size (N3 (I, oI) (by simp)).1)
        · exact k3 p h
      · rcases List.mem_cons.mp hp with rfl | hp
        · exact z1
        · exact k2 p hp
      · rw [restsL_take hnn, hxss]
        exact (hT.mono fun p hp => List.mem_cons_of_mem _ (k1 p hp)).append (hT2.mono fun p hp => List.mem_cons_of_mem _ hp)
end Mine
end
section
open PySem PySem.W PySem.Calls PyProof.Rows PyProof.V PySem.Spec PyProof.Rows.LCg PyProof.Rows.LCt
set_option Elab.async false
set_option maxRecDepth 100000
set_option maxHeartbeats 4000000
namespace Mine
theorem offPbItem : True := by
  w_top off
  k_with_none
  trivial
/-! ### items -/
def StrKeys (es : List DictEntry) : Prop := ∀ e ∈ es, ∃ k t, e.key = .str k t
structure ItemD (es : List DictEntry) (nm : Str) (par : Value) (kl : Addr) (off : Int) : Prop where
  keys : StrKeys es
  few : es.length ≤ 40
  name : ∃ t, getL ("name" : Str) es = some (some (.str nm t))
  parent : getL ("parent" : Str) es = some (some par)
  kids : getL ("kids" : Str) es = some (some (.ref kl))
  offset : ∃ t, getL ("offset" : Str) es = some (some (.int off t))
  add : getL ("add" : Str) es = some none
def ItemR (h : Heap) (x : Addr) (nm : Str) (par : Value) (kids : List Value) (off : Int) (dx : Addr) (es : List DictEntry) (n : Nat) (kl : Addr) (c : Nat) : Prop :=
  h.get? x = some (instObj 107 dx) ∧ h.get? dx = some (dictOf es n) ∧ h.get? kl = some (listOf kids.toArray c) ∧ ItemD es nm par kl off
def ItemAt (h : Heap) (x : Addr) (nm : Str) (par : Value) (kids : List Value) (off : Int) : Prop :=
  ∃ dx es n kl c, ItemR h x nm par kids off dx es n kl c
def refAt (rs : List (Addr × Str)) (i : Nat) : Value := match rs[i]? with | some p => .ref p.1 | none => .none
def parOf (rs : List (Addr × Str)) : Nat → Value | 0 => .none | i + 1 => refAt rs i
def kidOf (rs : List (Addr × Str)) (i : Nat) : List Value := match rs[i + 1]? with | some p => [.ref p.1] | none => []
/-- the items from the top down; the last has offset 7 -/
def ChainAt (h : Heap) (rs : List (Addr × Str)) : Prop := ∀ i x nm, rs[i]? = some (x, nm) → ∃ off, ItemAt h x nm (parOf rs i) (kidOf rs i) off ∧ (i + 1 = rs.length → off = 7)
theorem ItemAt.keeps {h h' : Heap} {x : Addr} {nm : Str} {par : Value} {kids : List Value} {off : Int} (I : ItemAt h x nm par kids off) (k : ∀ b o, h.get? b = some o → h'.get? b = some o) : ItemAt h' x nm par kids off := by
  obtain ⟨dx, es, n, kl, c, r⟩ := I
  exact ⟨dx, es, n, kl, c, k _ _ r.1, k _ _ r.2.1, k _ _ r.2.2.1, r.2.2.2⟩
theorem ChainAt.keeps {h h' : Heap} {rs : List (Addr × Str)} (C : ChainAt h rs) (k : ∀ b o, h.get? b = some o → h'.get? b = some o) : ChainAt h' rs :=
  fun i x nm e => let ⟨off, a, b⟩ := C i x nm e; ⟨off, a.keeps k, b⟩
theorem handed_parOf (rs : List (Addr × Str)) (i : Nat) : handedIn (parOf rs i) = true := by
  cases i with
  | zero => simp only [parOf, handedIn]
  | succ i =>
    simp only [parOf, refAt]
    cases rs[i]? <;> simp only [handedIn]
def WhileAt (prog : Program) (w : World) (A : Around) (env : Env) (test : Expr) (body : List Stmt) (pos : Pos) (Q : Flow → Shared → Prop) (E : Value → Shared → Prop) (s : Shared) : Prop :=
  wpAny (model prog w) A (exec (.While test body [] pos) env) Q E s
theorem While_at {prog : Program} {w : World} {A : Around} {env : Env} {test : Expr} {body : List Stmt} {pos : Pos} {Q : Flow → Shared → Prop} {E : Value → Shared → Prop} {s : Shared}
    (h : WhileAt prog w A env test body pos Q E s) : wpAny (model prog w) A (exec (.While test body [] pos) env) Q E s := h
local macro_rules | `(tactic| walk_at "exec While") => `(tactic| (k_dflt (refine While_at ?_)))
local macro_rules | `(tactic| walk_at "exec While Compare") => `(tactic| (k_dflt (refine While_at ?_)))
/-! ### items_around -/
def accL (rs : List (Addr × Str)) (n j : Nat) : List Value := (List.range j).map fun i => refAt rs (n - 1 - i)
theorem accL_snoc (rs : List (Addr × Str)) (n j : Nat) : accL rs n (j + 1) = accL rs n j ++ [refAt rs (n - 1 - j)] := by simp [accL, List.range_succ]
theorem accL_len (rs : List (Addr × Str)) (n j : Nat) : (accL rs n j).length = j := by simp [accL]
theorem around_ok {w : World} {mg mb : Str → Option Value} {A : Around} {s : Shared} {Q E : Value → Shared → Prop}
    (X : (Mine.hd.heap_39 w.params).In s.heap) (T : TopRead Mine.hd.view_39 (looseW Mine.hd.view_39 [Str.ofString "LedgerError"]) mg mb s.heap)
    (hh : A.handled = none) (hd : A.depth + 1 < recursionLimit) (hu : A.units + 90 < cLine)
    {rs : List (Addr × Str)} {n : Nat} {x : Addr} {nm : Str} (C : ChainAt s.heap rs) (hn : rs.length = n + 1) (hs : n ≤ 20) (hx : rs[n]? = some (x, nm))
    (ret : ∀ D h' tk' c, (∀ b o, s.heap.get? b = some o → h'.get? b = some o) → h'.get? D = some (listOf (accL rs n n).toArray c) → s.heap.get? D = none → Q (.ref D) { s with heap := h', toks := tk' }) :
    wpAny (model Challenge.rw_pb0235_01.row.prog w) A (call (.ref 167) [.ref x]) Q E s := by
  revert X; k_fill; intro X
  refine wpAny_call ?_
  refine' enter_plain X T.nolimit ?ho ?hcd ?hroom ?hbind ?hloc ?_ ?c2 ?c3 ?c4 ?c5
  case ho => k_is
  case hcd => k_is
  case hroom => exact om_u0 hd
  case hbind => exact (BindsTo.of_eq (binds := [(Str.ofString "item", .ref x)]) rfl)
  case hloc => exact locs rfl
  case c2 => rfl
  case c3 => rfl
  case c4 => rfl
  case c5 => decide
  intro h₁ F
  have N : News s.heap s.heap.objs.size h₁ [] := News.nil
  try dsimp only
  try k_fold
  obtain ⟨off, ⟨dx, es, nn, kl, c, hx1, hx2, hx3, hD⟩, -⟩ := C _ _ _ hx
  have hpar := hD.parent
  k_with_none
  k_with "getAttr ref" => (refine' get_own ?k1 ?k2 ⟨Fr.keep (by assumption) _ _ hx1, rfl, rfl, Fr.keep (by assumption) _ _ hx2⟩ ?k4 ?k5 ?k6 ?k7 hpar ?k9 ?_; (case k1 => k_asm); (case k2 => k_asm); (case k4 => k_is); (case k5 => k_is); (case k6 => k_is); (case k7 => k_is); (case k9 => exact handed_parOf _ _))
  k_steps
  rename Fr _ _ _ _ => lF
  rename News _ _ _ _ => lN
  rename_i D _ _ _ _
  refine While_inv (fun k m nx => ∃ j c, j ≤ n ∧ k = n - j ∧ nx = [(D, W.listOf (accL rs n j).toArray c)] ∧ m = fun y => if y = Str.ofString "above" then some (parOf rs (n - j)) else if y = Str.ofString "found" then some (Value.ref D) else List.lookup y [(Str.ofString "item", Value.ref x)].reverse)
    lF lN ⟨0, 0, Nat.zero_le _, rfl, rfl, rfl⟩ ?_
  rintro k m nx h tk F1 N1 ⟨j, c1, hj, rfl, rfl, rfl⟩
  rcases Nat.lt_or_ge j n with hlt | hge
  · obtain ⟨y, ny, hy⟩ : ∃ y ny, rs[n - j - 1]? = some (y, ny) := ⟨_, _, List.getElem?_eq_getElem (om_sub1 hn)⟩
    have e1 : parOf rs (n - j) = .ref y := by
      obtain ⟨i, hi⟩ : ∃ i, n - j = i + 1 := ⟨n - j - 1, om_sub2 hlt⟩
      rw [hi] at hy ⊢
      simp only [Nat.add_sub_cancel] at hy
      simp only [parOf, refAt, hy]
    have e2 : refAt rs (n - 1 - j) = .ref y := by
      rw [om_sub3]; simp only [refAt, hy]
    have e3 : n - j - 1 = n - (j + 1) := rfl
    obtain ⟨off2, ⟨dy, es2, nn2, kl2, c2, hy1, hy2, hy3, hD2⟩, -⟩ := C _ _ _ hy
    have hpar2 := hD2.parent
    rw [e1] at F1
    have hlen := accL_len rs n j
    k_with_none
    k_with "getAttr ref" => (refine' get_own ?k1 ?k2 ⟨Fr.keep (by assumption) _ _ hy1, rfl, rfl, Fr.keep (by assumption) _ _ hy2⟩ ?k4 ?k5 ?k6 ?k7 hpar2 ?k9 ?_; (case k1 => k_asm); (case k2 => k_asm); (case k4 => k_is); (case k5 => k_is); (case k6 => k_is); (case k7 => k_is); (case k9 => exact handed_parOf _ _))
    k_steps
    refine WhileStep.intro (by assumption) (by assumption) (om_sub4 hlt) ⟨j + 1, c1 + 1, hlt, rfl, ?_, ?_⟩
    · rw [accL_snoc, e2, List.push_toArray]
    · rw [← e3]; funext z; by_cases q : z = Str.ofString "above" <;> simp only [q, if_true, if_false]
  · have e1 : n - j = 0 := Nat.sub_eq_zero_of_le hge
    rw [e1, show parOf rs 0 = Value.none from rfl] at F1
    obtain rfl : j = n := Nat.le_antisymm hj hge
    k_with_none
    k_steps
    exact ret _ _ _ _ F1.keep (N1 _ (.head _)).1 (N1 _ (.head _)).2.2
/-! ### names_around -/
def EvAt (prog : Program) (w : World) (A : Around) (e : PySem.Expr) (env : Env) (Q : Value → Shared → Prop) (E : Value → Shared → Prop) (s : Shared) : Prop := wpAny (model prog w) A (eval e env) Q E s
theorem Ev_at {prog : Program} {w : World} {A : Around} {e : PySem.Expr} {env : Env} {Q : Value → Shared → Prop} {E : Value → Shared → Prop} {s : Shared} (h : EvAt prog w A e env Q E s) : wpAny (model prog w) A (eval e env) Q E s := h
local macro_rules | `(tactic| walk_at "eval ListComp") => `(tactic| (k_dflt (refine Ev_at ?_)))
theorem News.add {h₀ h h' : Heap} {L D : Addr} {m : Str → Option Value} {news : List (Addr × Obj)} {o : Obj} (F : Fr h₀ L h m) (N : News h₀ L h news) (k : ∀ b o, h.get? b = some o → h'.get? b = some o) (hD : h'.get? D = some o) (hn : h.get? D = none) : News h₀ L h' ((D, o) :: news) := by
  intro p hp
  rcases List.mem_cons.mp hp with rfl | hp
  · refine ⟨hD, fun e => ?_, ?_⟩
    · obtain ⟨oL, _, _, hL, _⟩ := F.ns
      rw [show D = L from e, hL] at hn; cases hn
    · cases q : h₀.get? D with
      | none => rfl
      | some o' => rw [F.keep _ _ q] at hn; cases hn
  · exact ⟨k _ _ (N p hp).1, (N p hp).2⟩
def nameAt (rs : List (Addr × Str)) (i : Nat) : Str := match rs[i]? with | some p => p.2 | none => Str.empty
def nmsL (rs : List (Addr × Str)) (n j : Nat) : List Str := (List.range j).map fun i => nameAt rs (n - 1 - i)
theorem nmsL_snoc (rs : List (Addr × Str)) (n j : Nat) : nmsL rs n (j + 1) = nmsL rs n j ++ [nameAt rs (n - 1 - j)] := by simp [nmsL, List.range_succ]
theorem accL_item {rs : List (Addr × Str)} {n j : Nat} {v : Value} (hn : rs.length = n + 1) (h : (accL rs n n)[j]? = some v) : ∃ y ny, j < n ∧ rs[n - 1 - j]? = some (y, ny) ∧ v = .ref y ∧ nameAt rs (n - 1 - j) = ny := by
  have hj : j < n := by
    have := (List.getElem?_eq_some_iff.mp h).1
    rwa [accL_len] at this
  refine ⟨(rs[n - 1 - j]'(om_sub5 hn)).1, (rs[n - 1 - j]'(om_sub5 hn)).2, hj, List.getElem?_eq_getElem (om_sub5 hn), ?_, ?_⟩
  · simp only [accL, List.getElem?_map, List.getElem?_range hj, Option.map_some, Option.some.injEq] at h
    rw [← h, refAt, List.getElem?_eq_getElem (om_sub5 hn)]
  · rw [nameAt, List.getElem?_eq_getElem (om_sub5 hn)]
theorem names_ok {w : World} {mean : ExcName → Option Value} {mg mb : Str → Option Value} {A : Around} {s : Shared} {Q E : Value → Shared → Prop}
    (X : (Mine.hd.heap_39 w.params).In s.heap) (T : Top Mine.hd.view_39 (looseW Mine.hd.view_39 [Str.ofString "LedgerError"]) mean mg mb s.heap)
    (hh : A.handled = none) (hd : A.depth + 2 < recursionLimit) (hu : A.units + 100 < cLine)
    {rs : List (Addr × Str)} {n : Nat} {x : Addr} {nm : Str} (C : ChainAt s.heap rs) (hn : rs.length = n + 1) (hs : n ≤ 20) (hx : rs[n]? = some (x, nm)) (hF : ∀ p ∈ rs, p.2 ≠ Str.ofString "FILLER")
    (ret : ∀ D h' tk' c vs, (∀ b o, s.heap.get? b = some o → h'.get? b = some o) → h'.get? D = some (listOf (vs : List Value).toArray c) → StrsAre vs (nmsL rs n n) → s.heap.get? D = none → Q (.ref D) { s with heap := h', toks := tk' }) :
    wpAny (model Challenge.rw_pb0235_01.row.prog w) A (call (.ref 179) [.ref x]) Q E s := by
  revert X; k_fill; intro X
  refine wpAny_call ?_
  refine' enter_plain X T.nolimit ?ho ?hcd ?hroom ?hbind ?hloc ?_ ?c2 ?c3 ?c4 ?c5
  case ho => k_is
  case hcd => k_is
  case hroom => exact om_u0 hd
  case hbind => exact (BindsTo.of_eq (binds := [(Str.ofString "item", .ref x)]) rfl)
  case hloc => exact locs rfl
  case c2 => rfl
  case c3 => rfl
  case c4 => rfl
  case c5 => decide
  intro h₁ F
  have N : News s.heap s.heap.objs.size h₁ [] := News.nil
  try dsimp only
  try k_fold
  k_with_none
  k_steps
  refine LCt.ListComp_T (F₀ := F) (by with_unfolding_all rfl) (by decide) (by rfl) (by decide) (by rfl) ?_
  k_steps
  refine' around_ok ?X ?T ?a ?d ?u ?C hn hs hx ?_
  case X => exact X.keeps F.keep
  case a => exact hh
  case T => exact topRead_of (T.keeps F.keep)
  case d => show A.depth + 1 + 1 < recursionLimit; exact om_u2 (by assumption) (by decide)
  case u => show A.units + 3 + 90 < cLine; exact om_u2 (by assumption) (by decide)
  case C => exact C.keeps F.keep
  intro D h' tk' c k hD hDn
  have F2 := F.keeps k
  have N2 := News.add F N k hD hDn
  have hal := accL_len rs n n
  refine LCt.CompSrcT.ledger hh F2 N2 (List.Mem.head _) (by rw [List.size_toArray, sizeLine_eq, hal]; exact Nat.le_trans hs (by decide)) (fun g => compRestT_inv (n := (accL rs n n).toArray.size)
    (fun j ys nx => nx = [(D, W.listOf (accL rs n n).toArray c)] ∧ StrsAre ys (nmsL rs n j)) ?step ?fin _ 0 [] _ (Nat.zero_add _) ⟨rfl, .nil⟩)
  case step =>
    rintro j ys nx v I2 oI2 C2 oC D2 m2 h3 tk3 E3 hj ⟨rfl, hys⟩ hP hC hx F3 N3 off ne
    obtain ⟨y, ny, hjn, hy, rfl, hny⟩ := accL_item (j := j) hn (by simpa using hP)
    obtain ⟨off2, ⟨dy, es2, nn2, kl2, c2, hy1, hy2, hy3, hD2⟩, -⟩ := C _ _ _ hy
    obtain ⟨tn, hname⟩ := hD2.name
    have hnf : ny ≠ Str.ofString "FILLER" := hF (y, ny) (List.mem_of_getElem? hy)
    k_with_none
    k_with "getAttr ref" => (refine' get_own ?k1 ?k2 ⟨Fr.keep (by assumption) _ _ hy1, rfl, rfl, Fr.keep (by assumption) _ _ hy2⟩ ?k4 ?k5 ?k6 ?k7 hname ?k9 ?_; (case k1 => k_asm); (case k2 => k_asm); (case k4 => k_is); (case k5 => k_is); (case k6 => k_is); (case k7 => k_is); (case k9 => (simp only [handedIn])))
    k_steps
    · exact CompEnd.intro F3 N3 _ (fun p hp => hp) off (.inr ⟨_, .head _, rfl, _, rfl⟩) ⟨rfl, by rw [nmsL_snoc, hny]; exact hys.append' (.cons ny tn .nil)⟩
    · rename_i q
      exact absurd (by simpa using q) hnf
  case fin =>
    rintro ys nx ⟨rfl, hys⟩
    intro D2 h3 tk3 F3 N3 o3
    have e : (accL rs n n).toArray.size = n := by rw [List.size_toArray, hal]
    rw [e] at hys
    exact ret D2 _ _ _ ys F3.keep (N3 _ (.head _)).1 hys (N3 _ (.head _)).2.2
end Mine
end
section
open PySem PySem.W PySem.Calls PyProof.Rows PyProof.V PySem.Spec PyProof.Rows.LCg PyProof.Rows.LCt
set_option Elab.async false
set_option maxRecDepth 100000
set_option maxHeartbeats 4000000
namespace Mine
theorem offPbFind : True := by
  w_top off
  k_with_none
  trivial
theorem om_neg {n : Nat} : (-1 + (n : Int)).toNat = n - 1 := by omega
theorem om_neg1 {n : Nat} (h : 0 < n) : -(n : Int) ≤ -1 := by omega
section
variable {prog : Program} {w : World} {A : Around} {E : Value → Shared → Prop} {s : Shared}
theorem ne_nil {l b : Addr} {vs : List Value} {Q : Value → Shared → Prop} (hl : s.heap.IsList l vs.toArray) (hb : s.heap.IsList b #[]) (hu : A.units < cLine) (h : Q (.bool (!decide (vs = []))) s) :
    wpAny (model prog w) A (compareOp .NotEq (.ref l) (.ref b)) Q E s := by
  cases vs with
  | nil => exact SeqAt.RcNeAt.lists (e := fun _ => true) hl hb rfl hu (fun j h1 => absurd h1 (Nat.not_lt_zero _)) prog w E Q h
  | cons v r => exact SeqAt.RcNeAt.lists_lengths hl hb (by simp) hu prog w E Q h
theorem ne_nil0 {l b : Addr} {Q : Value → Shared → Prop} (hl : s.heap.IsList l #[]) (hb : s.heap.IsList b #[]) (hu : A.units < cLine) (h : Q (.bool false) s) :
    wpAny (model prog w) A (compareOp .NotEq (.ref l) (.ref b)) Q E s := ne_nil (vs := []) hl hb hu h
theorem ne_nil1 {l b : Addr} {v : Value} {Q : Value → Shared → Prop} (hl : s.heap.IsList l #[v]) (hb : s.heap.IsList b #[]) (hu : A.units < cLine) (h : Q (.bool true) s) :
    wpAny (model prog w) A (compareOp .NotEq (.ref l) (.ref b)) Q E s := ne_nil (vs := [v]) hl hb hu h
theorem item_negR {value slice : PySem.Expr} {l : Addr} {vs : List Value} {k : Int} {u : Tok} {x : Value} {Q : Value → Shared → Prop} (hl : s.heap.IsList l vs.toArray)
    (h0 : k < 0) (h1 : -(vs.length : Int) ≤ k) (hfit : -(2 ^ 63) ≤ k) (hx : vs[(k + vs.length).toNat]? = some x) (h : Q x s)
    (hs : subscripted slice false (.ref l) (.int k u) = operate [.ref l, .int k u] (getItem (.ref l) (.int k u)) := by with_unfolding_all rfl) :
    wpAny (model prog w) A (subscriptTail value slice (.ref l) (.int k u)) Q E s :=
  subscriptTail_builtinR hl.typeIs slot_list_getitem.lookup (wpAny_getItem_list_neg (Q := fun r s' => r = x ∧ Q r s') hl h0 (by simpa using h1) hfit (by simpa using hx) ⟨rfl, h⟩) hs
end
theorem codeAny_forLoop_nodict {prog : Program} {w : World} {A : Around} {E : Value → Shared → Prop} {s : Shared} {env : Env} {x : Str} {px : Pos} {body : List Stmt} {Q : Flow → Shared → Prop} {d it : Addr} {ep : Nat}
    (hh : A.handled = none) (hit : s.heap.IsKeyIter it d 0 0 ep) (hm : s.heap.DictAt (strKind prog w) d [] ep) (done : ∀ h', Heap.ExtBut it s.heap h' → Q .next { s with heap := h' }) :
    ForAt prog w A env (.Name x px) body Q E (.ref it) s := by
  refine codeAny_forLoop (fun _ s' => s' = s) ?_ 0 rfl
  rintro n s' rfl
  exact wpAny_pyNext_dict_end hh hit hm rfl fun h' hx => wpAny_execs_nil (done h' hx)
theorem iter_nodict {prog : Program} {w : World} {A : Around} {E : Value → Shared → Prop} {s : Shared} {h₀ : Heap} {L : Addr} {m : Str → Option Value} {news : List (Addr × Obj)} {env : Env} {x : Str} {px : Pos} {body : List Stmt} {Q : Flow → Shared → Prop} {d : Addr} {ep : Nat}
    (hh : A.handled = none) (F : Fr h₀ L s.heap m) (N : News h₀ L s.heap news) (hd : s.heap.get? d = some (dictOf [] ep)) (hs : (d == sysModules) = false)
    (done : ∀ h', Fr h₀ L h' m → News h₀ L h' news → Q .next { s with heap := h' }) :
    wpAny (model prog w) A (pyIter (.ref d)) (fun it s₂ => ForAt prog w A env (.Name x px) body Q E it s₂) E s := by
  have hm : s.heap.DictAt (strKind prog w) d [] ep := ⟨_, #[], hd, ⟨rfl, rfl, rfl⟩, rfl, (fun e he => absurd he (by simp)), .nil, List.nodup_nil⟩
  refine wpAny_pyIter_dict hs hm ?_
  have up : ∀ b o, s.heap.get? b = some o → (s.heap.push { cls := .type "dict_keyiterator", data := .fields #[.ref d, .int 0 0, .int ([] : List (Str × Value)).length 0, .int ep 0] }).get? b = some o := fun b o e => Heap.get?_push_of_some _ e
  refine codeAny_forLoop_nodict hh (d := d) (ep := ep) ⟨_, Heap.get?_push_size _ rfl, rfl, rfl⟩ (hm.push _) (fun h' hx => ?_)
  have hIL : s.heap.objs.size ≠ L := Nat.ne_of_gt F.ns.lt
  have F₁ := F.keeps up
  have N₁ := N.grown up
  refine done h' ⟨F₁.ns.at' fun o e => hx _ o (Ne.symm hIL) e, fun b o e => hx b o (fun q => ?_) (F₁.keep b o e), F₁.above⟩ fun p hp => ⟨hx _ _ (Nat.ne_of_lt (Heap.lt_size (N p hp).1)) (N₁ p hp).1, (N p hp).2⟩
  rw [q, next_is_new F] at e; cases e
local macro_rules | `(tactic| walk_at "exec While") => `(tactic| (k_dflt (refine While_at ?_)))
local macro_rules | `(tactic| walk_at "exec While Compare") => `(tactic| (k_dflt (refine While_at ?_)))
theorem root_ok {w : World} {mean : ExcName → Option Value} {mg mb : Str → Option Value} {A : Around} {s : Shared} {Q E : Value → Shared → Prop}
    (X : (Mine.hd.heap_39 w.params).In s.heap) (T : Top Mine.hd.view_39 (looseW Mine.hd.view_39 [Str.ofString "LedgerError"]) mean mg mb s.heap)
    (hh : A.handled = none) (hd : A.depth + 2 < recursionLimit) (hu : A.units + 110 < cLine)
    {rs : List (Addr × Str)} {n : Nat} {x : Addr} {nm : Str} (C : ChainAt s.heap rs) (hn : rs.length = n + 1) (hs : n ≤ 20) (hx : rs[n]? = some (x, nm))
    (ret : ∀ h' tk', (∀ b o, s.heap.get? b = some o → h'.get? b = some o) → Q (refAt rs 0) { s with heap := h', toks := tk' }) :
    wpAny (model Challenge.rw_pb0235_01.row.prog w) A (call (.ref 174) [.ref x]) Q E s := by
  revert X; k_fill; intro X
  refine wpAny_call ?_
  refine' enter_plain X T.nolimit ?ho ?hcd ?hroom ?hbind ?hloc ?_ ?c2 ?c3 ?c4 ?c5
  case ho => k_is
  case hcd => k_is
  case hroom => exact om_u0 hd
  case hbind => exact (BindsTo.of_eq (binds := [(Str.ofString "item", .ref x)]) rfl)
  case hloc => exact locs rfl
  case c2 => rfl
  case c3 => rfl
  case c4 => rfl
  case c5 => decide
  intro h₁ F
  have N : News s.heap s.heap.objs.size h₁ [] := News.nil
  try dsimp only
  try k_fold
  k_with_none
  k_steps
  refine' around_ok ?X ?T ?a ?d ?u ?C hn hs hx ?_
  case X => exact X.keeps F.keep
  case a => exact hh
  case T => exact topRead_of (T.keeps F.keep)
  case d => show A.depth + 1 + 1 < recursionLimit; exact om_u2 (by assumption) (by decide)
  case u => show A.units + 3 + 90 < cLine; exact om_u2 (by assumption) (by decide)
  case C => exact C.keeps F.keep
  intro D h' tk' c k hD hDn
  have F2 := F.keeps k
  have N2 := News.add F N k hD hDn
  have hal := accL_len rs n n
  clear F
  k_with_none
  k_with "compareOp NotEq ref ref" => (refine' ne_nil ?k1 ?k2 ?k3 ?_; (case k1 => is_list); (case k2 => is_list); (case k3 => show A.units + 3 < cLine; exact om_u1 (by assumption) (by decide)))
  k_with "subscriptTail Name UnaryOp ref int" => (refine' item_negR (x := refAt rs 0) ?k1 ?k2 ?k3 ?k4 ?k5 ?_ ?k6; (case k1 => is_list); (case k2 => decide); (case k4 => decide); (case k6 => with_unfolding_all rfl))
  k_steps
  · rename_i q
    have h0 : n = 0 := by rw [← hal, q]; rfl
    subst h0
    have e : refAt rs 0 = .ref x := by rw [refAt, hx]
    have := ret _ tk fun b o e => Fr.keep (by assumption) b o e
    rw [e] at this
    exact this
  · rename_i q
    have : accL rs n n ≠ [] := q
    have := List.length_pos_iff.mpr this
    exact om_neg1 this
  · rename_i q
    have : accL rs n n ≠ [] := q
    have := List.length_pos_iff.mpr this
    have e : (-1 + (↑(accL rs n n).length : Int)).toNat = n - 1 := by rw [hal]; exact om_neg
    rw [e, accL, List.getElem?_map, List.getElem?_range (Nat.sub_lt (hal ▸ this) Nat.one_pos)]
    simp
  · exact ret _ _ fun b o e => Fr.keep (by assumption) b o e
/-- the Data with the one record -/
def DataR (h : Heap) (x : Addr) (v : Value) (dx : Addr) (es : List DictEntry) (n : Nat) (wl ll fl : Addr) (c1 c2 ep : Nat) : Prop :=
  h.get? x = some (instObj 135 dx) ∧ h.get? dx = some (dictOf es n) ∧ h.get? wl = some (listOf #[] c1) ∧ h.get? ll = some (listOf #[v] c2) ∧ h.get? fl = some (dictOf [] ep) ∧
    (fl == sysModules) = false ∧ getL ("working" : Str) es = some (some (.ref wl)) ∧ getL ("linkage" : Str) es = some (some (.ref ll)) ∧ getL ("files" : Str) es = some (some (.ref fl))
def DataAt (h : Heap) (x : Addr) (v : Value) : Prop := ∃ dx es n wl ll fl c1 c2 ep, DataR h x v dx es n wl ll fl c1 c2 ep
theorem DataAt.keeps {h h' : Heap} {x : Addr} {v : Value} (I : DataAt h x v) (k : ∀ b o, h.get? b = some o → h'.get? b = some o) : DataAt h' x v := by
  obtain ⟨dx, es, n, wl, ll, fl, c1, c2, ep, r⟩ := I
  exact ⟨dx, es, n, wl, ll, fl, c1, c2, ep, k _ _ r.1, k _ _ r.2.1, k _ _ r.2.2.1, k _ _ r.2.2.2.1, k _ _ r.2.2.2.2.1, r.2.2.2.2.2⟩
local macro_rules | `(tactic| walk_at "exec For Name Attribute cons nil") => `(tactic| (k_dflt (refine For_at ?_)))
theorem records_ok {w : World} {mean : ExcName → Option Value} {mg mb : Str → Option Value} {A : Around} {s : Shared} {Q E : Value → Shared → Prop}
    (X : (Mine.hd.heap_39 w.params).In s.heap) (T : Top Mine.hd.view_39 (looseW Mine.hd.view_39 [Str.ofString "LedgerError"]) mean mg mb s.heap)
    (hh : A.handled = none) (hd : A.depth + 1 < recursionLimit) (hu : A.units + 90 < cLine)
    {x : Addr} {v : Value} (D : DataAt s.heap x v)
    (ret : ∀ R h' tk' c, (∀ b o, s.heap.get? b = some o → h'.get? b = some o) → h'.get? R = some (listOf #[v] c) → s.heap.get? R = none → Q (.ref R) { s with heap := h', toks := tk' }) :
    wpAny (model Challenge.rw_pb0235_01.row.prog w) A (call (.ref 146) [.ref x]) Q E s := by
  revert X; k_fill; intro X
  refine wpAny_call ?_
  refine' enter_plain X T.nolimit ?ho ?hcd ?hroom ?hbind ?hloc ?_ ?c2 ?c3 ?c4 ?c5
  case ho => k_is
  case hcd => k_is
  case hroom => exact om_u0 hd
  case hbind => exact (BindsTo.of_eq (binds := [(Str.ofString "data", .ref x)]) rfl)
  case hloc => exact locs rfl
  case c2 => rfl
  case c3 => rfl
  case c4 => rfl
  case c5 => decide
  intro h₁ F
  have N : News s.heap s.heap.objs.size h₁ [] := News.nil
  try dsimp only
  try k_fold
  obtain ⟨dx, es, n, wl, ll, fl, c1, c2, ep, hx1, hx2, hw, hl, hf, hs, gw, gl, gf⟩ := D
  k_with_none
  k_with "getAttr ref" => (refine' get_own ?k1 ?k2 ⟨Fr.keep (by assumption) _ _ hx1, rfl, rfl, Fr.keep (by assumption) _ _ hx2⟩ ?k4 ?k5 ?k6 ?k7 gf ?k9 ?_; (case k1 => k_asm); (case k2 => k_asm); (case k4 => k_is); (case k5 => k_is); (case k6 => k_is); (case k7 => k_is); (case k9 => simp only [handedIn]))
  k_with "getAttr ref" => (refine' get_own ?k1 ?k2 ⟨Fr.keep (by assumption) _ _ hx1, rfl, rfl, Fr.keep (by assumption) _ _ hx2⟩ ?k4 ?k5 ?k6 ?k7 gw ?k9 ?_; (case k1 => k_asm); (case k2 => k_asm); (case k4 => k_is); (case k5 => k_is); (case k6 => k_is); (case k7 => k_is); (case k9 => simp only [handedIn]))
  k_with "getAttr ref" => (refine' get_own ?k1 ?k2 ⟨Fr.keep (by assumption) _ _ hx1, rfl, rfl, Fr.keep (by assumption) _ _ hx2⟩ ?k4 ?k5 ?k6 ?k7 gl ?k9 ?_; (case k1 => k_asm); (case k2 => k_asm); (case k4 => k_is); (case k5 => k_is); (case k6 => k_is); (case k7 => k_is); (case k9 => simp only [handedIn]))
  k_steps
  refine iter_nodict hh (by assumption) (by assumption) (Fr.keep (by assumption) _ _ hf) hs (fun h2 F2 N2 => ?_)
  dsimp only
  have hwl : s.heap.IsList wl ([] : List Value).toArray := ⟨_, hw, rfl, _, rfl⟩
  have hll : s.heap.IsList ll [v].toArray := ⟨_, hl, rfl, _, rfl⟩
  k_steps
  rename Fr _ _ _ _ => lF
  rename News _ _ _ _ => lN
  exact ret _ _ _ _ lF.keep (lN _ (.head _)).1 (lN _ (.head _)).2.2
theorem file_ok {w : World} {mean : ExcName → Option Value} {mg mb : Str → Option Value} {A : Around} {s : Shared} {Q E : Value → Shared → Prop}
    (X : (Mine.hd.heap_39 w.params).In s.heap) (T : Top Mine.hd.view_39 (looseW Mine.hd.view_39 [Str.ofString "LedgerError"]) mean mg mb s.heap)
    (hh : A.handled = none) (hd : A.depth + 3 < recursionLimit) (hu : A.units + 130 < cLine)
    {rs : List (Addr × Str)} {n : Nat} {x : Addr} {nm : Str} (C : ChainAt s.heap rs) (hn : rs.length = n + 1) (hs : n ≤ 20) (hx : rs[n]? = some (x, nm))
    {y : Addr} {v : Value} (D : DataAt s.heap y v)
    (ret : ∀ h' tk' t, (∀ b o, s.heap.get? b = some o → h'.get? b = some o) → Q (.str (Str.ofString "") t) { s with heap := h', toks := tk' }) :
    wpAny (model Challenge.rw_pb0235_01.row.prog w) A (call (.ref 184) [.ref y, .ref x]) Q E s := by
  revert X; k_fill; intro X
  refine wpAny_call ?_
  refine' enter_cells X T.nolimit ?ho ?hcd ?hroom ?hbind ?hkind ?hnd ?_ ?c2 ?c3 ?c4
  case ho => k_is
  case hcd => k_is
  case hroom => exact om_u0 hd
  case hbind => exact (BindsTo.of_eq (binds := [(Str.ofString "data", .ref y), (Str.ofString "item", .ref x)]) rfl)
  case hkind => rfl
  case hnd => decide +kernel
  case c2 => rfl
  case c3 => rfl
  case c4 => rfl
  intro L h₁ tk cells hL F N Y
  obtain ⟨dy, es, nn, wl, ll, fl, c1, c2, ep, hx1, hx2, hw, hl, hf, hsys, gw, gl, gf⟩ := D
  obtain ⟨oT, hE, d1⟩ := CellsAre.one Y
  subst hE
  clear Y
  try dsimp only
  try k_fold
  k_with_none
  k_steps
  refine' root_ok ?X ?T ?a ?d ?u ?C hn hs hx ?_
  case X => exact X.keeps F.keep
  case a => exact hh
  case T => exact T.keeps F.keep
  case d => show A.depth + 1 + 2 < recursionLimit; exact om_u2 (by assumption) (by decide)
  case u => show A.units + 3 + 110 < cLine; exact om_u2 (by assumption) (by decide)
  case C => exact C.keeps F.keep
  intro h' tk' k
  have F2 := F.keeps k
  have N2 := N.grown k
  clear F N
  k_with_none
  k_with "getAttr ref" => (refine' get_own ?k1 ?k2 ⟨Fr.keep (by assumption) _ _ hx1, rfl, rfl, Fr.keep (by assumption) _ _ hx2⟩ ?k4 ?k5 ?k6 ?k7 gf ?k9 ?_; (case k1 => k_asm); (case k2 => k_asm); (case k4 => k_is); (case k5 => k_is); (case k6 => k_is); (case k7 => k_is); (case k9 => simp only [handedIn]))
  k_steps
  refine iter_nodict hh (by assumption) (by assumption) (Fr.keep (by assumption) _ _ hf) hsys (fun h2 F2 N2 => ?_)
  dsimp only
  k_steps
  all_goals exact ret _ _ _ F2.keep
/-! ### items_under: from the top down -/
def downL (rs : List (Addr × Str)) (j : Nat) : List Value := (List.range j).map fun i => refAt rs i
theorem downL_snoc (rs : List (Addr × Str)) (j : Nat) : downL rs (j + 1) = downL rs j ++ [refAt rs j] := by simp [downL, List.range_succ]
theorem downL_len (rs : List (Addr × Str)) (j : Nat) : (downL rs j).length = j := by simp [downL]
/-- what lies on the line before turn j -/
def lineL (rs : List (Addr × Str)) (j : Nat) : List Value := match rs[j]? with | some p => [.ref p.1] | none => []
theorem under_ok {w : World} {mean : ExcName → Option Value} {mg mb : Str → Option Value} {A : Around} {s : Shared} {Q E : Value → Shared → Prop}
    (X : (Mine.hd.heap_39 w.params).In s.heap) (T : Top Mine.hd.view_39 (looseW Mine.hd.view_39 [Str.ofString "LedgerError"]) mean mg mb s.heap)
    (hh : A.handled = none) (hd : A.depth + 1 < recursionLimit) (hu : A.units + 90 < cLine)
    {rs : List (Addr × Str)} {x : Addr} {nm : Str} (C : ChainAt s.heap rs) (hs : rs.length ≤ 20) (hx : rs[0]? = some (x, nm))
    (ret : ∀ R h' tk' c, (∀ b o, s.heap.get? b = some o → h'.get? b = some o) → h'.get? R = some (listOf (downL rs rs.length).toArray c) → s.heap.get? R = none → Q (.ref R) { s with heap := h', toks := tk' }) :
    wpAny (model Challenge.rw_pb0235_01.row.prog w) A (call (.ref 153) [.ref x]) Q E s := by
  revert X; k_fill; intro X
  refine wpAny_call ?_
  refine' enter_plain X T.nolimit ?ho ?hcd ?hroom ?hbind ?hloc ?_ ?c2 ?c3 ?c4 ?c5
  case ho => k_is
  case hcd => k_is
  case hroom => exact om_u0 hd
  case hbind => exact (BindsTo.of_eq (binds := [(Str.ofString "item", .ref x)]) rfl)
  case hloc => exact locs rfl
  case c2 => rfl
  case c3 => rfl
  case c4 => rfl
  case c5 => decide
  intro h₁ F
  have N : News s.heap s.heap.objs.size h₁ [] := News.nil
  try dsimp only
  try k_fold
  k_with_none
  k_steps
  rename Fr _ _ _ _ => lF
  rename News _ _ _ _ => lN
  rename_i fA _ _ _ _ lA _ _ _
  have hm0 : (fun y => if y = Str.ofString "one" then none else if y = Str.ofString "line" then some (Value.ref lA) else if y = Str.ofString "found" then some (Value.ref fA) else List.lookup y [(Str.ofString "item", Value.ref x)].reverse) =
      fun y => if y = Str.ofString "line" then some (Value.ref lA) else if y = Str.ofString "found" then some (Value.ref fA) else List.lookup y [(Str.ofString "item", Value.ref x)].reverse := by
    funext y; by_cases q : y = Str.ofString "one"
    · subst q; rfl
    · simp only [if_neg q]
  have hlx : lineL rs 0 = [.ref x] := by rw [lineL, hx]
  refine While_inv (fun k m nx => ∃ j c1 c2 u, j ≤ rs.length ∧ k = rs.length - j ∧ nx = [(lA, W.listOf (lineL rs j).toArray c1), (fA, W.listOf (downL rs j).toArray c2)] ∧
      m = fun y => if y = Str.ofString "one" then u else if y = Str.ofString "line" then some (Value.ref lA) else if y = Str.ofString "found" then some (Value.ref fA) else List.lookup y [(Str.ofString "item", Value.ref x)].reverse)
    lF lN ⟨0, 0, 0, none, Nat.zero_le _, rfl, by rw [hlx]; rfl, hm0.symm⟩ ?_
  rintro k m nx h tk F1 N1 ⟨j, c1, c2, u, hj, rfl, rfl, rfl⟩
  rcases Nat.lt_or_ge j rs.length with hlt | hge
  · obtain ⟨y, ny, hy⟩ : ∃ y ny, rs[j]? = some (y, ny) := ⟨_, _, List.getElem?_eq_getElem hlt⟩
    have e1 : lineL rs j = [.ref y] := by rw [lineL, hy]
    have e2 : refAt rs j = .ref y := by rw [refAt, hy]
    obtain ⟨off2, ⟨dy, es2, nn2, kl2, c3, hy1, hy2, hy3, hD2⟩, -⟩ := C _ _ _ hy
    have hkid := hD2.kids
    have hal := downL_len rs j
    have e3 : lineL rs (j + 1) = kidOf rs j := rfl
    rw [e1] at N1
    k_with_none
    k_with "compareOp NotEq ref ref" => (refine' ne_nil1 (v := Value.ref y) ?k1 ?k2 ?k3 ?_; (case k1 => is_list); (case k2 => is_list); (case k3 => show A.units + 3 < cLine; exact om_u1 (by assumption) (by decide)))
    k_with "getAttr ref" => (refine' get_own ?k1 ?k2 ⟨Fr.keep (by assumption) _ _ hy1, rfl, rfl, Fr.keep (by assumption) _ _ hy2⟩ ?k4 ?k5 ?k6 ?k7 hkid ?k9 ?_; (case k1 => k_asm); (case k2 => k_asm); (case k4 => k_is); (case k5 => k_is); (case k6 => k_is); (case k7 => k_is); (case k9 => simp only [handedIn]))
    have hkl : s.heap.IsList kl2 (kidOf rs j).toArray := ⟨_, hy3, rfl, _, rfl⟩
    have fin : ∀ c1 c2 h' m', Fr s.heap s.heap.objs.size h' m' → News s.heap s.heap.objs.size h' [(lA, W.listOf (kidOf rs j).toArray c1), (fA, W.listOf ((downL rs j).toArray.push (Value.ref y)) c2)] →
        m' = (fun z => if z = Str.ofString "one" then some (Value.ref y) else if z = Str.ofString "one" then u else if z = Str.ofString "line" then some (Value.ref lA) else if z = Str.ofString "found" then some (Value.ref fA) else List.lookup z [(Str.ofString "item", Value.ref x)].reverse) →
        ∃ j' c1 c2 u nx, j' ≤ rs.length ∧ rs.length - j' < rs.length - j ∧ News s.heap s.heap.objs.size h' nx ∧ nx = [(lA, W.listOf (lineL rs j').toArray c1), (fA, W.listOf (downL rs j').toArray c2)] ∧
          m' = fun y => if y = Str.ofString "one" then u else if y = Str.ofString "line" then some (Value.ref lA) else if y = Str.ofString "found" then some (Value.ref fA) else List.lookup y [(Str.ofString "item", Value.ref x)].reverse := by
      rintro c1 c2 h' m' F' N' rfl
      refine ⟨j + 1, c1, c2, some (.ref y), _, hlt, om_sub4 hlt, N', ?_, ?_⟩
      · rw [e3, downL_snoc, e2, List.push_toArray]
      · funext z; by_cases q : z = Str.ofString "one" <;> simp only [q, if_true, if_false]
    cases hk : rs[j + 1]? with
    | none =>
      have e4 : kidOf rs j = [] := by rw [kidOf, hk]
      rw [e4] at hkl fin
      k_steps
      rename Fr _ _ _ _ => lF
      rename News _ _ _ _ => lN
      obtain ⟨j', d1, d2, u', nx, z1, z2, z3, z4, z5⟩ := fin _ _ _ _ lF (fun p hp => lN p (.tail _ (.tail _ hp))) rfl
      exact WhileStep.intro lF z3 z2 ⟨j', d1, d2, u', z1, rfl, z4, z5⟩
    | some p =>
      have e4 : kidOf rs j = [.ref p.1] := by rw [kidOf, hk]
      rw [e4] at hkl fin
      k_steps
      rename Fr _ _ _ _ => lF
      rename News _ _ _ _ => lN
      obtain ⟨j', d1, d2, u', nx, z1, z2, z3, z4, z5⟩ := fin _ _ _ _ lF (fun p hp => lN p (.tail _ (.tail _ hp))) rfl
      exact WhileStep.intro lF z3 z2 ⟨j', d1, d2, u', z1, rfl, z4, z5⟩
  · have e1 : lineL rs j = [] := by rw [lineL, List.getElem?_eq_none hge]
    obtain rfl : j = rs.length := Nat.le_antisymm hj hge
    rw [e1] at N1
    k_with_none
    k_with "compareOp NotEq ref ref" => (refine' ne_nil0 ?k1 ?k2 ?k3 ?_; (case k1 => is_list); (case k2 => is_list); (case k3 => show A.units + 3 < cLine; exact om_u1 (by assumption) (by decide)))
    k_steps
    rename Fr _ _ _ _ => lF
    rename News _ _ _ _ => lN
    exact ret fA _ _ c2 lF.keep (lN _ (.tail _ (.tail _ (.head _)))).1 (lN _ (.tail _ (.tail _ (.head _)))).2.2
end Mine
end
section
open PySem PySem.W PySem.Calls PyProof.Rows PyProof.V PySem.Spec PyProof.Rows.LCg PyProof.Rows.LCt
set_option Elab.async false
set_option maxRecDepth 100000
set_option maxHeartbeats 4000000
namespace Mine
theorem offPbAll : True := by
  w_top off
  k_with_none
  trivial
theorem ne_none {h : Heap} {a b : Addr} {o : Obj} (x : h.get? a = none) (y : h.get? b = some o) : @Ne Nat a b := fun e => by rw [show a = b from e, y] at x; cases x
/-! ### all_items -/
local macro_rules | `(tactic| walk_at "exec For Name Call cons nil") => `(tactic| (k_dflt (refine For_at ?_)))
theorem all_ok {w : World} {mean : ExcName → Option Value} {mg mb : Str → Option Value} {A : Around} {s : Shared} {Q E : Value → Shared → Prop}
    (X : (Mine.hd.heap_39 w.params).In s.heap) (T : Top Mine.hd.view_39 (looseW Mine.hd.view_39 [Str.ofString "LedgerError"]) mean mg mb s.heap)
    (hh : A.handled = none) (hd : A.depth + 2 < recursionLimit) (hu : A.units + 110 < cLine)
    {rs : List (Addr × Str)} {x : Addr} {nm : Str} (C : ChainAt s.heap rs) (hs : rs.length ≤ 20) (hx : rs[0]? = some (x, nm)) {y : Addr} (D : DataAt s.heap y (.ref x))
    (ret : ∀ R h' tk' c, (∀ b o, s.heap.get? b = some o → h'.get? b = some o) → h'.get? R = some (listOf (downL rs rs.length).toArray c) → s.heap.get? R = none → Q (.ref R) { s with heap := h', toks := tk' }) :
    wpAny (model Challenge.rw_pb0235_01.row.prog w) A (call (.ref 160) [.ref y]) Q E s := by
  revert X; k_fill; intro X
  refine wpAny_call ?_
  refine' enter_plain X T.nolimit ?ho ?hcd ?hroom ?hbind ?hloc ?_ ?c2 ?c3 ?c4 ?c5
  case ho => k_is
  case hcd => k_is
  case hroom => exact om_u0 hd
  case hbind => exact (BindsTo.of_eq (binds := [(Str.ofString "data", .ref y)]) rfl)
  case hloc => exact locs rfl
  case c2 => rfl
  case c3 => rfl
  case c4 => rfl
  case c5 => decide
  intro h₁ F
  have N : News s.heap s.heap.objs.size h₁ [] := News.nil
  try dsimp only
  try k_fold
  k_with_none
  k_steps
  rename Fr _ _ _ _ => lF
  rename News _ _ _ _ => lN
  rename_i fA _ _ _
  refine' records_ok ?X ?T ?a ?d ?u ?D ?_
  case X => exact X.keeps lF.keep
  case a => exact hh
  case T => exact T.keeps lF.keep
  case d => show A.depth + 1 + 1 < recursionLimit; exact om_u2 (by assumption) (by decide)
  case u => show A.units + 3 + 90 < cLine; exact om_u2 (by assumption) (by decide)
  case D => exact D.keeps lF.keep
  intro R h' tk' c k hR hRn
  have n1 : @Ne Nat R fA := ne_none hRn (lN _ (.head _)).1
  have F2 := lF.keeps k
  have N2 := News.add lF lN k hR hRn
  refine iter_list (vs := [.ref x]) (fun i m nx => (i = 0 ∧ nx = [(R, W.listOf #[Value.ref x] c), (fA, W.listOf #[] 0)] ∧ m = fun y_1 => if y_1 = Str.ofString "found" then some (Value.ref fA) else List.lookup y_1 [(Str.ofString "data", Value.ref y)].reverse) ∨
      (i = 1 ∧ ∃ c2, nx = [(R, W.listOf #[Value.ref x] c), (fA, W.listOf (downL rs rs.length).toArray c2)] ∧ m = fun z => if z = Str.ofString "root" then some (Value.ref x) else if z = Str.ofString "found" then some (Value.ref fA) else List.lookup z [(Str.ofString "data", Value.ref y)].reverse))
    hh F2 N2 (.inr ⟨_, .head _, rfl, _, rfl⟩) (.inl ⟨rfl, rfl, rfl⟩) ?turn ?done
  case turn =>
    rintro i v I oI m₁ nx h tk E' hv (⟨rfl, rfl, rfl⟩ | ⟨rfl, _⟩) a1 a2 F3 N3 S3
    · obtain rfl : Value.ref x = v := Option.some.inj hv
      have i1 : R < I := a2 _ (.head _)
      have i2 : fA < I := a2 _ (.tail _ (.head _))
      k_steps
      rename Fr _ _ _ _ => lF
      rename News _ _ _ _ => lN
      refine' under_ok ?X ?T ?a ?d ?u ?C hs hx ?_
      case X => exact X.keeps lF.keep
      case a => exact hh
      case T => exact T.keeps lF.keep
      case d => show A.depth + 1 + 1 < recursionLimit; exact om_u2 (by assumption) (by decide)
      case u => show A.units + 3 + 90 < cLine; exact om_u2 (by assumption) (by decide)
      case C => exact C.keeps lF.keep
      intro R2 h2 tk2 c2 k2 hR2 hRn2
      have i3 : @Ne Nat R2 I := ne_none hRn2 (lN _ (.head _)).1
      have i4 : @Ne Nat R2 R := ne_none hRn2 (lN _ (.tail _ (.head _))).1
      have i5 : @Ne Nat R2 fA := ne_none hRn2 (lN _ (.tail _ (.tail _ (.head _)))).1
      have F4 := lF.keeps k2
      have N4 := News.add lF lN k2 hR2 hRn2
      k_steps
      have hal := downL_len rs rs.length
      have hpos : rs.length ≠ 0 := by
        have := (List.getElem?_eq_some_iff.mp hx).1
        omega
      refine kl_extend (l := downL rs rs.length) (its := #[]) F4 N4 (.head _) (by simp) (by simpa [hal] using hpos) (.tail i5 (.tail (Nat.ne_of_gt i2) (.tail n1 (.head (fun p hp => nomatch hp))))) (by simp) (by simp) (by simp [hal, sizeLine_eq]; omega) (fun h5 F5 N5 => ?_)
      refine wpAny_execs_nil ?_
      refine ForEnd.intro F5 N5 [(R, W.listOf #[Value.ref x] c), (fA, W.listOf (downL rs rs.length).toArray 1)] (fun p hp => .tail _ hp) (fun p hp => ?_) (.inr ⟨_, .head _, rfl, _, rfl⟩) (.inr ⟨trivial, 1, rfl, rfl⟩)
      rcases List.mem_cons.mp hp with rfl | hp
      · exact Nat.ne_of_lt i1
      · rw [List.mem_singleton.mp hp]; exact Nat.ne_of_lt i2
    · cases hv
  case done =>
    rintro m₁ nx h tk (⟨q, _⟩ | ⟨_, c2, rfl, rfl⟩) F3 N3
    · cases q
    · dsimp only
      k_steps
      exact ret fA _ _ c2 F3.keep (N3 _ (.tail _ (.head _))).1 (N3 _ (.tail _ (.head _))).2.2
end Mine
end
section
open PySem PySem.W PySem.Calls PyProof.Rows PyProof.V PySem.Spec PyProof.Rows.LCg PyProof.Rows.LCt
set_option Elab.async false
set_option maxRecDepth 100000
set_option maxHeartbeats 4000000
namespace Mine
theorem offPbExc : True := by
  w_top off
  k_with_none
  trivial
/-! ### an exception class of the program's own, with an __init__ of its own above it -/
section
variable {M : Model} {A : Around} {E : Value → Shared → Prop} {h : Heap} {g : Array GenState} {d : Drawn} {t : Nat} {os : OsState}
variable {nm q : Str} {C N : Addr} {bs bm bmB : List Value} {hdct : Bool} {sn : List Str} {sub : List Value} {ab : Bool} {col : Option Bool} {dd : Option Addr} {k0 k1 k2 k3 k5 : Option Value} {B newId initId : String}
theorem flt_check_new (F : ExcBaseFacts B newId initId bmB) (hB : bm.contains (.type B) = true) {rest : List Value} {Q : Unit → Shared → Prop} (hC : h.get? C = some (excClassObj nm q C N bs bm hdct sn sub ab col dd k0 k1 k2 k3 k5 newId))
    (hq : Q () ⟨h, g, d, t, os⟩) : wpAny M A (checkBuiltinCall newId ⟨.ref C :: rest, []⟩) Q E ⟨h, g, d, t, os⟩ := by
  have hcont : (Value.ref C :: bm).contains (.type B) = true := by rw [List.contains_cons, hB, Bool.or_true]
  have hstar := F.noStar
  simp only [checkBuiltinCall, F.newKind, F.newSplit, F.newRow]
  repeat (first | refine wpAny_loadPart_at hC ?_ | (refine wpAny_isSubtype_exc hC ?_; rw [hcont]) | refine wpAny_staticBase_exc hC ?_ | refine wpAny_madeBy_exc hC ?_ | simp only [bne_self_eq_false, Bool.false_eq_true, if_false] | wp_step)
  exact hq
theorem flt_check_init (F : ExcBaseFacts B newId initId bmB) (hB : bm.contains (.type B) = true) {e : Addr} {oe : Obj} {rest : List Value} {Q : Unit → Shared → Prop}
    (hC : h.get? C = some (excClassObj nm q C N bs bm hdct sn sub ab col dd k0 k1 k2 k3 k5 newId)) (he : h.get? e = some oe) (hcls : oe.cls = .ref C) (hq : Q () ⟨h, g, d, t, os⟩) :
    wpAny M A (checkBuiltinCall initId ⟨.ref e :: rest, []⟩) Q E ⟨h, g, d, t, os⟩ := by
  have hcB : (Value.ref C :: bm).contains (.type B) = true := by rw [List.contains_cons, hB, Bool.or_true]
  have hshort := F.noStar
  simp only [checkBuiltinCall, F.initKind, F.initSplit, F.initRow]
  repeat (first | (with_reducible refine wpAny_loadPart_at he ?_; rw [hcls]) | with_reducible refine wpAny_loadPart_at hC ?_ | (with_reducible refine wpAny_isSubtype_exc hC ?_; rw [hcB]) | wp_step)
  refine wpAny_onRaise ?_
  rw [show ∀ (a b : String) (n : Nat), Bind.check ⟨.positional, "*", B, .self, [⟨"args", .varPos, false⟩]⟩ a b n (List.map (fun x => x.fst) ({ pos := Value.ref e :: rest } : Args).kw) = pure () from
    fun a b n => check_star_args _ _ _ _ _ _]
  exact wpAny_pure hq
end
abbrev fltObj (C t : Addr) : Obj := { cls := .ref C, data := .fields #[.ref t, .none, .none, .none, .bool false, .none] }
abbrev fltHeap (h : Heap) (C : Addr) (rest : List Value) : Heap := (h.push { cls := .type "tuple", data := .seq rest.toArray }).push (fltObj C h.objs.size)
section
variable {prog : Program} {w : World} {A : Around} {R : Result → Shared → Prop} {E : Value → Shared → Prop} {h : Heap} {g : Array GenState} {d : Drawn} {t : Nat} {os : OsState}
variable {nm q : Str} {C N : Addr} {bs bm bmB : List Value} {hdct : Bool} {sn : List Str} {sub : List Value} {ab : Bool} {col : Option Bool} {dd : Option Addr} {k0 k1 k2 k3 k5 : Option Value} {B newId initId : String}
theorem flt_new (F : ExcBaseFacts B newId initId bmB) (hB : bm.contains (.type B) = true) (hA : bm.contains (.type "AttributeError") = false) (hN : bm.contains (.type "NameError") = false)
    {rest : List Value} (hC : h.get? C = some (excClassObj nm q C N bs bm hdct sn sub ab col dd k0 k1 k2 k3 k5 newId))
    (hq : R (.ok (.ret (.ref (h.objs.size + 1)))) ⟨fltHeap h C rest, g, d, t, os⟩) (hrest : rest.length ≤ sizeLine) :
    codeAny (model prog w) A (.builtin newId ⟨.ref C :: rest, []⟩) R ⟨h, g, d, t, os⟩ := by
  have hends := F.ends
  have hcB : (Value.ref C :: bm).contains (.type B) = true := by rw [List.contains_cons, hB, Bool.or_true]
  have hcA : (Value.ref C :: bm).contains (.type "AttributeError") = false := by rw [List.contains_cons, hA]; rfl
  have hcN : (Value.ref C :: bm).contains (.type "NameError") = false := by rw [List.contains_cons, hN]; rfl
  refine codeAny_builtinAt F.entry ?_
  unfold Builtin.«BaseException.__new__»
  refine PySem.wpAt_bind ?_
  show PySem.wpAt _ _ _ (stack >>= _) _ _ _
  refine PySem.wpAt_bind (PySem.wpAt_stack fun p below => PySem.wpAt_of_wpAny ?_)
  wp_walk
  refine PySem.wpAt_of_wpAny ?_
  rw [F.owner]
  repeat (first | with_reducible refine wpAny_madeHere_exc F.canon hC ?_ | with_reducible refine wpAny_loadPart_at hC ?_ | (with_reducible refine wpAny_isSubtype_exc hC ?_; first | rw [hcB] | rw [hcA] | rw [hcN]) | wp_step)
  show R _ _
  rw [Heap.size_push]
  exact hq
theorem flt_type_call (F : ExcBaseFacts B newId initId bmB) (hB : bm.contains (.type B) = true) (hA : bm.contains (.type "AttributeError") = false) (hN : bm.contains (.type "NameError") = false)
    {rest : List Value} {fI : Addr} {oI : Obj} {Q : Fin → Shared → Prop}
    (hC : h.get? C = some (excClassObj nm q C N bs bm hdct sn sub ab col dd k0 k1 k2 k3 k5 newId)) (hi : Looks (model prog w) h (typeLookup (.ref C) "__init__") (some (.ref fI)))
    (hfI : h.get? fI = some oI) (hfc : oI.cls = .type "function") (hrest : rest.length ≤ sizeLine)
    (hq : wpAny (model prog w) A (call (.ref fI) (.ref (h.objs.size + 1) :: rest)) (fun r s' => r = .none ∧ Q (.done (.ret (.ref (h.objs.size + 1)))) s') E ⟨fltHeap h C rest, g, d, t, os⟩) :
    wpAny (model prog w) A (Builtin.«type.__call__» ⟨.ref C :: rest, []⟩) Q E ⟨h, g, d, t, os⟩ := by
  repeat (first | with_reducible refine wpAny_loadPart_at hC ?_ | with_reducible refine wpAny_madeBy_exc hC ?_ | wp_step)
  refine codeAny_call_builtin_code (Code.quiet_builtin _ F.quiet) (flt_check_new F hB hC ?_)
  refine flt_new F hB hA hN hC ?_ hrest
  show wpAny _ _ _ _ _ _
  have up : ∀ b o, h.get? b = some o → (fltHeap h C rest).get? b = some o := fun b o e => Heap.get?_push_of_some _ (Heap.get?_push_of_some _ e)
  have hC₁ := up _ _ hC
  have hfI₁ := up _ _ hfI
  have hget : (fltHeap h C rest).get? (h.objs.size + 1) = some (fltObj C h.objs.size) := by heap_get
  have hcC : (Value.ref C :: bm).contains (.ref C) = true := by simp
  unfold isInstance
  repeat (first | with_reducible refine wpAny_loadPart_at hget ?_ | (with_reducible refine wpAny_isSubtype_exc hC₁ ?_; rw [hcC]) | wp_step)
  show wpAny _ _ (typeLookup (.ref C) _) _ _ _
  refine (hi.keeps up).at ?_
  refine wpAny_holding (wpAny_bind ?_)
  unfold bindSpecial
  refine wpAny_bind (wpAny_typeOf (T := "function") ⟨_, hfI₁, hfc⟩ ?_)
  rw [if_pos (by decide)]
  refine wpAny_pure (wpAny_bind (wpAny_mono hq (fun r s' hr => ?_) fun _ _ x => x))
  obtain ⟨rfl, hQ⟩ := hr
  wp_walk
  exact hQ
theorem flt_call (F : ExcBaseFacts B newId initId bmB) (hB : bm.contains (.type B) = true) (hA : bm.contains (.type "AttributeError") = false) (hN : bm.contains (.type "NameError") = false)
    {rest : List Value} {fI : Addr} {oI : Obj} {Q : Value → Shared → Prop}
    (hC : h.get? C = some (excClassObj nm q C N bs bm hdct sn sub ab col dd k0 k1 k2 k3 k5 newId)) (hi : Looks (model prog w) h (typeLookup (.ref C) "__init__") (some (.ref fI)))
    (hfI : h.get? fI = some oI) (hfc : oI.cls = .type "function") (hrest : rest.length ≤ sizeLine)
    (hq : wpAny (model prog w) (A.under (.builtin "type.__call__" ⟨.ref C :: rest, []⟩)) (call (.ref fI) (.ref (h.objs.size + 1) :: rest)) (fun r s' => r = .none ∧ Q (.ref (h.objs.size + 1)) s') E ⟨fltHeap h C rest, g, d, t, os⟩) :
    wpAny (model prog w) A (call (.ref C) rest) Q E ⟨h, g, d, t, os⟩ := by
  have f1 := tc_lookup
  have f2 := tc_bind (.ref C)
  have hT : (⟨h, g, d, t, os⟩ : Shared).TypeIs (.ref C) "type" := ⟨_, hC, rfl⟩
  refine wpAny_call (codeAny_of_tree ?_)
  show wpAny _ _ (callAny (.ref C) _) _ _ _
  repeat (any_goals (first | assumption | with_reducible refine wpAny_loadPart_at hC ?_ | wp_step))
  refine ⟨rfl, ?_⟩
  exact codeAny_call_builtin_at (Code.quiet_builtin _ (by decide +kernel)) entry_typeCall (wpAny_check_type_call_sub hC (flt_type_call F hB hA hN hC hi hfI hfc hrest hq))
/-- the built-in __init__ above, called by name -/
theorem flt_init0 (F : ExcBaseFacts B newId initId bmB) (hB : bm.contains (.type B) = true) {e t0 : Addr} {oe : Obj} {vs : Array Value} {rest : List Value} {Q : Value → Shared → Prop}
    (hC : h.get? C = some (excClassObj nm q C N bs bm hdct sn sub ab col dd k0 k1 k2 k3 k5 newId)) (he : h.get? e = some oe) (hcls : oe.cls = .ref C) (hd : oe.data = .fields vs) (h0 : vs[0]? = some (.ref t0)) (hrest : rest.length ≤ sizeLine)
    (hq : Q .none ⟨(h.push { cls := .type "tuple", data := .seq rest.toArray }).update e (Obj.mapFields (·.setIfInBounds 0 (.ref h.objs.size))), g, d, t, os⟩) :
    wpAny (model prog w) A (call (.builtin initId) (.ref e :: rest)) Q E ⟨h, g, d, t, os⟩ := by
  refine wpAny_call (codeAny_call_builtin F.init.plain F.initEntry (flt_check_init F hB hC he hcls ?_))
  unfold Builtin.«BaseException.__init__»
  dsimp only
  rw [if_neg (by simp)]
  unfold newTuple Builtin.BaseException.bexcPut
  have hsz : 0 < vs.size := (Array.getElem?_eq_some_iff.mp h0).1
  have he₁ := Heap.get?_push_of_some (h := h) { cls := .type "tuple", data := .seq rest.toArray } he
  refine wpAny_bind (wpAny_newObj_type (wpAny_bind (wpAny_bind (wpAny_field he₁ hd h0 (wpAny_bind (wpAny_setField he₁ hd hsz ?_))))) (by show rest.toArray.size ≤ sizeLine; rw [List.size_toArray]; exact hrest))
  exact wpAny_letGo (wpAny_pure hq)
end
/-- storing an attribute on such an object, by the dict that it has or is given -/
theorem flt_store {prog : Program} {w : World} {A : Around} {E : Value → Shared → Prop} {h : Heap} {g : Array GenState} {d : Drawn} {t : Nat} {os : OsState} {K : Frag} {C x : Addr} {cd : ClassData} {mA : Str → Option Value} {name : Str} {v : Value} {tk : Tok} {b : Bool} {Q : Fin → Shared → Prop} {ns : List Str}
    (X : K.In h) (hc : clsIn K C = some cd) (hhd : cd.hasDict = true) (I : h.Inst x C mA) (hw : Within mA ns) (hsz : ns.length ≤ 100)
    (hq : ∀ h' tk', h'.Inst x C (fun y => if y = name then some v else mA y) →
      (∀ b o, b ≠ x → (∀ o₀ dx, h.get? x = some o₀ → o₀.dict = some dx → b ≠ dx) → h.get? b = some o → h'.get? b = some o) →
      (∀ o₀, h.get? x = some o₀ → ∃ o₁, h'.get? x = some o₁ ∧ o₁.cls = o₀.cls ∧ o₁.data = o₀.data ∧ (∀ dx, o₁.dict = some dx → o₀.dict = some dx ∨ h.get? dx = none)) → Q (.done (.ret .none)) ⟨h', g, d, tk', os⟩) :
    wpAny (model prog w) A (Builtin.ObjectAttr.storeInOwnDict (.ref x) (.ref C) (.str name tk) name v b) Q E ⟨h, g, d, t, os⟩ := by
  obtain ⟨o, hx, hcl, hnc, hd⟩ := I
  refine wpAny_bind (wpAny_pure (wpAny_bind (wpAny_bind (wpAny_loadPart hx ?_))))
  rw [hcl]
  dsimp only
  refine wpAny_bind ((looks_clsIn X hc).at ?_)
  rw [hhd]
  simp only [Bool.not_true, Bool.false_eq_true, if_false]
  rcases hd with ⟨hdn, hmA⟩ | ⟨dx, hdx, hne, hns⟩
  · rw [hdn]
    dsimp only
    rw [if_neg (by simp [typeHasDict])]
    · have hx₁ : (h.push { cls := .type "dict", data := .dict #[] }).get? x = some o := Heap.get?_push_of_some _ hx
      have hxs : x ≠ h.objs.size := Nat.ne_of_lt (Heap.lt_size hx)
      refine wpAny_bind (wpAny_alloc' ?_)
      refine wpAny_bind (wpAny_update' hx₁ ?_)
      refine wpAny_pure ?_
      have hgd : ((h.push { cls := .type "dict", data := .dict #[] }).update x fun o => { cls := o.cls, dict := some h.objs.size, data := o.data, slots := o.slots }).get? h.objs.size
          = some { cls := .type "dict", data := .dict #[] } :=
        (Heap.get?_update_ne _ _ _ _ hxs.symm).trans (Heap.get?_push_at rfl rfl)
      have hnd : ((h.push { cls := .type "dict", data := .dict #[] }).update x fun o => { cls := o.cls, dict := some h.objs.size, data := o.data, slots := o.slots }).Ns h.objs.size (fun _ => none) :=
        ⟨_, #[], _, hgd, rfl, fun e he => absurd he (by simp), fun _ => rfl⟩
      show wpAny _ _ (Builtin.ObjectAttr.storeInDict h.objs.size (.str name tk) name v) _ _ _
      unfold Builtin.ObjectAttr.storeInDict Builtin.ObjectAttr.newKeyGuard
      refine wpAny_bind (wpAny_pure (wpAny_bind (wpAny_nsSet1 (Heap.Ns1.of_empty hnd) fun h' hn' hs => ?_)))
      obtain ⟨oD, esD, epD, hoD, hdD, hcD⟩ := hn'.count (Within.cons name v Within.nil)
      refine wpAny_bind (wpAny_lookBehind hoD (by rw [hdD]; exact pastItsLine_dict (Nat.le_trans hcD (by rw [List.length_cons, List.length_nil, sizeLine_eq]; omega))) ?_)
      wp_walk
      have hx' : h'.get? x = some { cls := o.cls, dict := some h.objs.size, data := o.data, slots := o.slots } := ?_
      refine hq h' _ ⟨{ cls := o.cls, dict := some h.objs.size, data := o.data, slots := o.slots }, hx', hcl, hnc, .inr ⟨h.objs.size, rfl, hxs.symm, ?_⟩⟩ (fun b ob hbx _ hb => ?_)
        (fun o₀ h₀ => by obtain rfl : o = o₀ := Option.some.inj (hx.symm.trans h₀); exact ⟨_, hx', rfl, rfl, fun dx e => .inr (by cases e; exact Heap.get?_none_of_le (Nat.le_refl _))⟩)
      · obtain ⟨o', es, ep, e1, e2, e3, eu, e4⟩ := hn'
        exact ⟨o', es, ep, e1, e2, e3, eu, fun y => by rw [e4 y]; by_cases hy : y = name <;> simp [hy, hmA]⟩
      · exact (hs.2 b (Nat.ne_of_lt (Heap.lt_size hb))).trans ((Heap.get?_update_ne _ _ _ _ hbx).trans (Heap.get?_push_of_some _ hb))
      · refine (hs.2 x hxs).trans (Heap.get?_update_self _ hx₁ ?_)
        have hfr := (Heap.get?_some_iff.mp hx).2
        obtain ⟨oc, od, odt, osl⟩ := o
        cases odt <;> first | rfl | exact hfr
  · rw [hdx]
    refine wpAny_pure ?_
    show wpAny _ _ (Builtin.ObjectAttr.storeInDict dx (.str name tk) name v) _ _ _
    unfold Builtin.ObjectAttr.storeInDict Builtin.ObjectAttr.newKeyGuard
    refine wpAny_bind (wpAny_pure (wpAny_bind (wpAny_nsSet1 hns fun h' hn' hs => ?_)))
    obtain ⟨oD, esD, epD, hoD, hdD, hcD⟩ := hn'.count (Within.cons name v hw)
    refine wpAny_bind (wpAny_lookBehind hoD (by rw [hdD]; exact pastItsLine_dict (Nat.le_trans hcD (by rw [List.length_cons, sizeLine_eq]; omega))) ?_)
    wp_walk
    refine hq h' _ ⟨o, (hs.2 x hne.symm).trans hx, hcl, hnc, .inr ⟨dx, hdx, hne, hn'⟩⟩ (fun b ob _ hbd hb => ?_)
      (fun o₀ h₀ => by obtain rfl : o = o₀ := Option.some.inj (hx.symm.trans h₀); exact ⟨o, (hs.2 x hne.symm).trans h₀, rfl, rfl, fun _ e => .inl e⟩)
    exact (hs.2 b (hbd o dx hx hdx)).trans hb
end Mine
end
section
open PySem PySem.W PySem.Calls PyProof.Rows PyProof.V PySem.Spec PyProof.Rows.LCg PyProof.Rows.LCt
set_option Elab.async false
set_option maxRecDepth 100000
set_option maxHeartbeats 4000000
namespace Mine
theorem offPbFault : True := by
  w_top off
  k_with_none
  trivial
/-- the object under construction, in the heap of a call -/
def FltAt (g : Heap) (L : Addr) (h : Heap) (e C : Addr) (k : Nat) : Prop :=
  ∃ o vs t0 mA ns, h.get? e = some o ∧ o.cls = .ref C ∧ o.data = .fields vs ∧ vs[0]? = some (.ref t0) ∧ vs[1]? = some .none ∧ g.get? e = none ∧ e ≠ L ∧
    h.Inst e C mA ∧ PySem.Within mA ns ∧ ns.length ≤ k ∧ ∀ dx, o.dict = some dx → g.get? dx = none ∧ dx ≠ L ∧ dx ≠ e
theorem flt_set {prog : Program} {w : World} {A : Around} {E : Value → Shared → Prop} {s : Shared} {K : Frag} {C x : Addr} {cd : ClassData} {mA : Str → Option Value} {name : Str} {v : Value} {Q : Unit → Shared → Prop} {ns : List Str}
    (X : K.In s.heap) (hc : clsIn K C = some cd) (hhd : cd.hasDict = true) (hsub : mroIn K C (.type "object") = some true) (href : ∀ self, refuseLoop self "__setattr__" cd.mro = pure ())
    (hs : findIn K (.ref C) "__setattr__" = some (some (.builtin "object.__setattr__"))) (ht : takerIn K C name = some none)
    (I : s.heap.Inst x C mA) (hw : PySem.Within mA ns) (hsz : ns.length ≤ 100)
    (hq : ∀ h' tk', h'.Inst x C (fun y => if y = name then some v else mA y) →
      (∀ b o, b ≠ x → (∀ o₀ dx, s.heap.get? x = some o₀ → o₀.dict = some dx → b ≠ dx) → s.heap.get? b = some o → h'.get? b = some o) →
      (∀ o₀, s.heap.get? x = some o₀ → ∃ o₁, h'.get? x = some o₁ ∧ o₁.cls = o₀.cls ∧ o₁.data = o₀.data ∧ (∀ dx, o₁.dict = some dx → o₀.dict = some dx ∨ s.heap.get? dx = none)) → Q () { s with heap := h', toks := tk' }) :
    wpAny (model prog w) A (setAttr (.ref x) name v) Q E s := by
  obtain ⟨h, g, d, t, os⟩ := s
  have SF := PySem.F.store_object
  obtain ⟨o, hx, hcl, hnc, hd⟩ := id I
  have hno : notCls o = true := by
    unfold notCls
    split
    · rename_i c q; exact absurd q (hnc c)
    · rfl
  obtain ⟨od, I'⟩ : ∃ od, InstAt h x o C od := by
    rcases hd with ⟨hdn, _⟩ | ⟨dx, hdx, _, oD, _, _, hoD, _⟩
    · exact ⟨none, hx, hcl, hno, by rw [hdn]; trivial⟩
    · exact ⟨some oD, hx, hcl, hno, by rw [hdx]; exact hoD⟩
  have tp : Looks (model prog w) h (typeOf (.ref x)) (.ref C) := I'.type
  have sub : Looks (model prog w) h (isInstance (.ref x) (.type "object")) true := tp.andThen (looks_mroIn X hsub)
  have hm : Looks (model prog w) h (mroOf (.ref C)) cd.mro := (looks_clsIn X hc).andThen .now
  refine set_plain X I' hs ?_
  refine codeAny_call_builtin SF.slot.plain SF.entry (@check_slot (model prog w) _ _ _ "object.__setattr__" "object" "__setattr__" (.ref x) [.str name t, v] [] _ SF.kind SF.split sub (SF.args (.ref x) (.str name t) v) ?_)
  obtain ⟨attr, ha, hr⟩ := Option.bind_eq_some_iff.mp ht
  have L3 : Looks (model prog w) h (Builtin.ObjectAttr.storeTaker? attr) none := by
    cases attr with
    | none => exact .now
    | some a =>
      obtain ⟨b, hb, hr'⟩ := Option.map_eq_some_iff.mp hr
      refine (looks_takesIn X hb).andThen ?_
      cases b with
      | true => cases hr'
      | false => exact .now
  rw [osa_eq, refuse_eq]
  refine wpAny_bind (wpAny_bind (tp.at (wpAny_bind (hm.at ?_))))
  rw [href]
  refine wpAny_pure (wpAny_bind (tp.at (wpAny_bind ((looks_findIn X ha).at (wpAny_bind (L3.at ?_))))))
  exact flt_store X hc hhd I hw hsz fun h' tk' a b c => hq h' tk' a b c
theorem flt_setF {prog : Program} {w : World} {A : Around} {E : Value → Shared → Prop} {s : Shared} {K : Frag} {C x L : Addr} {h₀ : Heap} {m : Str → Option Value} {cd : ClassData} {name : Str} {v : Value} {Q : Unit → Shared → Prop} {k : Nat}
    (F : Fr h₀ L s.heap m) (X : K.In h₀) (H : FltAt h₀ L s.heap x C k) (hk : k ≤ 100) (hc : clsIn K C = some cd) (hhd : cd.hasDict = true) (hsub : mroIn K C (.type "object") = some true) (href : ∀ self, refuseLoop self "__setattr__" cd.mro = pure ())
    (hs : findIn K (.ref C) "__setattr__" = some (some (.builtin "object.__setattr__"))) (ht : takerIn K C name = some none)
    (hq : ∀ h' tk', Fr h₀ L h' m → FltAt h₀ L h' x C (k + 1) → Q () { s with heap := h', toks := tk' }) :
    wpAny (model prog w) A (setAttr (.ref x) name v) Q E s := by
  obtain ⟨o, vs, t0, mA, ns, hx, hcl, hd, h0, h1, hg, hL, I, hw, hl, hdx⟩ := H
  refine flt_set (X.keeps F.keep) hc hhd hsub href hs ht I hw (by omega) fun h' tk' I' keep same => ?_
  obtain ⟨o₁, e1, e2, e3, e4⟩ := same o hx
  have hoff : ∀ b, b ≠ x → (∀ dx, o.dict = some dx → b ≠ dx) → ∀ ob, s.heap.get? b = some ob → h'.get? b = some ob := fun b n1 n2 ob e => keep b ob n1 (fun o₀ dx q q2 => n2 dx (by rw [hx] at q; cases q; exact q2)) e
  refine hq h' tk' ⟨?_, fun b ob e => ?_, F.above⟩ ⟨o₁, vs, t0, _, name :: ns, e1, e2.trans hcl, e3.trans hd, h0, h1, hg, hL, I', hw.cons name v, by simp only [List.length_cons]; omega, fun dx q => ?_⟩
  · exact F.ns.at' fun ob e => hoff L (Ne.symm hL) (fun dx q => Ne.symm (hdx dx q).2.1) ob e
  · refine hoff b (fun q => ?_) (fun dx q r => ?_) ob (F.keep b ob e)
    · rw [q, hg] at e; cases e
    · rw [r, (hdx dx q).1] at e; cases e
  · rcases e4 dx q with q | q
    · exact hdx dx q
    · refine ⟨?_, ?_, ?_⟩
      · cases r : h₀.get? dx with
        | none => rfl
        | some ob => rw [F.keep _ _ r] at q; cases q
      · intro r
        obtain ⟨oL, _, _, hL', _⟩ := F.ns
        rw [r, hL'] at q; cases q
      · intro r; rw [r, hx] at q; cases q
theorem flt_initF {prog : Program} {w : World} {A : Around} {E : Value → Shared → Prop} {s : Shared} {C e t L : Addr} {h₀ : Heap} {m : Str → Option Value} {Q : Value → Shared → Prop} {rest : List Value}
    {nm q : Str} {N : Addr} {bs bm bmB : List Value} {hdct : Bool} {sn : List Str} {sub : List Value} {ab : Bool} {col : Option Bool} {dd : Option Addr} {k0 k1 k2 k3 k5 : Option Value} {B newId initId : String}
    (FB : ExcBaseFacts B newId initId bmB) (hB : bm.contains (.type B) = true) (hC : s.heap.get? C = some (excClassObj nm q C N bs bm hdct sn sub ab col dd k0 k1 k2 k3 k5 newId))
    (F : Fr h₀ L s.heap m) (Nw : News h₀ L s.heap [(e, fltObj C t)]) (hrest : rest.length ≤ 100)
    (hq : ∀ h', Fr h₀ L h' m → FltAt h₀ L h' e C 0 → Q .none { s with heap := h' }) :
    wpAny (model prog w) A (call (.builtin initId) (.ref e :: rest)) Q E s := by
  obtain ⟨h, g, d, tk, os⟩ := s
  refine flt_init0 FB hB hC (Nw _ (.head _)).1 rfl rfl rfl (by rw [sizeLine_eq]; omega) ?_
  obtain ⟨U1, U2⟩ := news_upd (pre := []) (post := []) (f := Obj.mapFields (·.setIfInBounds 0 (.ref h.objs.size))) (o' := fltObj C h.objs.size) (F.push { cls := .type "tuple", data := .seq rest.toArray })
    (fun p hp => ⟨Heap.get?_push_of_some _ (Nw p hp).1, (Nw p hp).2⟩) (fun _ hp => nomatch hp) (fun _ hp => nomatch hp) rfl rfl
  have D := U2 _ (.head _)
  exact hq _ U1 ⟨_, _, _, fun _ => none, [], D.1, rfl, rfl, rfl, rfl, D.2.2, D.2.1, ⟨_, D.1, rfl, (fun c q => by cases q), .inl ⟨rfl, fun _ => rfl⟩⟩, PySem.Within.nil, Nat.le_refl _, fun dx q => by cases q⟩
theorem fault_ok {w : World} {mean : ExcName → Option Value} {mg mb : Str → Option Value} {A : Around} {s : Shared} {Q E : Value → Shared → Prop}
    (X : (Mine.hd.heap_39 w.params).In s.heap) (T : Top Mine.hd.view_39 (looseW Mine.hd.view_39 [Str.ofString "LedgerError"]) mean mg mb s.heap)
    (hh : A.handled = none) (hd : A.depth + 3 < recursionLimit) (hu : A.units + 50 < cLine) {msg : Str} {t : Tok}
    (ret : ∀ e h' tk' o vs t0, (∀ b o, s.heap.get? b = some o → h'.get? b = some o) → s.heap.get? e = none → h'.get? e = some o → o.cls = .ref 60 → o.data = .fields vs → vs[0]? = some (.ref t0) → vs[1]? = some .none → Q (.ref e) { s with heap := h', toks := tk' }) :
    wpAny (model Challenge.rw_pb0235_01.row.prog w) A (call (.ref 60) [.str msg t]) Q E s := by
  revert X; k_fill; intro X
  obtain ⟨nm, q, N, bs, sn, sub, ab, col, dd, k0, k1, k2, k3, k5, hC⟩ : ∃ nm q N bs sn sub ab col dd k0 k1 k2 k3 k5, s.heap.get? 60 = some (excClassObj nm q 60 N bs [.ref 47, .type "Exception", .type "BaseException", .type "object"] true sn sub ab col dd k0 k1 k2 k3 k5 "Exception.__new__") :=
    ⟨_, _, _, _, _, _, _, _, _, _, _, _, _, _, X _ _ (by k_is)⟩
  have hi : Looks (model Challenge.rw_pb0235_01.row.prog w) s.heap (typeLookup (.ref 60) "__init__") (some (.ref 37)) := looks_findIn X (by k_is)
  obtain ⟨oI, hfI, hfc⟩ : ∃ oI, s.heap.get? 37 = some oI ∧ oI.cls = .type "function" := ⟨_, X _ _ (by k_is), rfl⟩
  obtain ⟨h, g, d, tk, os⟩ := s
  have up : ∀ b o, h.get? b = some o → (fltHeap h 60 [.str msg t]).get? b = some o := fun b o e => Heap.get?_push_of_some _ (Heap.get?_push_of_some _ e)
  refine flt_call PySem.F.excBase_Exception (by decide) (by decide) (by decide) hC hi hfI hfc (by rw [sizeLine_eq]; simp) ?_
  have X2 := X.keeps up
  have hget : (fltHeap h 60 [.str msg t]).get? (h.objs.size + 1) = some (fltObj 60 h.objs.size) := by heap_get
  have hnone : h.get? (h.objs.size + 1) = none := Heap.get?_none_of_le (Nat.le_succ _)
  refine wpAny_call ?_
  refine' enter_mut (b := h) (news := [(h.objs.size + 1, fltObj 60 h.objs.size)]) X T.nolimit up ?hn ?ho ?hcd ?hroom ?hbind ?hloc ?_ ?c2 ?c3 ?c4 ?c5
  case ho => k_is
  case hcd => k_is
  case hroom => show A.depth + 1 < recursionLimit; exact om_u1 (by assumption) (by decide)
  case hbind => exact (binds_K (binds := [(Str.ofString "self", .ref (h.objs.size + 1)), (Str.ofString "what", .str msg t), (Str.ofString "at", .ref 29)]) X2 rfl (by k_is) rfl rfl rfl)
  case hloc => exact locs rfl
  case c2 => rfl
  case c3 => rfl
  case c4 => rfl
  case c5 => decide
  case hn => intro p hp; rw [List.mem_singleton.mp hp]; exact ⟨hget, hnone⟩
  intro g1 h₁ hg hkeep F N l1
  have Xg := X.keeps hg
  have Tg := T.keeps hg
  try dsimp only
  try k_fold
  obtain ⟨cd, hcd, hcd1, hcd2, hcd3⟩ : ∃ cd, clsIn (Mine.hd.heap_39 w.params) 60 = some cd ∧ cd.hasDict = true ∧ mroIn (Mine.hd.heap_39 w.params) 60 (.type "object") = some true ∧ ∀ self, refuseLoop self "__setattr__" cd.mro = pure () :=
    ⟨_, by k_is, rfl, by k_is, fun self => by rw [refuseLoop_ref, refuseLoop_ref]; exact PySem.F.store_Exception.passes self⟩
  k_with_none
  k_with "getMethod type:Exception" => (refine' method_type ?F ?X ?m (by decide +kernel) ?e ?h ?_; (case F => k_asm); (case X => k_asm); (case m => kernel_rfl); (case e => k_dflt k_is); (case h => k_handed))
  k_with "call builtin:Exception.__init__" => (refine flt_initF PySem.F.excBase_Exception (by decide) (Fr.keep (by assumption) _ _ (hg _ _ hC)) (by assumption) (by assumption) (by simp) (fun h' F' H' => ?_))
  k_with "setAttr ref" => (rename FltAt _ _ _ _ _ _ => hF; refine' flt_setF ?k1 ?k2 hF (by decide) hcd hcd1 hcd2 hcd3 ?k3 ?k4 (fun h' tk' F' H' => ?_); (case k1 => k_asm); (case k2 => k_asm); (case k3 => k_is); (case k4 => k_is))
  k_steps
  rename FltAt _ _ _ _ _ _ => hF
  rename Fr _ _ _ _ => lF
  obtain ⟨o, vs, t0, mA, ns, hx, hcl, hd', h0, h1, -⟩ := hF
  exact ret _ _ _ o vs t0 (fun b o e => lF.keep b o (hg b o e)) hnone hx hcl hd' h0 h1
end Mine
end
section
open PySem PySem.W PySem.Calls PyProof.Rows PyProof.V PySem.Spec PyProof.Rows.LCg PyProof.Rows.LCt
set_option Elab.async false
set_option maxRecDepth 100000
set_option maxHeartbeats 4000000
namespace Mine
theorem offPbOnly : True := by
  w_top off
  k_with_none
  trivial
section
variable {M : Model} {A : Around} {E : Value → Shared → Prop} {s : Shared} {env : Env}
variable {nm q : Str} {C N : Addr} {bs bm : List Value} {hdct : Bool} {sn : List Str} {sub : List Value} {ab : Bool} {col : Option Bool} {dd : Option Addr} {k0 k1 k2 k3 k5 : Option Value} {newId : String}
theorem raise_made {x : Sem Value} {Q : Flow → Shared → Prop} (hbase : bm.contains (.type "BaseException") = true) (hh : A.handled = none)
    (h : wpAny M A x (fun v s₁ => ∃ e o vs, v = .ref e ∧ s₁.heap.get? C = some (excClassObj nm q C N bs bm hdct sn sub ab col dd k0 k1 k2 k3 k5 newId) ∧
      s₁.heap.get? e = some o ∧ o.cls = .ref C ∧ o.data = .fields vs ∧ vs[1]? = some .none ∧ E (.ref e) s₁) E s) :
    wpAny M A (raiseStmt env (some x) none) Q E s := by
  have hcB : (Value.ref C :: bm).contains (.type "BaseException") = true := by rw [List.contains_cons, hbase, Bool.or_true]
  unfold raiseStmt
  refine wpAny_bind (wpAny_mono h (fun v s₁ h₁ => ?_) fun _ _ x => x)
  obtain ⟨e, o, vs, rfl, hC, he, hc, hd, h1, hE⟩ := h₁
  obtain ⟨hp, g, d, tk, os⟩ := s₁
  obtain ⟨oc, od, odt, osl⟩ := o
  dsimp only at hc hd
  subst hc hd
  repeat (first | with_reducible refine wpAny_loadPart_at he ?_ | with_reducible refine wpAny_loadPart_at hC ?_ | (with_reducible refine wpAny_isSubtype_exc hC ?_; rw [hcB]) | with_reducible refine wpAny_field he rfl h1 ?_ | wp_step)
  exact wpAny_raiseNew_none hh hE
theorem Raise_made {x : PySem.Expr} {pos : Pos} {Q : Flow → Shared → Prop} (hbase : bm.contains (.type "BaseException") = true) (hh : A.handled = none)
    (h : wpAny M A (eval x env) (fun v s₁ => ∃ e o vs, v = .ref e ∧ s₁.heap.get? C = some (excClassObj nm q C N bs bm hdct sn sub ab col dd k0 k1 k2 k3 k5 newId) ∧
      s₁.heap.get? e = some o ∧ o.cls = .ref C ∧ o.data = .fields vs ∧ vs[1]? = some .none ∧ E (.ref e) s₁) E s) :
    wpAny M A (exec (.Raise (some x) none pos) env) Q E s := by
  rw [arm_exec_Raise]
  refine wpAny_bind (wpAny_standAt ?_)
  exact raise_made hbase hh (wpAny_bind (wpAny_mono h (fun v s₃ h₃ => wpAny_bind (wpAny_standAt (wpAny_pure h₃))) fun _ _ x => x))
end
/-- entering a def without cells that may raise -/
theorem enter_plainE {prog : Program} {w : World} {A : Around} {s : Shared} {K : Frag} {R : Result → Shared → Prop} {name qual : Str} {params : Arguments} {body : List Stmt} {scope : Scope}
    {dV kV doc pm cdv ct oc : Value} {an od : Option Addr} {osl : Array (Option Value)} {f : Addr} {args : Args} {binds : List (Str × Value)}
    (X : K.In s.heap) (hlim : s.heap.NoLimit)
    (ho : K.lookup f = some ⟨oc, od, .func (fnOf name qual params body scope dV kV doc pm an cdv ct), osl⟩) (hcd : codeIn K cdv qual = true) (hroom : A.depth < recursionLimit)
    (hbind : BindsTo s (fnOf name qual params body scope dV kV doc pm an cdv ct) args binds) (hloc : ∀ y ∈ binds, scope.names.lookup y.1 = some .local)
    (h : ∀ h₁, Fr s.heap s.heap.objs.size h₁ (fun y => binds.reverse.lookup y) →
      wpAny (model prog w) (A.deeper (envOf qual scope s.heap.objs.size f cdv)) (execs body (envOf qual scope s.heap.objs.size f cdv))
        (fun fl s' => R (.ok (.ret (match fl with | .ret v => v | _ => .none))) s')
        (fun e s' => wpAny (model prog w) (A.deeper (envOf qual scope s.heap.objs.size f cdv)) (leaving (envOf qual scope s.heap.objs.size f cdv) e) (fun _ s'' => R (.error e) s'') (fun e' s'' => R (.error e') s'') s')
        { s with heap := h₁, toks := s.toks + binds.length })
    (hco : scope.isCoroutine = false) (hgen : scope.isGenerator = false) (hk : scope.kind = .function) (hcell : ∀ x ∈ scope.names, x.2 ≠ .cell) :
    codeAny (model prog w) A (.call (.ref f) args) R s := by
  refine codeAny_call_def (fd := fnOf name qual params body scope dV kV doc pm an cdv ct) (body := body) (binds := binds) hroom (X _ _ ho) rfl hlim (codeRec_of X hcd) rfl hbind hcell hloc (fun h₁ hns hk₁ => ?_) hco hgen hk
  exact wpAny_mono (h h₁ ⟨hns, fun b o e => hk₁ b o e, Nat.le_refl _⟩) (fun _ _ y => y) fun _ _ y => y
theorem leave_first {M : Model} {A : Around} {E : Value → Shared → Prop} {s : Shared} {env : Env} {outer : List Env} {base g : Heap} {L e t0 : Addr} {m : Str → Option Value} {o : Obj} {vs : Array Value} {cls : Value} {Q : Unit → Shared → Prop}
    (hA : A.frames = some outer) (hk : env.scope.kind ≠ .module) (hf : env.frame = some L) (F : Fr g L s.heap m) (hfr : s.heap.FunFrames base outer) (hb : base.StaysIn s.heap) (hbL : base.get? L = none)
    (he : s.heap.get? e = some o) (hc : o.cls = cls) (hd : o.data = .fields vs) (h0 : vs[0]? = some (.ref t0)) (h1 : vs[1]? = some .none) (hbe : base.get? e = none)
    (hQ : ∀ h', Heap.FlyingW base outer e cls (.ref t0) h' → s.heap.UpToSlots h' → Q () { s with heap := h' }) : wpAny M (A.deeper env) (leaving env (.ref e)) Q E s :=
  wpAny_leaving_firstW (a0 := .ref t0) (Around.frames_deeper hA) (Heap.FunFrames.cons hk hf F.ns hbL hfr) hf he hb hbe hd h1 h0 (fun h' hL => by
    subst hc
    obtain ⟨k1, ⟨_, _, k2⟩, k3, k4⟩ := hL
    exact hQ h' ⟨k1, hbe, k2, k3⟩ k4)
/-- what a CheckFault in flight leaves: base is what lies outside all frames of l -/
def Thrown (base : Heap) (l : List Env) (s : Shared) (v : Value) (s' : Shared) : Prop :=
  ∃ e t0 h' tk', v = .ref e ∧ s' = { s with heap := h', toks := tk' } ∧ Heap.FlyingW base l e (.ref 60) (.ref t0) h' ∧ s.heap.UpToSlots h'
theorem only_one {w : World} {mean : ExcName → Option Value} {mg mb : Str → Option Value} {A : Around} {s : Shared} {Q E : Value → Shared → Prop}
    (X : (Mine.hd.heap_39 w.params).In s.heap) (T : Top Mine.hd.view_39 (looseW Mine.hd.view_39 [Str.ofString "LedgerError"]) mean mg mb s.heap)
    (hh : A.handled = none) (hd : A.depth + 1 < recursionLimit) (hu : A.units + 50 < cLine) {l : Addr} {v : Value} {n : Str} {t : Tok} (hl : s.heap.IsList l #[v])
    (ret : ∀ h' tk', (∀ b o, s.heap.get? b = some o → h'.get? b = some o) → Q v { s with heap := h', toks := tk' }) :
    wpAny (model Challenge.rw_pb0235_01.row.prog w) A (call (.ref 198) [.ref l, .str n t]) Q E s := by
  revert X; k_fill; intro X
  refine wpAny_call ?_
  refine' enter_plain X T.nolimit ?ho ?hcd ?hroom ?hbind ?hloc ?_ ?c2 ?c3 ?c4 ?c5
  case ho => k_is
  case hcd => k_is
  case hroom => exact om_u0 hd
  case hbind => exact (BindsTo.of_eq (binds := [(Str.ofString "found", .ref l), (Str.ofString "name", .str n t)]) rfl)
  case hloc => exact locs rfl
  case c2 => rfl
  case c3 => rfl
  case c4 => rfl
  case c5 => decide
  intro h₁ F
  have N : News s.heap s.heap.objs.size h₁ [] := News.nil
  try dsimp only
  try k_fold
  k_with_none
  k_with "subscriptTail Name Constant ref int" => (refine' item_listR (x := v) ?k1 ?k2 ?k3 ?k4 ?_ ?k6; (case k1 => is_list); (case k2 => decide); (case k3 => decide); (case k4 => rfl); (case k6 => with_unfolding_all rfl))
  k_steps
  · exfalso
    have q := (by assumption : ((#[v].size : Nat) : Int) = 0)
    simp at q
  · exfalso
    have q := (by assumption : ((#[v].size : Nat) : Int) > 1)
    simp at q
  · exact ret _ _ F.keep
theorem only_none {w : World} {mean : ExcName → Option Value} {mg mb : Str → Option Value} {A : Around} {s : Shared} {Q E : Value → Shared → Prop} {base : Heap} {outer : List Env}
    (X : (Mine.hd.heap_39 w.params).In s.heap) (T : Top Mine.hd.view_39 (looseW Mine.hd.view_39 [Str.ofString "LedgerError"]) mean mg mb s.heap)
    (hh : A.handled = none) (hd : A.depth + 4 < recursionLimit) (hu : A.units + 70 < cLine) (hA : A.frames = some outer) (hb : base.StaysIn s.heap) (hf : s.heap.FunFrames base outer)
    {l : Addr} {t : Tok} (hl : s.heap.IsList l #[])
    (fail : ∀ v s', Thrown base outer s v s' → E v s') :
    wpAny (model Challenge.rw_pb0235_01.row.prog w) A (call (.ref 198) [.ref l, .str (Str.ofString "X") t]) Q E s := by
  revert X; k_fill; intro X
  refine wpAny_call ?_
  refine' enter_plainE X T.nolimit ?ho ?hcd ?hroom ?hbind ?hloc ?_ ?c2 ?c3 ?c4 ?c5
  case ho => k_is
  case hcd => k_is
  case hroom => exact om_u0 hd
  case hbind => exact (BindsTo.of_eq (binds := [(Str.ofString "found", .ref l), (Str.ofString "name", .str (Str.ofString "X") t)]) rfl)
  case hloc => exact locs rfl
  case c2 => rfl
  case c3 => rfl
  case c4 => rfl
  case c5 => decide
  intro h₁ F
  have N : News s.heap s.heap.objs.size h₁ [] := News.nil
  try dsimp only
  try k_fold
  k_with_none
  k_steps
  obtain ⟨nm, q, N', bs, sn, sub, ab, col, dd, k0, k1, k2, k3, k5, hC⟩ : ∃ nm q N bs sn sub ab col dd k0 k1 k2 k3 k5, s.heap.get? 60 = some (excClassObj nm q 60 N bs [.ref 47, .type "Exception", .type "BaseException", .type "object"] true sn sub ab col dd k0 k1 k2 k3 k5 "Exception.__new__") :=
    ⟨_, _, _, _, _, _, _, _, _, _, _, _, _, _, X _ _ (by k_is)⟩
  refine Raise_made (C := 60) (bm := [.ref 47, .type "Exception", .type "BaseException", .type "object"]) (nm := nm) (q := q) (N := N') (bs := bs) (hdct := true) (sn := sn) (sub := sub) (ab := ab) (col := col) (dd := dd) (k0 := k0) (k1 := k1) (k2 := k2) (k3 := k3) (k5 := k5) (newId := "Exception.__new__") (by decide) hh ?_
  k_steps
  refine' fault_ok ?X ?T ?a ?d ?u ?_
  case X => exact X.keeps F.keep
  case a => exact hh
  case T => exact T.keeps F.keep
  case d => show A.depth + 1 + 3 < recursionLimit; exact om_u2 (by assumption) (by decide)
  case u => show A.units + 3 + 50 < cLine; exact om_u2 (by assumption) (by decide)
  intro e h' tk' o vs t0 k hen he hc hvs h0 h1
  have F2 := F.keeps k
  refine ⟨e, o, vs, rfl, F2.keep _ _ hC, he, hc, hvs, h1, ?_⟩
  have hbn : base.get? s.heap.objs.size = none := hb.fresh
  have hb1 : base.StaysIn h' := fun b o q => F2.keep b o (hb b o q)
  have hbe : base.get? e = none := by
    cases q : base.get? e with
    | none => rfl
    | some ob => rw [F.keep _ _ (hb _ _ q)] at hen; cases hen
  refine leave_first hA (by show ScopeKind.function ≠ ScopeKind.module; decide) rfl F2 (hf.of_keeps fun b o q _ => ⟨o, F2.keep b o q, rfl⟩) hb1 hbn he hc hvs h0 h1 hbe (fun h2 hfl hup => ?_)
  exact fail _ _ ⟨e, t0, h2, _, rfl, rfl, hfl, (Heap.UpToSlots.of_keeps F2.keep).trans hup⟩
end Mine
end
section
open PySem PySem.W PySem.Calls PyProof.Rows PyProof.V PySem.Spec PyProof.Rows.LCg PyProof.Rows.LCt
set_option Elab.async false
set_option maxRecDepth 100000
set_option maxHeartbeats 4000000
namespace Mine
theorem offPbGet : True := by
  w_top off
  k_with_none
  trivial
/-- entering a def with cells that may raise -/
theorem enter_cellsE {prog : Program} {w : World} {A : Around} {s : Shared} {K : Frag} {R : Result → Shared → Prop} {name qual : Str} {params : Arguments} {body : List Stmt} {scope : Scope}
    {dV kV doc pm cdv ct oc : Value} {an od : Option Addr} {osl : Array (Option Value)} {f : Addr} {args : Args} {binds : List (Str × Value)}
    (X : K.In s.heap) (hlim : s.heap.NoLimit)
    (ho : K.lookup f = some ⟨oc, od, .func (fnOf name qual params body scope dV kV doc pm an cdv ct), osl⟩) (hcd : codeIn K cdv qual = true) (hroom : A.depth < recursionLimit)
    (hbind : BindsTo s (fnOf name qual params body scope dV kV doc pm an cdv ct) args binds)
    (hkind : (binds.all fun y => scope.names.lookup y.1 == some .local || scope.names.lookup y.1 == some .cell) = true)
    (hnd : ((cellsFrom 0 scope.names []).map (·.1)).Nodup)
    (h : ∀ L h₁ tk cells, L = s.heap.objs.size → Fr s.heap L h₁ (bindL (envOfC qual scope L f cdv).kindOf binds fun _ => none) → News s.heap L h₁ cells →
      CellsAre (bindC (envOfC qual scope L f cdv).kindOf binds fun _ => none) (cellsFrom (L + 1) scope.names []) cells →
      wpAny (model prog w) (A.deeper (envOfC qual scope L f cdv)) (execs body (envOfC qual scope L f cdv))
        (fun fl s' => R (.ok (.ret (match fl with | .ret v => v | _ => .none))) s')
        (fun e s' => wpAny (model prog w) (A.deeper (envOfC qual scope L f cdv)) (leaving (envOfC qual scope L f cdv) e) (fun _ s'' => R (.error e) s'') (fun e' s'' => R (.error e') s'') s')
        { s with heap := h₁, toks := tk })
    (hco : scope.isCoroutine = false) (hgen : scope.isGenerator = false) (hk : scope.kind = .function) :
    codeAny (model prog w) A (.call (.ref f) args) R s := by
  refine codeAny_call_function hroom (X _ _ ho) rfl hco hgen rfl (codeRec_of X hcd) (hbind _ _ _ _ ?_)
  refine wpAny_newFunctionEnv_cells hk (kindsX hkind _) fun env' he s' x => ?_
  subst he
  refine ⟨hlim.keeps x.toInCall.keep, codeAny_func ?_⟩
  obtain ⟨h₁, tk, rfl, _⟩ := x.done
  obtain ⟨cells, NC, Y⟩ := Cl.news (h₀ := s.heap) (Nat.le_refl _) fun n c hm => ⟨x.cell n c (lookup_of_mem_nodup (cellsFrom_names scope.names 0 (s.heap.objs.size + 1) [] [] rfl ▸ hnd) hm), x.above n c hm⟩
  exact wpAny_mono (h s.heap.objs.size h₁ tk cells rfl ⟨x.toInCall.ns, x.toInCall.keep, Nat.le_refl _⟩ NC Y) (fun fl s' hl => hl) fun _ _ y => y
local macro_rules | `(tactic| walk_at "eval ListComp") => `(tactic| (k_dflt (refine Ev_at ?_)))
theorem find_ok {w : World} {mean : ExcName → Option Value} {mg mb : Str → Option Value} {A : Around} {s : Shared} {Q E : Value → Shared → Prop} {base : Heap} {outer : List Env}
    (X : (Mine.hd.heap_39 w.params).In s.heap) (T : Top Mine.hd.view_39 (looseW Mine.hd.view_39 [Str.ofString "LedgerError"]) mean mg mb s.heap)
    (hh : A.handled = none) (hd : A.depth + 6 < recursionLimit) (hu : A.units + 200 < cLine) (hA : A.frames = some outer) (hb : base.StaysIn s.heap) (hf : s.heap.FunFrames base outer)
    {rs : List (Addr × Str)} {n : Nat} {x top dt : Addr} {nm : Str} (C : ChainAt s.heap rs) (hn : rs.length = n + 1) (hs : n ≤ 15) (hx : rs[n]? = some (x, Str.ofString "X")) (hX : ∀ i p, rs[i]? = some p → i ≠ n → p.2 ≠ Str.ofString "X")
    (hF : ∀ p ∈ rs, p.2 ≠ Str.ofString "FILLER") (ht : rs[0]? = some (top, nm)) (D : DataAt s.heap dt (.ref top))
    {b : Addr} {qs : List Value} {ms : List Str} {t : Tok} (hq : IsTup s.heap b qs.toArray) (hqs : StrsAre qs ms) (hm : ms.length ≤ 500)
    (ret : leads (nmsL rs n n ++ [Str.ofString ""]) ms = true → ∀ h' tk', (∀ b o, s.heap.get? b = some o → h'.get? b = some o) → Q (.ref x) { s with heap := h', toks := tk' })
    (fail : leads (nmsL rs n n ++ [Str.ofString ""]) ms = false → ∀ v s', Thrown base outer s v s' → E v s') :
    wpAny (model Challenge.rw_pb0235_01.row.prog w) A (call (.ref 203) [.ref dt, .str (Str.ofString "X") t, .ref b]) Q E s := by
  revert X; k_fill; intro X
  refine wpAny_call ?_
  refine' enter_cellsE X T.nolimit ?ho ?hcd ?hroom ?hbind ?hkind ?hnd ?_ ?c2 ?c3 ?c4
  case ho => k_is
  case hcd => k_is
  case hroom => exact om_u0 hd
  case hbind => exact (BindsTo.of_eq (binds := [(Str.ofString "data", .ref dt), (Str.ofString "name", .str (Str.ofString "X") t), (Str.ofString "qualifiers", .ref b)]) rfl)
  case hkind => rfl
  case hnd => decide +kernel
  case c2 => rfl
  case c3 => rfl
  case c4 => rfl
  intro L h₁ tk cells hL F N Y
  obtain ⟨o1, o2, o3, hE, d1, d2, d3⟩ := CellsAre.three Y
  subst hE
  clear Y
  have d1' : o1.data = .cell (some (.ref b)) := d1
  have d2' : o2.data = .cell (some (.str (Str.ofString "X") t)) := d2
  have d3' : o3.data = .cell (some (.ref dt)) := d3
  clear d1 d2 d3
  try dsimp only
  try k_fold
  k_with_none
  k_steps
  refine LCt.Assign_ListComp_T (F₀ := F) rfl (by with_unfolding_all rfl) (by with_unfolding_all rfl) (by decide) (by rfl) (by decide) (by rfl) (by rfl) (by rfl) ?_
  k_steps
  refine' all_ok ?X ?T ?a ?d ?u ?C (by rw [hn]; exact Nat.le_trans (Nat.succ_le_succ hs) (by decide)) ht ?D ?_
  case X => exact X.keeps F.keep
  case a => exact hh
  case T => exact T.keeps F.keep
  case d => show A.depth + 1 + 2 < recursionLimit; exact om_u2 (by assumption) (by decide)
  case u => show A.units + 3 + 110 < cLine; exact om_u2 (by assumption) (by decide)
  case C => exact C.keeps F.keep
  case D => exact D.keeps F.keep
  intro R h' tk' c k hR hRn
  have F2 := F.keeps k
  have N2 := News.add F N k hR hRn
  have hal := downL_len rs rs.length
  refine LCt.CompSrcT.ledger hh F2 N2 (List.Mem.head _) (by rw [List.size_toArray, sizeLine_eq, hal, hn]; exact Nat.le_trans (Nat.succ_le_succ hs) (by decide)) (fun g => compRestT_inv (n := (downL rs rs.length).toArray.size)
    (fun j ys nx => nx = [(R, W.listOf (downL rs rs.length).toArray c), (L + 1 + 1 + 1, o1), (L + 1 + 1, o2), (L + 1, o3)] ∧ ys = if j = n + 1 then [.ref x] else []) ?step ?fin _ 0 [] _ (Nat.zero_add _) ⟨rfl, by simp⟩)
  case step =>
    rintro j ys nx v I2 oI2 C2 oC D2 m2 h3 tk3 E3 hj ⟨rfl, rfl⟩ hP hC hx3 F3 N3 off ne
    have hj' : j < rs.length := by simpa [hal] using hj
    obtain ⟨y, ny, hy⟩ : ∃ y ny, rs[j]? = some (y, ny) := ⟨_, _, List.getElem?_eq_getElem hj'⟩
    obtain rfl : v = .ref y := by
      simp only [downL, List.getElem?_toArray, List.getElem?_map, List.getElem?_range hj', Option.map_some, Option.some.injEq] at hP
      rw [← hP, refAt, hy]
    obtain ⟨off2, ⟨dy, es2, nn2, kl2, c2, hy1, hy2, hy3, hD2⟩, -⟩ := C _ _ _ hy
    obtain ⟨tn, hname⟩ := hD2.name
    k_with_none
    k_with "getAttr ref" => (refine' get_own ?k1 ?k2 ⟨Fr.keep (by assumption) _ _ hy1, rfl, rfl, Fr.keep (by assumption) _ _ hy2⟩ ?k4 ?k5 ?k6 ?k7 hname ?k9 ?_; (case k1 => k_asm); (case k2 => k_asm); (case k4 => k_is); (case k5 => k_is); (case k6 => k_is); (case k7 => k_is); (case k9 => (simp only [handedIn])))
    k_steps
    · rename_i q
      have q' : ny = Str.ofString "X" := by simpa using q
      have hjn : j = n := by
        rcases Nat.decEq j n with z | z
        · exact absurd q' (hX j _ hy z)
        · exact z
      subst hjn
      obtain ⟨rfl, -⟩ := Prod.mk.inj (Option.some.inj (hy.symm.trans hx))
      exact CompEnd.intro F3 N3 _ (fun p hp => hp) off (.inr ⟨_, .head _, rfl, _, rfl⟩) ⟨rfl, by simp⟩
    · rename_i q
      have q' : ¬ ny = Str.ofString "X" := by simpa using q
      have hjn : j ≠ n := by
        rintro rfl
        exact q' (Prod.mk.inj (Option.some.inj (hy.symm.trans hx))).2
      exact CompEnd.intro F3 N3 _ (fun p hp => hp) off (.inr ⟨_, .head _, rfl, _, rfl⟩) ⟨rfl, by rw [if_neg (fun q => hjn (Nat.succ.inj q)), if_neg (fun q => Nat.ne_of_lt (Nat.lt_of_lt_of_eq hj' hn) q)]⟩
  case fin =>
    rintro ys nx ⟨rfl, rfl⟩
    have e : (downL rs rs.length).toArray.size = n + 1 := by rw [List.size_toArray, hal, hn]
    rw [e, if_pos rfl]
    intro D2 h3 tk3 F3 N3 offD
    dsimp only
    generalize hns : nmsL rs n n = ns at ret fail
    have hnl : ns.length = n := by rw [← hns]; simp [nmsL]
    k_with_none
    k_steps
    refine LCt.ListComp_T (F₀ := F3) (by with_unfolding_all rfl) (by decide) (by rfl) (by decide) (by rfl) ?_
    k_steps
    refine LCt.CompSrcT.ledger hh F3 N3 (List.Mem.head _) (by rw [sizeLine_eq]; simp) (fun g2 => compRestT_inv (n := 1)
      (fun j ys nx => nx = [(D2, lst [Value.ref x]), (R, W.listOf (downL rs rs.length).toArray c), (L + 1 + 1 + 1, o1), (L + 1 + 1, o2), (L + 1, o3)] ∧ ys = if j = 1 ∧ leads (ns ++ [Str.ofString ""]) ms = true then [.ref x] else []) ?step2 ?fin2 _ 0 [] _ rfl ⟨rfl, by simp⟩)
    case step2 =>
      rintro j ys nx v I4 oI4 C4 oC4 D4 m4 h4 tk4 E4 hj ⟨rfl, rfl⟩ hP hC4 hx4 F4 N4 off4 ne4
      obtain rfl : j = 0 := Nat.lt_one_iff.mp hj
      obtain rfl : Value.ref x = v := Option.some.inj hP
      have e0 : (if 0 = 1 ∧ leads (ns ++ [Str.ofString ""]) ms = true then [Value.ref x] else []) = [] := by simp
      rw [e0] at N4 ⊢
      k_steps
      refine' names_ok ?X ?T ?a ?d ?u ?C hn (Nat.le_trans hs (by decide)) hx hF ?_
      case X => exact X.keeps F4.keep
      case a => exact hh
      case T => exact T.keeps F4.keep
      case d => show A.depth + 1 + 2 < recursionLimit; exact om_u2 (by assumption) (by decide)
      case u => show A.units + 3 + 100 < cLine; exact om_u2 (by assumption) (by decide)
      case C => exact C.keeps F4.keep
      intro Rn hn' tkn cn vsn kn hRn' hSn hRnn
      rw [hns] at hSn
      have F5 := F4.keeps kn
      have N5 := News.add F4 N4 kn hRn' hRnn
      clear F4 N4
      k_steps
      refine' file_ok ?X ?T ?a ?d ?u ?C hn (Nat.le_trans hs (by decide)) hx ?D ?_
      case X => exact X.keeps F5.keep
      case a => exact hh
      case T => exact T.keeps F5.keep
      case d => show A.depth + 1 + 3 < recursionLimit; exact om_u2 (by assumption) (by decide)
      case u => show A.units + 3 + 130 < cLine; exact om_u2 (by assumption) (by decide)
      case C => exact C.keeps F5.keep
      case D => exact D.keeps F5.keep
      intro hf' tkf tf kf
      have F6 := F5.keeps kf
      have N6 := N5.grown kf
      clear F5 N5
      k_steps
      k_unmd
      k_unfold
      dsimp only
      rename Fr _ _ _ _ => lF
      rename News _ _ _ _ => lN
      have hvl := hSn.length
      refine add_lists (vs := vsn) (ws := [.str (Str.ofString "") tf]) lF lN ⟨_, (lN _ (.tail _ (.head _))).1, rfl, _, rfl⟩ ⟨_, (lN _ (.head _)).1, rfl, _, rfl⟩ (fun h7 F7 N7 => ?_) (by rw [sizeLine_eq, hvl, hnl]; exact Nat.le_trans (Nat.succ_le_succ hs) (by decide))
      have hcat := hSn.append' (StrsAre.cons (Str.ofString "") tf .nil)
      clear lF lN
      k_steps
      refine' leads_ok ?X ?T ?a ?d ?u ?ha hcat ?hb hqs ?hn ?hm ?_
      case X => exact X.keeps F7.keep
      case a => exact hh
      case T => exact topRead_of (T.keeps F7.keep)
      case d => show A.depth + 1 + 1 < recursionLimit; exact om_u2 (by assumption) (by decide)
      case u => show A.units + 3 + 50 < cLine; exact om_u2 (by assumption) (by decide)
      case ha => exact ⟨_, (N7 _ (.head _)).1, rfl, _, rfl⟩
      case hb => exact IsTup.keeps hq F7.keep
      case hn => rw [List.length_append, hnl]; exact Nat.le_trans (Nat.succ_le_succ hs) (by decide)
      case hm => exact Nat.le_trans hm (by decide)
      intro h8 tk8 k8
      have F8 := F7.keeps k8
      have N8 := N7.grown k8
      clear F7 N7
      refine wpAny_truthy_bool ?_
      (try k_unmd)
      k_unfold
      dsimp only
      have hsrc : SrcAt s.heap D2 #[Value.ref x] [(D2, lst [Value.ref x]), (R, W.listOf (downL rs rs.length).toArray c), (L + 1 + 1 + 1, o1), (L + 1 + 1, o2), (L + 1, o3)] := .inr ⟨_, .head _, rfl, _, rfl⟩
      cases hle : leads (ns ++ [Str.ofString ""]) ms with
      | true =>
        simp only [if_true]
        k_steps
        exact CompEnd.intro F8 N8 _ (fun p hp => List.Mem.tail _ (.tail _ (.tail _ hp))) off4 hsrc ⟨rfl, by simp⟩
      | false =>
        simp only [Bool.false_eq_true, if_false]
        exact CompEnd.intro F8 N8 _ (fun p hp => List.Mem.tail _ (.tail _ (.tail _ hp))) off4 hsrc ⟨rfl, by simp⟩
    case fin2 =>
      rintro ys nx ⟨rfl, rfl⟩
      intro D5 h5 tk5 F5 N5 off5
      k_steps
      have hbn : base.get? L = none := by rw [hL]; exact hb.fresh
      have hff := hf.of_keeps fun b o q _ => ⟨o, F5.keep b o q, rfl⟩
      cases hle : leads (ns ++ [Str.ofString ""]) ms with
      | true =>
        rw [hle] at N5
        refine' only_one (v := .ref x) ?X ?T ?a ?d ?u ?l ?_
        case X => exact X.keeps F5.keep
        case a => exact hh
        case T => exact T.keeps F5.keep
        case d => show A.depth + 1 + 1 < recursionLimit; exact om_u2 (by assumption) (by decide)
        case u => show A.units + 3 + 50 < cLine; exact om_u2 (by assumption) (by decide)
        case l => exact ⟨_, (N5 _ (.head _)).1, rfl, _, rfl⟩
        intro h9 tk9 k9
        exact ret hle _ _ fun b o q => k9 b o (F5.keep b o q)
      | false =>
        rw [hle] at N5
        refine' only_none (base := base) (outer := _ :: outer) ?X ?T ?a ?d ?u ?f ?hb ?hf ?l ?_
        case X => exact X.keeps F5.keep
        case a => exact hh
        case T => exact T.keeps F5.keep
        case d => show A.depth + 1 + 4 < recursionLimit; exact om_u2 (by assumption) (by decide)
        case u => show A.units + 3 + 70 < cLine; exact om_u2 (by assumption) (by decide)
        case f => exact Around.frames_deeper hA
        case hb => exact fun b o q => F5.keep b o (hb b o q)
        case hf => exact Heap.FunFrames.cons (by show ScopeKind.function ≠ ScopeKind.module; decide) rfl F5.ns hbn hff
        case l => exact ⟨_, (N5 _ (.head _)).1, rfl, _, rfl⟩
        rintro v s' ⟨e, t0, h9, tk9, rfl, rfl, hfl, hup⟩
        refine wpAny_leaves_onW (Around.frames_deeper hA) rfl hfl (fun h10 hfl' hup' => ?_)
        exact fail hle _ _ ⟨e, t0, h10, _, rfl, rfl, hfl', ((Heap.UpToSlots.of_keeps F5.keep).trans hup).trans hup'⟩
end Mine
end
section
open PySem PySem.W PySem.Calls PyProof.Rows PyProof.V PySem.Spec PyProof.Rows.LCg PyProof.Rows.LCt
set_option Elab.async false
set_option maxRecDepth 100000
set_option maxHeartbeats 4000000
namespace Mine
theorem offPbMake : True := by
  w_top off
  k_with_none
  trivial
theorem item_ok {w : World} {mean : ExcName → Option Value} {mg mb : Str → Option Value} {A : Around} {s : Shared} {Q E : Value → Shared → Prop}
    (X : (Mine.hd.heap_39 w.params).In s.heap) (T : Top Mine.hd.view_39 (looseW Mine.hd.view_39 [Str.ofString "LedgerError"]) mean mg mb s.heap)
    (hh : A.handled = none) (hd : A.depth + 3 < recursionLimit) (hu : A.units + 50 < cLine) {lev : Int} {lt t : Tok} {nm : Str}
    (ret : ∀ x dx kl es n c h' tk', (∀ b o, s.heap.get? b = some o → h'.get? b = some o) → s.heap.get? x = none → s.heap.get? dx = none → s.heap.get? kl = none → @Ne Nat x dx → @Ne Nat x kl → @Ne Nat dx kl →
      h'.get? x = some (instObj 107 dx) → h'.get? dx = some (dictOf es n) → h'.get? kl = some (listOf #[] c) → ItemD es nm .none kl 0 → Q (.ref x) { s with heap := h', toks := tk' }) :
    wpAny (model Challenge.rw_pb0235_01.row.prog w) A (call (.ref 107) [.int lev lt, .str nm t]) Q E s := by
  revert X; k_fill; intro X
  obtain ⟨h, g, d, tk, os⟩ := s
  have hmk : makesIn (Mine.hd.heap_39 w.params) 107 = true := by k_is
  have hi : findIn (Mine.hd.heap_39 w.params) (.ref 107) "__init__" = some (some (.ref 76)) := by k_is
  have hf : typeIn (Mine.hd.heap_39 w.params) (.ref 76) = some (.type "function") := by k_is
  refine wpAny_call (make_core (makes_of X hmk) (looks_findIn X hi) (fun self => bind_fn X self hf) (.inl rfl) ?_)
  have up : ∀ b o, h.get? b = some o → ((h.push emptyDict).push (instObj 107 h.objs.size)).get? b = some o := fun b o e => Heap.get?_push_of_some _ (Heap.get?_push_of_some _ e)
  have g1 : ((h.push emptyDict).push (instObj 107 h.objs.size)).get? (h.objs.size + 1) = some (instObj 107 h.objs.size) := by heap_get
  have g2 : ((h.push emptyDict).push (instObj 107 h.objs.size)).get? h.objs.size = some emptyDict := by heap_get
  have n1 : h.get? (h.objs.size + 1) = none := Heap.get?_none_of_le (Nat.le_succ _)
  have n2 : h.get? h.objs.size = none := Heap.get?_none_of_le (Nat.le_refl _)
  refine' enter_mut (b := h) (news := [(h.objs.size + 1, instObj 107 h.objs.size), (h.objs.size, emptyDict)]) X T.nolimit up ?hn ?ho ?hcd ?hroom ?hbind ?hloc ?_ ?c2 ?c3 ?c4 ?c5
  case ho => k_is
  case hcd => k_is
  case hroom => show A.depth + 1 < recursionLimit; exact om_u1 (by assumption) (by decide)
  case hbind => exact (BindsTo.of_eq (binds := [(Str.ofString "self", .ref (h.objs.size + 1)), (Str.ofString "level", .int lev lt), (Str.ofString "name", .str nm t)]) rfl)
  case hloc => exact locs rfl
  case c2 => rfl
  case c3 => rfl
  case c4 => rfl
  case c5 => decide
  case hn =>
    intro p hp
    rcases List.mem_cons.mp hp with rfl | hp
    · exact ⟨g1, n1⟩
    · rw [List.mem_singleton.mp hp]; exact ⟨g2, n2⟩
  intro g0 h₁ hg hkeep F N l1
  have Xg := X.keeps hg
  have Tg := T.keeps hg
  have d0 : @Ne Nat (h.objs.size + 1) h.objs.size := by omega
  try dsimp only
  try k_fold
  k_with_none
  k_steps
  rename Fr _ _ _ _ => lF
  rename News _ _ _ _ => lN
  refine ⟨rfl, ?_⟩
  have m1 := lN (h.objs.size + 1, instObj 107 h.objs.size) (by k_mem)
  have m2 := lN (h.objs.size, dictOf _ _) (by k_mem)
  refine' ret _ _ ?kl _ _ ?c _ _ (fun b o e => lF.keep b o (hg b o e)) n1 n2 ?n3 d0 ?na ?nb m1.1 m2.1 ?m3 ⟨?keys, ?few, ?name, ?parent, ?kids, ?offset, ?add⟩
  case kids => k_get
  case name => refine ⟨t, ?_⟩; k_get
  case parent => k_get
  case offset => exact ⟨_, by k_get⟩
  case add => k_get
  case few => exact Nat.le_of_ble_eq_true rfl
  case keys => repeat (first | exact List.forall_mem_nil _ | refine List.forall_mem_cons.mpr ⟨⟨_, _, rfl⟩, ?_⟩)
  case m3 => exact (lN _ (by k_mem)).1
  case n3 => exact fresh_of_stays hg (lN (_, W.listOf #[] _) (by k_mem)).2.2
  case na => omega
  case nb => omega
end Mine
end
section
open PySem PySem.W PySem.Calls PyProof.Rows PyProof.V PySem.Spec PyProof.Rows.LCg PyProof.Rows.LCt
set_option Elab.async false
set_option maxRecDepth 100000
set_option maxHeartbeats 4000000
namespace Mine
theorem offPbAdd : True := by
  w_top off
  k_with_none
  trivial
theorem isStr_str (k n : Str) (t : Tok) : (Value.str k t).isStr n = (k == n) := by rfl
theorem getL_put {es : List DictEntry} (hk : StrKeys es) (name y : Str) (hsh : Int) (tk : Tok) (v : Value) : getL y (putL name hsh (.str name tk) v es) = if y = name then some (some v) else getL y es := by
  have any0 : ∀ l : List DictEntry, StrKeys l → l.any (·.refKey) = false := by
    intro l hl
    rw [List.any_eq_false]
    intro e he
    obtain ⟨k, t, h⟩ := hl e he
    simp [DictEntry.refKey, h]
  have put_keys : ∀ l : List DictEntry, StrKeys l → StrKeys (putL name hsh (.str name tk) v l) := by
    intro l
    induction l with
    | nil => intro _ e he; rw [putL, List.mem_singleton] at he; subst he; exact ⟨_, _, rfl⟩
    | cons a r ih =>
      intro hl e he
      rw [putL] at he
      split at he
      · rcases List.mem_cons.mp he with rfl | he
        · exact hl a (List.mem_cons_self ..)
        · exact hl e (List.mem_cons_of_mem _ he)
      · rcases List.mem_cons.mp he with rfl | he
        · exact hl _ (List.mem_cons_self ..)
        · exact ih (fun z hz => hl z (List.mem_cons_of_mem _ hz)) e he
  have fnd : ∀ l : List DictEntry, StrKeys l → ((putL name hsh (.str name tk) v l).find? (·.key.isStr y)).map (·.val) = if y = name then some v else (l.find? (·.key.isStr y)).map (·.val) := by
    intro l
    induction l with
    | nil =>
      intro _
      by_cases q : y = name
      · subst q; simp [putL, isStr_str]
      · have q' : (name == y) = false := by simpa using fun e => q e.symm
        simp [putL, isStr_str, q, q']
    | cons a r ih =>
      intro hl
      have ih' := ih fun z hz => hl z (List.mem_cons_of_mem _ hz)
      obtain ⟨k, t, h⟩ := hl a (List.mem_cons_self ..)
      rw [putL]
      by_cases z : k = name
      · subst z
        rw [if_pos (by rw [h, isStr_str]; simp)]
        by_cases q : y = k
        · subst q; simp [h, isStr_str]
        · have q' : (k == y) = false := by simpa using fun e => q e.symm
          simp [h, isStr_str, q, q']
      · have z' : (k == name) = false := by simpa using z
        rw [if_neg (by rw [h, isStr_str, z']; decide)]
        by_cases q : k = y
        · subst q
          simp [h, isStr_str, z]
        · have q' : (k == y) = false := by simpa using q
          simp only [List.find?_cons, h, isStr_str, q', ih']
  have f := fnd es hk
  have a1 := any0 _ (put_keys es hk)
  have a2 := any0 _ hk
  unfold getL
  rw [a1, a2]
  by_cases q : y = name
  · subst q
    rw [if_pos rfl] at f ⊢
    cases r : (putL y hsh (.str y tk) v es).find? (·.key.isStr y) with
    | none => rw [r] at f; cases f
    | some e => rw [r] at f; simpa using f
  · rw [if_neg q] at f ⊢
    cases r : (putL name hsh (.str name tk) v es).find? (·.key.isStr y) with
    | none =>
      rw [r] at f
      cases r2 : es.find? (·.key.isStr y) with
      | none => simp
      | some e => rw [r2] at f; cases f
    | some e =>
      rw [r] at f
      cases r2 : es.find? (·.key.isStr y) with
      | none => rw [r2] at f; cases f
      | some e2 => rw [r2] at f; simpa using f
theorem putL_keys {es : List DictEntry} (hk : StrKeys es) (name : Str) (hsh : Int) (tk : Tok) (v : Value) : StrKeys (putL name hsh (.str name tk) v es) := by
  induction es with
  | nil => intro e he; rw [putL, List.mem_singleton] at he; subst he; exact ⟨_, _, rfl⟩
  | cons a r ih =>
    intro e he
    rw [putL] at he
    split at he
    · rcases List.mem_cons.mp he with rfl | he
      · exact hk a (List.mem_cons_self ..)
      · exact hk e (List.mem_cons_of_mem _ he)
    · rcases List.mem_cons.mp he with rfl | he
      · exact hk _ (List.mem_cons_self ..)
      · exact ih (fun z hz => hk z (List.mem_cons_of_mem _ hz)) e he
theorem putL_len {es : List DictEntry} (name : Str) (hsh : Int) (key v : Value) (h : es.any (·.key.isStr name) = true) : (putL name hsh key v es).length = es.length := by
  induction es with
  | nil => cases h
  | cons a r ih =>
    rw [putL]
    by_cases q : a.key.isStr name = true
    · rw [if_pos q]; rfl
    · rw [if_neg q]
      have : r.any (·.key.isStr name) = true := by
        rw [List.any_cons, Bool.or_eq_true] at h
        exact h.resolve_left q
      simp only [List.length_cons, ih this]
theorem any_of_getL {es : List DictEntry} {name : Str} {v : Value} (h : getL name es = some (some v)) : es.any (·.key.isStr name) = true := by
  unfold getL at h
  split at h
  · rename_i e he
    exact List.any_eq_true.mpr ⟨e, List.mem_of_find?_eq_some he, List.find?_some (p := fun x : DictEntry => x.key.isStr name) he⟩
  · split at h <;> cases h
theorem ItemD.setParent {es : List DictEntry} {nm : Str} {par p : Value} {kl : Addr} {off : Int} (D : ItemD es nm par kl off) (hsh : Int) (tk : Tok) : ItemD (putL (Str.ofString "parent") hsh (.str (Str.ofString "parent") tk) p es) nm p kl off where
  keys := putL_keys D.keys _ _ _ _
  few := by rw [putL_len _ _ _ _ (any_of_getL D.parent)]; exact D.few
  name := by obtain ⟨t, h⟩ := D.name; exact ⟨t, by rw [getL_put D.keys, if_neg (by decide)]; exact h⟩
  parent := by rw [getL_put D.keys, if_pos rfl]
  kids := by rw [getL_put D.keys, if_neg (by decide)]; exact D.kids
  offset := by obtain ⟨t, h⟩ := D.offset; exact ⟨t, by rw [getL_put D.keys, if_neg (by decide)]; exact h⟩
  add := by rw [getL_put D.keys, if_neg (by decide)]; exact D.add
theorem ItemD.setOffset {es : List DictEntry} {nm : Str} {par : Value} {kl : Addr} {off p : Int} (D : ItemD es nm par kl off) (hsh : Int) (tk t : Tok) : ItemD (putL (Str.ofString "offset") hsh (.str (Str.ofString "offset") tk) (.int p t) es) nm par kl p where
  keys := putL_keys D.keys _ _ _ _
  few := by obtain ⟨t, h⟩ := D.offset; rw [putL_len _ _ _ _ (any_of_getL h)]; exact D.few
  name := by obtain ⟨t, h⟩ := D.name; exact ⟨t, by rw [getL_put D.keys, if_neg (by decide)]; exact h⟩
  parent := by rw [getL_put D.keys, if_neg (by decide)]; exact D.parent
  kids := by rw [getL_put D.keys, if_neg (by decide)]; exact D.kids
  offset := ⟨t, by rw [getL_put D.keys, if_pos rfl]⟩
  add := by rw [getL_put D.keys, if_neg (by decide)]; exact D.add
theorem add_ok {w : World} {mean : ExcName → Option Value} {mg mb : Str → Option Value} {A : Around} {s : Shared} {Q E : Value → Shared → Prop} {b : Heap}
    (X : (Mine.hd.heap_39 w.params).In b) (T : Top Mine.hd.view_39 (looseW Mine.hd.view_39 [Str.ofString "LedgerError"]) mean mg mb b) (hb : b.StaysIn s.heap)
    (hh : A.handled = none) (hd : A.depth + 2 < recursionLimit) (hu : A.units + 50 < cLine)
    {x dx kl y dy kly : Addr} {esx esy : List DictEntry} {nx ny c : Nat} {nmx nmy : Str} {px py : Value} {ox oy : Int}
    (h1 : s.heap.get? x = some (instObj 107 dx)) (h2 : s.heap.get? dx = some (dictOf esx nx)) (h3 : s.heap.get? kl = some (listOf #[] c)) (h4 : s.heap.get? y = some (instObj 107 dy)) (h5 : s.heap.get? dy = some (dictOf esy ny))
    (D1 : ItemD esx nmx px kl ox) (D2 : ItemD esy nmy py kly oy) (hbd : b.get? dy = none) (hbk : b.get? kl = none) (hne : @Ne Nat dx dy)
    (ret : ∀ h' tk' esy' ny' c', (∀ a o, s.heap.get? a = some o → @Ne Nat a dy → @Ne Nat a kl → h'.get? a = some o) → h'.get? dy = some (dictOf esy' ny') → h'.get? kl = some (listOf #[.ref y] c') → ItemD esy' nmy (.ref x) kly oy → Q .none { s with heap := h', toks := tk' }) :
    wpAny (model Challenge.rw_pb0235_01.row.prog w) A (call (.ref 83) [.ref x, .ref y]) Q E s := by
  have e1 : @Ne Nat x dy := fun q => by rw [show x = dy from q, h5] at h1; cases h1
  have e2 : @Ne Nat x kl := fun q => by rw [show x = kl from q, h3] at h1; cases h1
  have e3 : @Ne Nat dx kl := fun q => by rw [show dx = kl from q, h3] at h2; exact nomatch (congrArg Obj.data (Option.some.inj h2) : Data.seq _ _ = Data.dict _ _)
  have e4 : @Ne Nat dy kl := fun q => by rw [show dy = kl from q, h3] at h5; exact nomatch (congrArg Obj.data (Option.some.inj h5) : Data.seq _ _ = Data.dict _ _)
  have e5 : @Ne Nat y dy := fun q => by rw [show y = dy from q, h5] at h4; cases h4
  have e6 : @Ne Nat y kl := fun q => by rw [show y = kl from q, h3] at h4; cases h4
  revert X; k_fill; intro X
  refine wpAny_call ?_
  refine' enter_mut (news := [(dy, dictOf esy ny), (kl, listOf #[] c)]) X T.nolimit hb ?hn ?ho ?hcd ?hroom ?hbind ?hloc ?_ ?c2 ?c3 ?c4 ?c5
  case ho => k_is
  case hcd => k_is
  case hroom => exact om_u0 hd
  case hbind => exact (BindsTo.of_eq (binds := [(Str.ofString "self", .ref x), (Str.ofString "kid", .ref y)]) rfl)
  case hloc => exact locs rfl
  case c2 => rfl
  case c3 => rfl
  case c4 => rfl
  case c5 => decide
  case hn =>
    intro p hp
    rcases List.mem_cons.mp hp with rfl | hp
    · exact ⟨h5, hbd⟩
    · rw [List.mem_singleton.mp hp]; exact ⟨h3, hbk⟩
  intro g h₁ hg hkeep F N l1
  have Xg := X.keeps hg
  have Tg := T.keeps hg
  have off : ∀ a, @Ne Nat a dy → @Ne Nat a kl → a ∉ [(dy, dictOf esy ny), (kl, listOf #[] c)].map (·.1) := fun a n1 n2 hm => by
    rcases List.mem_cons.mp hm with q | q
    · exact n1 q
    · exact n2 (List.mem_singleton.mp q)
  have g1 := hkeep x _ h1 (off x e1 e2)
  have g2 := hkeep dx _ h2 (off dx hne e3)
  have g4 := hkeep y _ h4 (off y e5 e6)
  have hkid := D1.kids
  clear X T hb
  try dsimp only
  try k_fold
  k_with_none
  k_with "setAttr ref" => (refine' set_dict ?k1 ?k2 ?k3 ⟨Fr.keep (by assumption) _ _ g4, rfl, rfl, (by assumption : News _ _ _ [(dy, dictOf esy ny), (kl, listOf #[] c)]) _ (.head _) |>.1⟩ rfl ?k6 ?k7 ?k8 ?k9 (by rw [D2.parent]; rfl) rfl (.head (fun p hp => ?k12)) ?k13 ?_; (case k1 => k_asm); (case k2 => k_asm); (case k3 => k_asm); (case k6 => k_is); (case k7 => k_is); (case k8 => k_is); (case k9 => k_is); (case k12 => rw [List.mem_singleton.mp hp]; exact Ne.symm e4); (case k13 => have := (D2.setParent (p := .ref x) 0 0).few; rw [putL_len _ _ _ _ (any_of_getL D2.parent)] at this ⊢; omega); intro h' F' N')
  k_with "getAttr ref" => (refine' get_own ?k1 ?k2 ⟨Fr.keep (by assumption) _ _ g1, rfl, rfl, Fr.keep (by assumption) _ _ g2⟩ ?k4 ?k5 ?k6 ?k7 hkid ?k9 ?_; (case k1 => k_asm); (case k2 => k_asm); (case k4 => k_is); (case k5 => k_is); (case k6 => k_is); (case k7 => k_is); (case k9 => (simp only [handedIn])))
  k_steps
  rename Fr _ _ _ _ => lF
  rename News _ _ _ _ => lN
  exact ret _ _ _ _ _ (fun a o e n1 n2 => lF.keep a o (hkeep a o e (off a n1 n2))) (lN _ (.head _)).1 (lN _ (.tail _ (.head _))).1 (D2.setParent _ _)
theorem dictOf_nil {prog : Program} {w : World} {o : Obj} (h : Obj.IsDictOf (strKind prog w) o []) : ∃ ep, o = dictOf [] ep := by
  obtain ⟨es, ep, ⟨hc, hdd, hsl⟩, hd, -, hp, -⟩ := h
  obtain ⟨oc, od, odt, osl⟩ := o
  dsimp only at hc hdd hsl hd
  subst hc hdd hsl hd
  have : es.toList = [] := by cases hz : es.toList with
    | nil => rfl
    | cons a r => rw [hz] at hp; cases hp
  have h2 : es = #[] := by rw [← Array.toList_eq_nil_iff]; exact this
  subst h2
  exact ⟨ep, rfl⟩
theorem data_ok {w : World} {mean : ExcName → Option Value} {mg mb : Str → Option Value} {A : Around} {s : Shared} {Q E : Value → Shared → Prop}
    (X : (Mine.hd.heap_39 w.params).In s.heap) (T : Top Mine.hd.view_39 (looseW Mine.hd.view_39 [Str.ofString "LedgerError"]) mean mg mb s.heap)
    (hh : A.handled = none) (hd : A.depth + 3 < recursionLimit) (hu : A.units + 50 < cLine)
    (ret : ∀ x dx wl ll fl es n c1 c2 ep h' tk', (∀ b o, s.heap.get? b = some o → h'.get? b = some o) → s.heap.get? x = none → s.heap.get? dx = none → s.heap.get? wl = none → s.heap.get? ll = none → s.heap.get? fl = none →
      h'.get? x = some (instObj 135 dx) → h'.get? dx = some (dictOf es n) → h'.get? wl = some (listOf #[] c1) → h'.get? ll = some (listOf #[] c2) → h'.get? fl = some (dictOf [] ep) → @LT.lt Nat _ dx x → @LT.lt Nat _ x wl → @LT.lt Nat _ wl ll → @LT.lt Nat _ ll fl → (fl == sysModules) = false →
      getL ("working" : Str) es = some (some (.ref wl)) → getL ("linkage" : Str) es = some (some (.ref ll)) → getL ("files" : Str) es = some (some (.ref fl)) → Q (.ref x) { s with heap := h', toks := tk' }) :
    wpAny (model Challenge.rw_pb0235_01.row.prog w) A (call (.ref 135) []) Q E s := by
  revert X; k_fill; intro X
  obtain ⟨h, g, d, tk, os⟩ := s
  have hmk : makesIn (Mine.hd.heap_39 w.params) 135 = true := by k_is
  have hi : findIn (Mine.hd.heap_39 w.params) (.ref 135) "__init__" = some (some (.ref 125)) := by k_is
  have hf : typeIn (Mine.hd.heap_39 w.params) (.ref 125) = some (.type "function") := by k_is
  refine wpAny_call (make_core (makes_of X hmk) (looks_findIn X hi) (fun self => bind_fn X self hf) (.inl rfl) ?_)
  have up : ∀ b o, h.get? b = some o → ((h.push emptyDict).push (instObj 135 h.objs.size)).get? b = some o := fun b o e => Heap.get?_push_of_some _ (Heap.get?_push_of_some _ e)
  have g1 : ((h.push emptyDict).push (instObj 135 h.objs.size)).get? (h.objs.size + 1) = some (instObj 135 h.objs.size) := by heap_get
  have g2 : ((h.push emptyDict).push (instObj 135 h.objs.size)).get? h.objs.size = some emptyDict := by heap_get
  have n1 : h.get? (h.objs.size + 1) = none := Heap.get?_none_of_le (Nat.le_succ _)
  have n2 : h.get? h.objs.size = none := Heap.get?_none_of_le (Nat.le_refl _)
  refine' enter_mut (b := h) (news := [(h.objs.size + 1, instObj 135 h.objs.size), (h.objs.size, emptyDict)]) X T.nolimit up ?hn ?ho ?hcd ?hroom ?hbind ?hloc ?_ ?c2 ?c3 ?c4 ?c5
  case ho => k_is
  case hcd => k_is
  case hroom => show A.depth + 1 < recursionLimit; exact om_u1 (by assumption) (by decide)
  case hbind => exact (BindsTo.of_eq (binds := [(Str.ofString "self", .ref (h.objs.size + 1))]) rfl)
  case hloc => exact locs rfl
  case c2 => rfl
  case c3 => rfl
  case c4 => rfl
  case c5 => decide
  case hn =>
    intro p hp
    rcases List.mem_cons.mp hp with rfl | hp
    · exact ⟨g1, n1⟩
    · rw [List.mem_singleton.mp hp]; exact ⟨g2, n2⟩
  intro g0 h₁ hg hkeep F N l1
  have Xg := X.keeps hg
  have Tg := T.keeps hg
  have d0 : @Ne Nat (h.objs.size + 1) h.objs.size := by omega
  try dsimp only
  try k_fold
  k_with_none
  k_steps
  rename Fr _ _ _ _ => lF
  rename News _ _ _ _ => lN
  refine ⟨rfl, ?_⟩
  have m1 := lN (h.objs.size + 1, instObj 135 h.objs.size) (by k_mem)
  have m2 := lN (h.objs.size, dictOf _ _) (by k_mem)
  obtain ⟨es, wl, ll, fl, c1, c2, of, gw, gl, gf, e2, mw, ml, mf, hof, nw, nl, nf, l1, l2, l3, sys⟩ : ∃ es wl ll fl c1 c2 of, getL ("working" : Str) es = some (some (.ref wl)) ∧ getL ("linkage" : Str) es = some (some (.ref ll)) ∧ getL ("files" : Str) es = some (some (.ref fl)) ∧
      Heap.get? _ h.objs.size = some (dictOf es 6) ∧ Heap.get? _ wl = some (listOf #[] c1) ∧ Heap.get? _ ll = some (listOf #[] c2) ∧ Heap.get? _ fl = some of ∧ Obj.IsDictOf (strKind Challenge.rw_pb0235_01.row.prog w) of [] ∧
      g0.get? wl = none ∧ g0.get? ll = none ∧ g0.get? fl = none ∧ @LT.lt Nat _ (h.objs.size + 1) wl ∧ @LT.lt Nat _ wl ll ∧ @LT.lt Nat _ ll fl ∧ (fl == sysModules) = false :=
    ⟨_, _, _, _, _, _, _, by k_get, by k_get, by k_get, m2.1, (lN _ (by k_mem)).1, (lN _ (by k_mem)).1, (lN _ (by k_mem)).1, by assumption, (lN (_, W.listOf #[] _) (by k_mem)).2.2, (lN (_, W.listOf #[] _) (by k_mem)).2.2, (lN (_, _) (by k_mem)).2.2, by omega, by omega, by omega, by assumption⟩
  obtain ⟨ep, rfl⟩ := dictOf_nil hof
  exact ret _ _ wl ll fl es _ c1 c2 ep _ _ (fun b o e => lF.keep b o (hg b o e)) n1 n2 (fresh_of_stays hg nw) (fresh_of_stays hg nl) (fresh_of_stays hg nf) m1.1 e2 mw ml mf (Nat.lt_succ_self _) l1 l2 l3 sys gw gl gf
end Mine
end
section
open PySem PySem.W PySem.Calls PyProof.Rows PyProof.V PySem.Spec PyProof.Rows.LCg PyProof.Rows.LCt
set_option Elab.async false
set_option maxRecDepth 100000
set_option maxHeartbeats 4000000
namespace Mine
theorem offPbChain : True := by
  w_top off
  k_with_none
  trivial
/-! ### turning one object of a ledger -/
def upd1 (d : Addr) (o' : Obj) (l : List (Addr × Obj)) : List (Addr × Obj) := l.map fun p => if @Eq Nat p.1 d then (d, o') else p
theorem upd1_fst (d : Addr) (o' : Obj) : ∀ l : List (Addr × Obj), (upd1 d o' l).map (·.1) = l.map (·.1)
  | [] => rfl
  | p :: r => by
    have ih := upd1_fst d o' r
    unfold upd1 at ih ⊢
    simp only [List.map_cons, ih]
    by_cases q : @Eq Nat p.1 d
    · rw [if_pos q]; exact congrArg (· :: _) q.symm
    · rw [if_neg q]
theorem mem_upd1 {d : Addr} {o' : Obj} {l : List (Addr × Obj)} {a : Addr} {o : Obj} (h : (a, o) ∈ l) (n : @Ne Nat a d) : (a, o) ∈ upd1 d o' l :=
  List.mem_map.mpr ⟨(a, o), h, if_neg n⟩
theorem mem_upd1_self {d : Addr} {o' : Obj} {l : List (Addr × Obj)} {o : Obj} (h : (d, o) ∈ l) : (d, o') ∈ upd1 d o' l :=
  List.mem_map.mpr ⟨(d, o), h, if_pos rfl⟩
theorem upd1_off {d : Addr} {o' : Obj} : ∀ {l : List (Addr × Obj)}, (∀ p ∈ l, @Ne Nat p.1 d) → upd1 d o' l = l
  | [], _ => rfl
  | p :: r, h => by
    have ih := upd1_off (o' := o') fun q hq => h q (List.mem_cons_of_mem _ hq)
    unfold upd1 at ih ⊢
    rw [List.map_cons, ih, if_neg (h p (List.mem_cons_self ..))]
theorem upd_mem {d : Addr} {o o' : Obj} : ∀ {l : List (Addr × Obj)}, (d, o) ∈ l → (l.map (·.1)).Nodup → Upd d o o' l (upd1 d o' l)
  | p :: r, h, nd => by
    rw [List.map_cons, List.nodup_cons] at nd
    by_cases q : @Eq Nat p.1 d
    · have hp : p = (d, o) := by
        rcases List.mem_cons.mp h with e | e
        · exact e.symm
        · exact absurd (List.mem_map.mpr ⟨(d, o), e, q.symm⟩) nd.1
      subst hp
      have off : ∀ z ∈ r, @Ne Nat z.1 d := fun z hz e => nd.1 (List.mem_map.mpr ⟨z, hz, e⟩)
      have : upd1 d o' ((d, o) :: r) = (d, o') :: r := by
        have h2 := upd1_off (o' := o') off
        unfold upd1 at h2 ⊢
        rw [List.map_cons, h2, if_pos rfl]
      rw [this]
      exact .head off
    · have hr : (d, o) ∈ r := by
        rcases List.mem_cons.mp h with e | e
        · exact absurd (congrArg (·.1) e).symm q
        · exact e
      have : upd1 d o' (p :: r) = p :: upd1 d o' r := by unfold upd1; rw [List.map_cons, if_neg q]
      rw [this]
      exact .tail q (upd_mem hr nd.2)
theorem fun_nodup {a : Addr} {o1 o2 : Obj} : ∀ {l : List (Addr × Obj)}, (l.map (·.1)).Nodup → (a, o1) ∈ l → (a, o2) ∈ l → o1 = o2
  | p :: r, nd, h1, h2 => by
    rw [List.map_cons, List.nodup_cons] at nd
    rcases List.mem_cons.mp h1 with e1 | e1 <;> rcases List.mem_cons.mp h2 with e2 | e2
    · exact (Prod.mk.inj (e1.trans e2.symm)).2
    · exact absurd (List.mem_map.mpr ⟨(a, o2), e2, by rw [← e1]⟩) nd.1
    · exact absurd (List.mem_map.mpr ⟨(a, o1), e1, by rw [← e2]⟩) nd.1
    · exact fun_nodup nd.2 e1 e2
theorem News.upd1 {h₀ h h' : Heap} {L d : Addr} {news : List (Addr × Obj)} {o o' : Obj} (N : News h₀ L h news) (hd : (d, o) ∈ news) (k : ∀ p ∈ news, @Ne Nat p.1 d → h'.get? p.1 = some p.2) (e : h'.get? d = some o') : News h₀ L h' (upd1 d o' news) := by
  intro p hp
  obtain ⟨q, hq, rfl⟩ := List.mem_map.mp hp
  by_cases z : @Eq Nat q.1 d
  · rw [if_pos z]; exact ⟨e, (N _ hd).2⟩
  · rw [if_neg z]; exact ⟨k q hq z, (N q hq).2⟩
/-! ### the chain in a ledger -/
structure Itm where
  x : Addr
  dx : Addr
  kl : Addr
  nm : Str
def refI (rs : List Itm) (i : Nat) : Value := match rs[i]? with | some p => .ref p.x | none => .none
def parI (rs : List Itm) : Nat → Value | 0 => .none | i + 1 => refI rs i
def kidI (rs : List Itm) (i : Nat) : List Value := match rs[i + 1]? with | some p => [.ref p.x] | none => []
def ItemIn (nx : List (Addr × Obj)) (it : Itm) (par : Value) (kids : List Value) (off : Int) : Prop :=
  ∃ es n c, (it.x, instObj 107 it.dx) ∈ nx ∧ (it.dx, dictOf es n) ∈ nx ∧ (it.kl, listOf kids.toArray c) ∈ nx ∧ ItemD es it.nm par it.kl off
def ChainIn (P : Nat → Int → Prop) (nx : List (Addr × Obj)) (rs : List Itm) : Prop := ∀ i it, rs[i]? = some it → ∃ off, ItemIn nx it (parI rs i) (kidI rs i) off ∧ P i off
theorem ItemIn.upd {nx : List (Addr × Obj)} {it : Itm} {par : Value} {kids : List Value} {off : Int} {d : Addr} {o' : Obj} (I : ItemIn nx it par kids off) (n1 : @Ne Nat it.x d) (n2 : @Ne Nat it.dx d) (n3 : @Ne Nat it.kl d) : ItemIn (upd1 d o' nx) it par kids off :=
  let ⟨es, n, c, a, b, e, f⟩ := I; ⟨es, n, c, mem_upd1 a n1, mem_upd1 b n2, mem_upd1 e n3, f⟩
theorem ItemIn.mono {nx nx' : List (Addr × Obj)} {it : Itm} {par : Value} {kids : List Value} {off : Int} (I : ItemIn nx it par kids off) (k : ∀ p ∈ nx, p ∈ nx') : ItemIn nx' it par kids off :=
  let ⟨es, n, c, a, b, e, f⟩ := I; ⟨es, n, c, k _ a, k _ b, k _ e, f⟩
/-- an item is no dict: kinds of objects keep the addresses apart -/
theorem ItemIn.apart {nx : List (Addr × Obj)} {it : Itm} {par : Value} {kids : List Value} {off : Int} {d : Addr} {es : List DictEntry} {n : Nat} (nd : (nx.map (·.1)).Nodup) (I : ItemIn nx it par kids off) (hd : (d, dictOf es n) ∈ nx) : @Ne Nat it.x d ∧ @Ne Nat it.kl d := by
  obtain ⟨es', n', c, a, b, e, -⟩ := I
  refine ⟨fun q => ?_, fun q => ?_⟩
  · rw [show d = it.x from q.symm] at hd
    exact nomatch (congrArg Obj.data (fun_nodup nd a hd) : Data.plain = Data.dict _ _)
  · rw [show d = it.kl from q.symm] at hd
    exact nomatch (congrArg Obj.data (fun_nodup nd e hd) : Data.seq _ _ = Data.dict _ _)
theorem ItemIn.in_fst {nx : List (Addr × Obj)} {it : Itm} {par : Value} {kids : List Value} {off : Int} (I : ItemIn nx it par kids off) : it.x ∈ nx.map (·.1) ∧ it.dx ∈ nx.map (·.1) ∧ it.kl ∈ nx.map (·.1) :=
  let ⟨_, _, _, a, b, e, _⟩ := I; ⟨List.mem_map_of_mem a, List.mem_map_of_mem b, List.mem_map_of_mem e⟩
theorem ne_of_in {nx : List (Addr × Obj)} {a b : Addr} (ha : a ∈ nx.map (·.1)) (hb : b ∉ nx.map (·.1)) : @Ne Nat a b := fun q => hb ((show a = b from q) ▸ ha)
theorem chain_step {nx : List (Addr × Obj)} {it0 : Itm} {rs0 : List Itm} {x' d' k' : Addr} {nm' : Str} {es' es0 es0' : List DictEntry} {n' n0 n0' c' c'' : Nat} {off' off0 : Int}
    (C : ChainIn (fun _ _ => True) nx (it0 :: rs0)) (nd : (nx.map (·.1)).Nodup) (ndx : ((it0 :: rs0).map (·.dx)).Nodup)
    (f1 : x' ∉ nx.map (·.1)) (f2 : d' ∉ nx.map (·.1)) (f3 : k' ∉ nx.map (·.1)) (n12 : @Ne Nat x' d') (n13 : @Ne Nat x' k') (n23 : @Ne Nat d' k')
    (D' : ItemD es' nm' .none k' off') (h0 : (it0.dx, dictOf es0 n0) ∈ nx) (D0 : ItemD es0' it0.nm (.ref x') it0.kl off0) :
    ChainIn (fun _ _ => True) (upd1 it0.dx (dictOf es0' n0') (upd1 k' (listOf #[.ref it0.x] c'') ((x', instObj 107 d') :: (d', dictOf es' n') :: (k', listOf #[] c') :: nx))) (⟨x', d', k', nm'⟩ :: it0 :: rs0) := by
  have g0 := List.mem_map_of_mem (f := (·.1)) h0
  intro i it hi
  cases i with
  | zero =>
    obtain rfl : (⟨x', d', k', nm'⟩ : Itm) = it := Option.some.inj hi
    refine ⟨off', ⟨es', n', c'', mem_upd1 (mem_upd1 (.head _) n13) (Ne.symm (ne_of_in g0 f1)), mem_upd1 (mem_upd1 (.tail _ (.head _)) n23) (Ne.symm (ne_of_in g0 f2)), mem_upd1 (mem_upd1_self (o := listOf #[] c') (.tail _ (.tail _ (.head _)))) (Ne.symm (ne_of_in g0 f3)), D'⟩, trivial⟩
  | succ j =>
    have hj : (it0 :: rs0)[j]? = some it := hi
    obtain ⟨off, I, -⟩ := C j it hj
    obtain ⟨a1, a2⟩ := I.apart nd h0
    obtain ⟨b1, b2, b3⟩ := I.in_fst
    have I1 : ItemIn ((x', instObj 107 d') :: (d', dictOf es' n') :: (k', listOf #[] c') :: nx) it (parI (it0 :: rs0) j) (kidI (it0 :: rs0) j) off := I.mono fun p hp => .tail _ (.tail _ (.tail _ hp))
    have I2 := I1.upd (o' := listOf #[.ref it0.x] c'') (ne_of_in b1 f3) (ne_of_in b2 f3) (ne_of_in b3 f3)
    cases j with
    | zero =>
      obtain rfl : it0 = it := Option.some.inj hj
      obtain ⟨es, n, c, m1, m2, m3, D⟩ := I2
      exact ⟨off0, ⟨es0', n0', c, mem_upd1 m1 a1, mem_upd1_self m2, mem_upd1 m3 a2, D0⟩, trivial⟩
    | succ k =>
      refine ⟨off, ?_, trivial⟩
      have hne : @Ne Nat it.dx it0.dx := by
        intro q
        rw [List.map_cons, List.nodup_cons] at ndx
        have hk : rs0[k]? = some it := hj
        exact ndx.1 (List.mem_map.mpr ⟨it, List.mem_of_getElem? hk, q⟩)
      exact I2.upd a1 hne a2
theorem chain_off {nx : List (Addr × Obj)} {rs : List Itm} {k : Nat} {itl : Itm} {es es' : List DictEntry} {n n' : Nat}
    (C : ChainIn (fun _ _ => True) nx rs) (nd : (nx.map (·.1)).Nodup) (ndx : (rs.map (·.dx)).Nodup) (hl : rs[k]? = some itl) (hk : k + 1 = rs.length) (h0 : (itl.dx, dictOf es n) ∈ nx)
    (D : ∀ par off, ItemD es itl.nm par itl.kl off → ItemD es' itl.nm par itl.kl 7) :
    ChainIn (fun i off => i + 1 = rs.length → off = 7) (upd1 itl.dx (dictOf es' n') nx) rs := by
  intro i it hi
  obtain ⟨off, I, -⟩ := C i it hi
  obtain ⟨a1, a2⟩ := I.apart nd h0
  by_cases q : i = k
  · subst q
    obtain rfl : itl = it := Option.some.inj (hl.symm.trans hi)
    obtain ⟨es2, n2, c, m1, m2, m3, D2⟩ := I
    have e := congrArg Obj.data (fun_nodup nd m2 h0)
    have e2 : es2.toArray = es.toArray := by injection e
    have e3 : es2 = es := by simpa using e2
    subst e3
    exact ⟨7, ⟨es', n', c, mem_upd1 m1 a1, mem_upd1_self m2, mem_upd1 m3 a2, D _ _ D2⟩, fun _ => rfl⟩
  · refine ⟨off, I.upd a1 (fun z => ?_) a2, fun z => absurd z (by omega)⟩
    have i1 : i < rs.length := (List.getElem?_eq_some_iff.mp hi).1
    have i2 : k < rs.length := (List.getElem?_eq_some_iff.mp hl).1
    have z1 : (rs.map (·.dx))[i]? = some it.dx := by rw [List.getElem?_map, hi]; rfl
    have z2 : (rs.map (·.dx))[k]? = some itl.dx := by rw [List.getElem?_map, hl]; rfl
    exact q ((List.getElem?_inj (by rw [List.length_map]; exact i1) ndx).mp (by rw [z1, z2, show it.dx = itl.dx from z]))
theorem chain_at {h₀ h : Heap} {L : Addr} {nx : List (Addr × Obj)} {rs : List Itm} (C : ChainIn (fun i off => i + 1 = rs.length → off = 7) nx rs) (N : News h₀ L h nx) : ChainAt h (rs.map fun it => (it.x, it.nm)) := by
  intro i x nm hi
  rw [List.getElem?_map] at hi
  obtain ⟨it, hit, e⟩ := Option.map_eq_some_iff.mp hi
  obtain ⟨rfl, rfl⟩ := Prod.mk.inj e
  obtain ⟨off, ⟨es, n, c, m1, m2, m3, D⟩, hoff⟩ := C i it hit
  refine ⟨off, ⟨it.dx, es, n, it.kl, c, (N _ m1).1, (N _ m2).1, ?_, ?_⟩, fun z => hoff (by rw [List.length_map] at z; exact z)⟩
  · have : kidOf (rs.map fun it => (it.x, it.nm)) i = kidI rs i := by
      unfold kidOf kidI; rw [List.getElem?_map]; cases rs[i + 1]? <;> rfl
    rw [this]; exact (N _ m3).1
  · have : parOf (rs.map fun it => (it.x, it.nm)) i = parI rs i := by
      cases i with
      | zero => rfl
      | succ j => simp only [parOf, parI, refAt, refI, List.getElem?_map]; cases rs[j]? <;> rfl
    rw [this]; exact D
theorem News.addL {h₀ h h' : Heap} {L : Addr} {m : Str → Option Value} {news new : List (Addr × Obj)} (F : Fr h₀ L h m) (N : News h₀ L h news) (k : ∀ b o, h.get? b = some o → h'.get? b = some o) (hn : ∀ p ∈ new, h'.get? p.1 = some p.2 ∧ h.get? p.1 = none) : News h₀ L h' (new ++ news) := by
  intro p hp
  rcases List.mem_append.mp hp with hp | hp
  · obtain ⟨h1, h2⟩ := hn p hp
    exact News.add F N k h1 h2 _ (.head _)
  · exact N.grown k p hp
theorem News.upd2 {h₀ h h' : Heap} {L d0 k' : Addr} {news : List (Addr × Obj)} {od ok od' ok' : Obj} (N : News h₀ L h news) (hd : (d0, od) ∈ news) (hk : (k', ok) ∈ news)
    (keep : ∀ a o, h.get? a = some o → @Ne Nat a d0 → @Ne Nat a k' → h'.get? a = some o) (e1 : h'.get? d0 = some od') (e2 : h'.get? k' = some ok') (hne : @Ne Nat d0 k') : News h₀ L h' (Mine.upd1 d0 od' (Mine.upd1 k' ok' news)) := by
  intro p hp
  obtain ⟨q, hq, rfl⟩ := List.mem_map.mp hp
  by_cases z : @Eq Nat q.1 d0
  · rw [if_pos z]; exact ⟨e1, (N _ hd).2⟩
  · rw [if_neg z]
    obtain ⟨r, hr, rfl⟩ := List.mem_map.mp hq
    by_cases y : @Eq Nat r.1 k'
    · rw [if_pos y]; exact ⟨e2, (N _ hk).2⟩
    · rw [if_neg y] at z ⊢
      exact ⟨keep _ _ (N r hr).1 z y, (N r hr).2⟩
theorem nodup5 {a b c d e : Nat} (h1 : a < b) (h2 : b < c) (h3 : c < d) (h4 : d < e) : [b, a, c, d, e].Nodup := by
  simp only [List.nodup_cons, List.mem_cons, List.not_mem_nil, or_false, not_or, List.nodup_nil, and_true, not_false_eq_true]
  have h13 := Nat.lt_trans h1 h2
  have h24 := Nat.lt_trans h2 h3
  have h35 := Nat.lt_trans h3 h4
  exact ⟨⟨Nat.ne_of_gt h1, Nat.ne_of_lt h2, Nat.ne_of_lt h24, Nat.ne_of_lt (Nat.lt_trans h24 h4)⟩, ⟨Nat.ne_of_lt h13, Nat.ne_of_lt (Nat.lt_trans h13 h3), Nat.ne_of_lt (Nat.lt_trans h13 h35)⟩, ⟨Nat.ne_of_lt h3, Nat.ne_of_lt h35⟩, Nat.ne_of_lt h4⟩
/-- what the loop keeps -/
structure Lp (nx : List (Addr × Obj)) (rs : List Itm) (xd dd wl ll fl : Addr) (esd : List DictEntry) (nd c1 c2 ep : Nat) (xl dl : Addr) (nms : List Str) : Prop where
  chain : ChainIn (fun _ _ => True) nx rs
  nodup : (nx.map (·.1)).Nodup
  ndx : (dd :: fl :: rs.map (·.dx)).Nodup
  nkl : ∀ it ∈ rs, @Ne Nat it.kl ll
  d1 : (xd, instObj 135 dd) ∈ nx
  d2 : (dd, dictOf esd nd) ∈ nx
  d3 : (wl, listOf #[] c1) ∈ nx
  d4 : (ll, listOf #[] c2) ∈ nx
  d5 : (fl, dictOf [] ep) ∈ nx
  names : rs.map (·.nm) = nms
  low : ∃ itl, rs.getLast? = some itl ∧ itl.x = xl ∧ itl.dx = dl
theorem Lp.step {nx : List (Addr × Obj)} {it0 : Itm} {rs0 : List Itm} {xd dd wl ll fl xl dl x' d' k' : Addr} {esd es' es0 es0' : List DictEntry} {nd c1 c2 ep n' n0 n0' c' c'' : Nat} {nms : List Str} {nm' : Str} {off' off0 : Int}
    (P : Lp nx (it0 :: rs0) xd dd wl ll fl esd nd c1 c2 ep xl dl nms)
    (f1 : x' ∉ nx.map (·.1)) (f2 : d' ∉ nx.map (·.1)) (f3 : k' ∉ nx.map (·.1)) (n12 : @Ne Nat x' d') (n13 : @Ne Nat x' k') (n23 : @Ne Nat d' k')
    (D' : ItemD es' nm' .none k' off') (h0 : (it0.dx, dictOf es0 n0) ∈ nx) (D0 : ItemD es0' it0.nm (.ref x') it0.kl off0) :
    Lp (upd1 it0.dx (dictOf es0' n0') (upd1 k' (listOf #[.ref it0.x] c'') ((x', instObj 107 d') :: (d', dictOf es' n') :: (k', listOf #[] c') :: nx))) (⟨x', d', k', nm'⟩ :: it0 :: rs0) xd dd wl ll fl esd nd c1 c2 ep xl dl (nm' :: nms) := by
  have sub : ∀ p ∈ nx, p ∈ (x', instObj 107 d') :: (d', dictOf es' n') :: (k', listOf #[] c') :: nx := fun p hp => .tail _ (.tail _ (.tail _ hp))
  have mk : ∀ {a : Addr} {o : Obj}, (a, o) ∈ nx → @Ne Nat a it0.dx → (a, o) ∈ upd1 it0.dx (dictOf es0' n0') (upd1 k' (listOf #[.ref it0.x] c'') ((x', instObj 107 d') :: (d', dictOf es' n') :: (k', listOf #[] c') :: nx)) := fun h n =>
    mem_upd1 (mem_upd1 (sub _ h) (ne_of_in (List.mem_map_of_mem h) f3)) n
  have ndx := P.ndx
  simp only [List.map_cons, List.nodup_cons, List.mem_cons, not_or] at ndx
  obtain ⟨⟨q1, q2, q3⟩, ⟨q4, q5⟩, q6, q7⟩ := ndx
  refine ⟨chain_step P.chain P.nodup (by simp only [List.map_cons, List.nodup_cons]; exact ⟨q6, q7⟩) f1 f2 f3 n12 n13 n23 D' h0 D0, ?_, ?_, ?_, mk P.d1 (fun q => ?_), mk P.d2 q2, mk P.d3 (fun q => ?_), mk P.d4 (fun q => ?_), mk P.d5 q4, by rw [List.map_cons, P.names], ?_⟩
  · rw [upd1_fst, upd1_fst]
    simp only [List.map_cons, List.nodup_cons, List.mem_cons, not_or]
    exact ⟨⟨n12, n13, f1⟩, ⟨n23, f2⟩, f3, P.nodup⟩
  · simp only [List.map_cons, List.nodup_cons, List.mem_cons, not_or]
    refine ⟨⟨q1, ne_of_in (List.mem_map_of_mem P.d2) f2, q2, q3⟩, ⟨ne_of_in (List.mem_map_of_mem P.d5) f2, q4, q5⟩, ⟨Ne.symm (ne_of_in (List.mem_map_of_mem h0) f2), fun q => ?_⟩, q6, q7⟩
    obtain ⟨it, hit, e⟩ := List.mem_map.mp q
    obtain ⟨i, hi⟩ := List.getElem?_of_mem hit
    obtain ⟨off, I, -⟩ := P.chain (i + 1) it hi
    exact f2 (e ▸ I.in_fst.2.1)
  · intro it hit
    rcases List.mem_cons.mp hit with rfl | hit
    · exact Ne.symm (ne_of_in (List.mem_map_of_mem P.d4) f3)
    · exact P.nkl it hit
  · have h1 := P.d1
    rw [show xd = it0.dx from q] at h1
    exact nomatch (congrArg Obj.data (fun_nodup P.nodup h1 h0) : Data.plain = Data.dict _ _)
  · have h1 := P.d3
    rw [show wl = it0.dx from q] at h1
    exact nomatch (congrArg Obj.data (fun_nodup P.nodup h1 h0) : Data.seq _ _ = Data.dict _ _)
  · have h1 := P.d4
    rw [show ll = it0.dx from q] at h1
    exact nomatch (congrArg Obj.data (fun_nodup P.nodup h1 h0) : Data.seq _ _ = Data.dict _ _)
  · obtain ⟨itl, h1, h2⟩ := P.low
    exact ⟨itl, by rw [List.getLast?_cons_cons]; exact h1, h2⟩
theorem Lp.linked {nx : List (Addr × Obj)} {rs : List Itm} {xd dd wl ll fl xl dl : Addr} {esd : List DictEntry} {nd c1 c2 ep : Nat} {nms : List Str} {xs : Array Value} {c : Nat}
    (P : Lp nx rs xd dd wl ll fl esd nd c1 c2 ep xl dl nms) :
    ChainIn (fun _ _ => True) (upd1 ll (listOf xs c) nx) rs ∧ ((upd1 ll (listOf xs c) nx).map (·.1)).Nodup ∧
      ∃ itl es n off par, rs[rs.length - 1]? = some itl ∧ itl.x = xl ∧ itl.dx = dl ∧ 0 < rs.length ∧ (xl, instObj 107 dl) ∈ upd1 ll (listOf xs c) nx ∧ (dl, dictOf es n) ∈ upd1 ll (listOf xs c) nx ∧ ItemD es itl.nm par itl.kl off := by
  have k1 : ∀ {a : Addr} {o : Obj}, (a, o) ∈ nx → (∀ vs n, o.data ≠ .seq vs n) → @Ne Nat a ll := fun {a o} h n q => by
    rw [show a = ll from q] at h
    exact n _ _ (congrArg Obj.data (fun_nodup P.nodup h P.d4))
  have C : ChainIn (fun _ _ => True) (upd1 ll (listOf xs c) nx) rs := by
    intro i it hi
    obtain ⟨off, I, -⟩ := P.chain i it hi
    obtain ⟨es, n, c', m1, m2, m3, D⟩ := I
    exact ⟨off, ItemIn.upd ⟨es, n, c', m1, m2, m3, D⟩ (k1 m1 fun _ _ q => nomatch q) (k1 m2 fun _ _ q => nomatch q) (P.nkl it (List.mem_of_getElem? hi)), trivial⟩
  refine ⟨C, by rw [upd1_fst]; exact P.nodup, ?_⟩
  obtain ⟨itl, h1, h2, h3⟩ := P.low
  rw [List.getLast?_eq_getElem?] at h1
  obtain ⟨off, ⟨es, n, c', m1, m2, m3, D⟩, -⟩ := C _ _ h1
  rw [h2, h3] at m1
  rw [h3] at m2
  exact ⟨itl, es, n, off, _, h1, h2, h3, by have := (List.getElem?_eq_some_iff.mp h1).1; omega, m1, m2, D⟩
theorem Lp.final {nx : List (Addr × Obj)} {rs : List Itm} {xd dd wl ll fl xl dl : Addr} {esd es es' : List DictEntry} {nd c1 c2 ep n n' c : Nat} {nms : List Str} {v : Value} {itl : Itm}
    (P : Lp nx rs xd dd wl ll fl esd nd c1 c2 ep xl dl nms) (hwl : @Ne Nat wl ll) (hl : rs[rs.length - 1]? = some itl) (hdl : itl.dx = dl) (hpos : 0 < rs.length) (h0 : (dl, dictOf es n) ∈ upd1 ll (listOf #[v] c) nx)
    (D : ∀ par off, ItemD es itl.nm par itl.kl off → ItemD es' itl.nm par itl.kl 7)
    (gw : getL ("working" : Str) esd = some (some (.ref wl))) (gl : getL ("linkage" : Str) esd = some (some (.ref ll))) (gf : getL ("files" : Str) esd = some (some (.ref fl))) (hsys : (fl == sysModules) = false)
    {h₀ h : Heap} {L : Addr} (N : News h₀ L h (upd1 dl (dictOf es' n') (upd1 ll (listOf #[v] c) nx))) :
    ChainAt h (rs.map fun it => (it.x, it.nm)) ∧ DataAt h xd v := by
  subst hdl
  obtain ⟨C, nd1, -⟩ := P.linked (xs := #[v]) (c := c)
  have ndx := P.ndx
  simp only [List.nodup_cons, List.mem_cons, not_or] at ndx
  obtain ⟨⟨q1, q2⟩, q3, q4⟩ := ndx
  have hin : itl.dx ∈ rs.map (·.dx) := List.mem_map_of_mem (List.mem_of_getElem? hl)
  refine ⟨chain_at (chain_off C nd1 q4 hl (by omega) h0 D) N, ?_⟩
  have k1 : ∀ {a : Addr} {o : Obj}, (a, o) ∈ nx → (∀ vs n, o.data ≠ .seq vs n) → @Ne Nat a ll := fun {a o} h n q => by
    rw [show a = ll from q] at h
    exact n _ _ (congrArg Obj.data (fun_nodup P.nodup h P.d4))
  have k2 : ∀ {a : Addr} {o : Obj}, (a, o) ∈ upd1 ll (listOf #[v] c) nx → (∀ vs n, o.data ≠ .dict vs n) → @Ne Nat a itl.dx := fun {a o} h n q => by
    rw [show a = itl.dx from q] at h
    exact n _ _ (congrArg Obj.data (fun_nodup nd1 h h0))
  have m1 := mem_upd1 (o' := listOf #[v] c) P.d1 (k1 P.d1 fun _ _ q => nomatch q)
  have m2 := mem_upd1 (o' := listOf #[v] c) P.d2 (k1 P.d2 fun _ _ q => nomatch q)
  have m3 := mem_upd1 (o' := listOf #[v] c) P.d3 hwl
  have m4 := mem_upd1_self (o' := listOf #[v] c) P.d4
  have m5 := mem_upd1 (o' := listOf #[v] c) P.d5 (k1 P.d5 fun _ _ q => nomatch q)
  refine ⟨dd, esd, nd, wl, ll, fl, c1, c, ep, (N _ (mem_upd1 m1 (k2 m1 fun _ _ q => nomatch q))).1, (N _ (mem_upd1 m2 (fun q => q2 (by rw [show dd = itl.dx from q]; exact hin)))).1, (N _ (mem_upd1 m3 (k2 m3 fun _ _ q => nomatch q))).1,
    (N _ (mem_upd1 m4 (k2 m4 fun _ _ q => nomatch q))).1, (N _ (mem_upd1 m5 (fun q => q3 (by rw [show fl = itl.dx from q]; exact hin)))).1, hsys, gw, gl, gf⟩
end Mine
end
section
open PySem PySem.W PySem.Calls PyProof.Rows PyProof.V PySem.Spec PyProof.Rows.LCg PyProof.Rows.LCt
set_option Elab.async false
set_option maxRecDepth 100000
set_option maxHeartbeats 4000000
namespace Mine
theorem offPbIs : True := by
  w_top off
  k_with_none
  trivial
theorem not_in {h₀ h : Heap} {L a : Addr} {news : List (Addr × Obj)} (N : News h₀ L h news) (x : h.get? a = none) : a ∉ news.map (·.1) := fun q => by
  obtain ⟨p, hp, rfl⟩ := List.mem_map.mp q
  rw [(N p hp).1] at x; cases x
theorem caught_F {prog : Program} {w : World} {A₀ : Around} {E : Value → Shared → Prop} {s' : Shared} {base h : Heap} {outer : List Env} {L a e C t0 : Addr} {m : Str → Option Value} {name : Str} {scope : Scope} {cd : Value} {b₀ : Stmt} {suite : List Stmt} {pos np : Pos} {rest : List ExceptHandler} {Q : Flow → Shared → Prop} {KF : Frag}
    {p : Program} {loose : List Str} {mg mb : Str → Option Value} {x nm q : Str} {N : Addr} {bs bm : List Value} {hdct : Bool} {sn : List Str} {sub : List Value} {ab : Bool} {col : Option Bool} {dd : Option Addr} {k0 k1 k2 k3 k5 : Option Value} {newId : String}
    (hA : A₀.frames = some outer) (F : Fr base L h m) (hsm : h.UpToSlots s'.heap) (hfl : Heap.FlyingW base (envOf name scope L a cd :: outer) e (.ref C) (.ref t0) s'.heap)
    (X : KF.In base) (T : TopRead p loose mg mb base) (ex : nsIn KF mainGlobals x = some (some (.ref C))) (hC : base.get? C = some (excClassObj nm q C N bs bm hdct sn sub ab col dd k0 k1 k2 k3 k5 newId)) (hbase : bm.contains (.type "BaseException") = true)
    (k : ∀ h', Fr base L h' m → s'.heap.UpToSlots h' →
      wpAny (model prog w) ((A₀.deeper (envOf name scope L a cd)).mark (some (.ref e))) (execs (b₀ :: suite) (envOf name scope L a cd)) Q E { s' with heap := h' })
    (hE : PassesOwnAt (model prog w) ((A₀.deeper (envOf name scope L a cd)).mark (some (.ref e))) (A₀.deeper (envOf name scope L a cd)) (envOf name scope L a cd) E)
    (hk : scope.kind = .function) (hx : (envOf name scope L a cd).kindOf x = some .globalImplicit) (hd : (x == ("__debug__" : Str)) = false) :
    wpAny (model prog w) (A₀.deeper (envOf name scope L a cd)) (noteFrame (.ref e) (envOf name scope L a cd))
      (fun _ s₂ => wpAny (model prog w) (A₀.deeper (envOf name scope L a cd)) (setFlight (.ref e) none) (fun _ s₃ =>
        wpAny (model prog w) (A₀.deeper (envOf name scope L a cd)) (handleBy (.ref e) (envOf name scope L a cd) (.ExceptHandler (some (.Name x np)) none (b₀ :: suite) pos :: rest)) Q E s₃) E s₂) E s' := by
  refine wpAny_looks_onW (Around.frames_deeper hA) rfl hfl fun h₄ hheld₄ hsm₄ => ?_
  refine wpAny_landsW hheld₄ fun h₅ hheld hsm₅' => ?_
  have hsm₅ := hsm₄.trans hsm₅'
  have F₅ := F.of_stays hheld.1 (hsm.trans hsm₅)
  obtain ⟨ob, hob, hobc⟩ := hheld.there
  refine wpAny_handleBy_cons (codeAny_handlers_test (name_K F₅ X T ex ?_ hk hx hd)) (by intro q; cases q)
  refine wpAny_excMatches_sub_self (F₅.keep _ _ hC) hob hobc hbase (codeAny_handlers_suite ?_)
  refine lands_againW hheld fun h₆ hfl₆ hsm₆ => ?_
  have F₆ := F.of_stays hfl₆.1 ((hsm.trans hsm₅).trans hsm₆)
  exact wpAny_passesOwnAt hE (k h₆ F₆ (hsm₅.trans hsm₆))
local macro_rules | `(tactic| walk_at "call builtin:list.append") => `(tactic| k_extra "call builtin:list.append")
local macro_rules | `(tactic| walk_at "exec For Name Name cons nil") => `(tactic| (k_dflt (refine For_at ?_)))
/-! ### the row of names, from the lowest item up -/
section
variable {ns : List Str} {rs : List (Addr × Str)}
theorem row_other (hrl : rs.length = ns.length + 1) (hat : ∀ (j : Nat) (p : Addr × Str), rs[j]? = some p → (ns.reverse ++ [Str.ofString "X"])[j]? = some p.2) {i : Nat} {p : Addr × Str} (hp : rs[i]? = some p) (hi : i ≠ ns.length) : p.2 ∈ ns := by
  have h2 := hat _ _ hp
  have h3 : i < ns.length := Nat.lt_of_le_of_ne (Nat.le_of_lt_succ (Nat.lt_of_lt_of_eq (List.getElem?_eq_some_iff.mp hp).1 hrl)) hi
  rw [List.getElem?_append_left (by rw [List.length_reverse]; exact h3)] at h2
  exact List.mem_reverse.mp (List.mem_of_getElem? h2)
theorem row_names (hrl : rs.length = ns.length + 1) (hat : ∀ (j : Nat) (p : Addr × Str), rs[j]? = some p → (ns.reverse ++ [Str.ofString "X"])[j]? = some p.2) : nmsL rs ns.length ns.length = ns := by
  apply List.ext_getElem?
  intro i
  by_cases hi : i < ns.length
  · have hj : ns.length - 1 - i < rs.length := om_sub5 hrl
    have hk : ns.length - 1 - i < ns.length := Nat.lt_of_le_of_lt (Nat.sub_le _ i) (Nat.sub_lt (Nat.zero_lt_of_lt hi) Nat.one_pos)
    have h1 := hat _ _ (List.getElem?_eq_getElem hj)
    rw [List.getElem?_append_left (by rw [List.length_reverse]; exact hk), List.getElem?_reverse hk, Nat.sub_sub_self (Nat.le_sub_one_of_lt hi)] at h1
    rw [h1]
    simp only [nmsL, List.getElem?_map, List.getElem?_range hi, Option.map_some, nameAt, List.getElem?_eq_getElem hj]
  · rw [List.getElem?_eq_none (by simp only [nmsL, List.length_map, List.length_range]; exact Nat.le_of_not_lt hi), List.getElem?_eq_none (Nat.le_of_not_lt hi)]
theorem row_free {x : Addr} (hrl : rs.length = ns.length + 1) (hat : ∀ (j : Nat) (p : Addr × Str), rs[j]? = some p → (ns.reverse ++ [Str.ofString "X"])[j]? = some p.2) (hlast : rs[ns.length]? = some (x, Str.ofString "X"))
    (hF : ∀ z ∈ ns, z ≠ Str.ofString "FILLER") : ∀ p ∈ rs, p.2 ≠ Str.ofString "FILLER" := by
  intro p hp
  obtain ⟨i, hi⟩ := List.getElem?_of_mem hp
  by_cases q : i = ns.length
  · subst q; obtain rfl := Option.some.inj (hlast.symm.trans hi); show Str.ofString "X" ≠ Str.ofString "FILLER"; decide
  · exact hF _ (row_other hrl hat hi q)
theorem leads_blank {ms : List Str} (hE : Str.ofString "" ∉ ms) : leads (ns ++ [Str.ofString ""]) ms = leads ns ms := by
  have : adv ms (ns ++ [Str.ofString ""]) 0 = adv ms ns 0 := by
    rw [adv_append]
    show (if ms[adv ms ns 0]? = some (Str.ofString "") then _ else _) = _
    rw [if_neg (fun q => hE (List.mem_of_getElem? q))]
  unfold leads; rw [this]
end
theorem found_ok {w : World} {mean : ExcName → Option Value} {mg mb : Str → Option Value} {A : Around} {s : Shared} {Q E : Value → Shared → Prop} {base : Heap} {outer : List Env}
    (X : (Mine.hd.heap_39 w.params).In base) (T : Top Mine.hd.view_39 (looseW Mine.hd.view_39 [Str.ofString "LedgerError"]) mean mg mb base)
    (hb : base.StaysIn s.heap) (hsz : base.objs.size ≤ s.heap.objs.size) (hh : A.handled = none) (hd : A.depth + 10 < recursionLimit) (hu : A.units + 300 < cLine) (hA : A.frames = some outer) (hf : s.heap.FunFrames base outer)
    {a b : Addr} {vs qs : List Value} {ns ms : List Str} (ha : base.IsList a vs.toArray) (hvs : StrsAre vs ns) (hq : IsTup base b qs.toArray) (hqs : StrsAre qs ms) (hn : ns.length ≤ 10) (hm : ms.length ≤ 100)
    (hX : ∀ z ∈ ns, z ≠ Str.ofString "X") (hF : ∀ z ∈ ns, z ≠ Str.ofString "FILLER") (hE : Str.ofString "" ∉ ms)
    (ret : ∀ h' tk', base.StaysIn h' → s.heap.UpToSlots h' → Q (.bool (leads ns ms)) { s with heap := h', toks := tk' }) :
    wpAny (model Challenge.rw_pb0235_01.row.prog w) A (call (.ref 223) [.ref a, .ref b]) Q E s := by
  have X0 := X
  have T0 := T
  replace X := X.keeps hb
  replace T := T.keeps hb
  revert X; k_fill; intro X
  refine wpAny_call ?_
  refine' enter_plain X T.nolimit ?ho ?hcd ?hroom ?hbind ?hloc ?_ ?c2 ?c3 ?c4 ?c5
  case ho => k_is
  case hcd => k_is
  case hroom => exact om_u0 hd
  case hbind => exact (BindsTo.of_eq (binds := [(Str.ofString "row", .ref a), (Str.ofString "wanted", .ref b)]) rfl)
  case hloc => exact locs rfl
  case c2 => rfl
  case c3 => rfl
  case c4 => rfl
  case c5 => decide
  intro h₁ F
  have N : News s.heap s.heap.objs.size h₁ [] := News.nil
  try dsimp only
  try k_fold
  k_with_none
  k_steps
  refine' data_ok ?X ?T ?a ?d ?u ?_
  case X => exact X.keeps F.keep
  case a => exact hh
  case T => exact T.keeps F.keep
  case d => show A.depth + 1 + 3 < recursionLimit; exact om_u2 (by assumption) (by decide)
  case u => show A.units + 3 + 50 < cLine; exact om_u2 (by assumption) (by decide)
  intro xd dd wl ll fl esd nd c1 c2 ep h2 tk2 k2 fx fdd fw fll ff gx gdd gw gll gf l1 l2 l3 l4 hsys ew el ef
  have F2 := F.keeps k2
  have N2 : News s.heap s.heap.objs.size h2 [(xd, instObj 135 dd), (dd, dictOf esd nd), (wl, W.listOf #[] c1), (ll, W.listOf #[] c2), (fl, dictOf [] ep)] :=
    News.addL F N k2 (new := [(xd, instObj 135 dd), (dd, dictOf esd nd), (wl, W.listOf #[] c1), (ll, W.listOf #[] c2), (fl, dictOf [] ep)]) (by
      simp only [List.forall_mem_cons, List.not_mem_nil, false_imp_iff, implies_true, and_true]
      exact ⟨⟨gx, fx⟩, ⟨gdd, fdd⟩, ⟨gw, fw⟩, ⟨gll, fll⟩, ⟨gf, ff⟩⟩)
  have nd5 : ([xd, dd, wl, ll, fl] : List Nat).Nodup := nodup5 l1 l2 l3 l4
  have ndf : @Ne Nat dd fl := Nat.ne_of_lt (Nat.lt_trans l1 (Nat.lt_trans l2 (Nat.lt_trans l3 l4)))
  clear F N
  k_steps
  rename Fr _ _ _ _ => lF
  rename News _ _ _ _ => lN
  refine' item_ok ?X ?T ?a ?d ?u ?_
  case X => exact X.keeps lF.keep
  case a => exact hh
  case T => exact T.keeps lF.keep
  case d => show A.depth + 1 + 3 < recursionLimit; exact om_u2 (by assumption) (by decide)
  case u => show A.units + 3 + 50 < cLine; exact om_u2 (by assumption) (by decide)
  intro xl dl kll esl nl cl h3 tk3 k3 ga gb gc g12 g13 g23 ha1 ha2 ha3 hDl
  have F3 := lF.keeps k3
  have q1 := not_in lN ga
  have q2 := not_in lN gb
  have q3 := not_in lN gc
  have N3 := News.addL lF lN k3 (new := [(xl, instObj 107 dl), (dl, dictOf esl nl), (kll, W.listOf #[] cl)]) (by
      simp only [List.forall_mem_cons, List.not_mem_nil, false_imp_iff, implies_true, and_true]
      exact ⟨⟨ha1, ga⟩, ⟨ha2, gb⟩, ⟨ha3, gc⟩⟩)
  simp only [List.cons_append, List.nil_append] at N3
  clear lF lN
  k_steps
  rename Fr _ _ _ _ => lF
  rename News _ _ _ _ => lN
  have hM : (fun z => if z = Str.ofString "here" then some (Value.ref xl) else if z = Str.ofString "above" then none else if z = Str.ofString "who" then none else if z = Str.ofString "here" then some (Value.ref xl) else if z = Str.ofString "lowest" then some (Value.ref xl) else if z = Str.ofString "data" then some (Value.ref xd) else List.lookup z [(Str.ofString "row", Value.ref a), (Str.ofString "wanted", Value.ref b)].reverse) =
      fun z => if z = Str.ofString "here" then some (Value.ref xl) else if z = Str.ofString "lowest" then some (Value.ref xl) else if z = Str.ofString "data" then some (Value.ref xd) else List.lookup z [(Str.ofString "row", Value.ref a), (Str.ofString "wanted", Value.ref b)].reverse := by
    funext z
    by_cases c1 : z = Str.ofString "here"
    · subst c1; rfl
    · by_cases c2 : z = Str.ofString "above"
      · subst c2; rfl
      · by_cases c3 : z = Str.ofString "who"
        · subst c3; rfl
        · simp only [if_neg c1, if_neg c2, if_neg c3]
  refine iter_list (vs := vs) (fun i m nx => ∃ it0 rs0 u1 u2, Lp nx (it0 :: rs0) xd dd wl ll fl esd nd c1 c2 ep xl dl ((ns.take i).reverse ++ [Str.ofString "X"]) ∧
      m = fun z => if z = Str.ofString "here" then some (Value.ref it0.x) else if z = Str.ofString "above" then u1 else if z = Str.ofString "who" then u2 else if z = Str.ofString "here" then some (Value.ref xl) else if z = Str.ofString "lowest" then some (Value.ref xl) else if z = Str.ofString "data" then some (Value.ref xd) else List.lookup z [(Str.ofString "row", Value.ref a), (Str.ofString "wanted", Value.ref b)].reverse)
    hh lF lN (.inl (stays_list hb ha)) ⟨⟨xl, dl, kll, Str.ofString "X"⟩, [], none, none, ?start, hM.symm⟩ ?turn ?done
  case start =>
    refine ⟨?_, ?_, ?_, ?_, by simp, by simp, by simp, by simp, by simp, by simp, ⟨_, rfl, rfl, rfl⟩⟩
    · intro i it hi
      cases i with
      | zero =>
        obtain rfl : (⟨xl, dl, kll, Str.ofString "X"⟩ : Itm) = it := Option.some.inj hi
        exact ⟨0, ⟨esl, nl, cl, .head _, .tail _ (.head _), .tail _ (.tail _ (.head _)), hDl⟩, trivial⟩
      | succ j => cases hi
    · simp only [List.map_cons, List.map_nil, List.nodup_cons, List.mem_cons, not_or] at q1 q2 q3 nd5 ⊢
      exact ⟨⟨g12, g13, q1⟩, ⟨g23, q2⟩, q3, nd5⟩
    · simp only [List.map_cons, List.map_nil, List.nodup_cons, List.mem_cons, not_or] at q2 ⊢
      exact ⟨⟨ndf, Ne.symm q2.2.1, by simp⟩, ⟨Ne.symm q2.2.2.2.2.1, by simp⟩, by simp, List.nodup_nil⟩
    · intro it hit
      rw [List.mem_singleton.mp hit]
      simp only [List.map_cons, List.map_nil, List.mem_cons, not_or] at q3
      exact q3.2.2.2.1
  case turn =>
    rintro i v I oI m₁ nx h tk E' hv ⟨it0, rs0, u1, u2, P, rfl⟩ hI hI2 F4 N4 S4
    obtain ⟨n, tn, rfl, hnn⟩ := StrsAre.item hvs i v hv
    obtain ⟨off0, ⟨es0, n0, c0, p1, p2, p3, D0⟩, -⟩ := P.chain 0 it0 rfl
    k_with_none
    k_steps
    rename Fr _ _ _ _ => lF
    rename News _ _ _ _ => lN
    refine' item_ok ?X ?T ?a ?d ?u ?_
    case X => exact X.keeps lF.keep
    case a => exact hh
    case T => exact T.keeps lF.keep
    case d => show A.depth + 1 + 3 < recursionLimit; exact om_u2 (by assumption) (by decide)
    case u => show A.units + 3 + 50 < cLine; exact om_u2 (by assumption) (by decide)
    intro x' d' k' es' n' c' h5 tk5 k5 fa fb fc m12 m13 m23 hb1 hb2 hb3 hD'
    have F5 := lF.keeps k5
    have r1 := not_in lN fa
    have r2 := not_in lN fb
    have r3 := not_in lN fc
    have N5 := News.addL lF lN k5 (new := [(x', instObj 107 d'), (d', dictOf es' n'), (k', W.listOf #[] c')]) (by
        simp only [List.forall_mem_cons, List.not_mem_nil, false_imp_iff, implies_true, and_true]
        exact ⟨⟨hb1, fa⟩, ⟨hb2, fb⟩, ⟨hb3, fc⟩⟩)
    simp only [List.cons_append, List.nil_append] at N5
    simp only [List.map_cons, List.mem_cons, not_or] at r1 r2 r3
    clear lF lN
    k_with_none
    k_with "getMethod ref" => (rename News _ _ _ _ => zN; refine' method_inst ?k1 ?k2 ⟨(zN (x', instObj 107 d') (.head _)).1, rfl, rfl, (zN (d', dictOf es' n') (.tail _ (.head _))).1⟩ ?k4 ?k5 ?k6 hD'.add ?_; (case k1 => k_asm); (case k2 => k_asm); (case k4 => k_is); (case k5 => k_is); (case k6 => k_is))
    k_steps
    rename Fr _ _ _ _ => lF
    rename News _ _ _ _ => lN
    have up : ∀ p ∈ nx, p ∈ (x', instObj 107 d') :: (d', dictOf es' n') :: (k', W.listOf #[] c') :: (I, oI) :: nx := fun p hp => .tail _ (.tail _ (.tail _ (.tail _ hp)))
    have s0 := (lN _ (up _ p2)).2.2
    have sk := (lN (k', W.listOf #[] c') (.tail _ (.tail _ (.head _)))).2.2
    have nI0 : @Ne Nat I it0.dx := Ne.symm (hI _ p2)
    have nIk : @Ne Nat I k' := Ne.symm r3.1
    have nk0 : @Ne Nat it0.dx k' := ne_of_in (List.mem_map_of_mem p2) r3.2
    refine' add_ok (b := s.heap) X T ?hbb ?a ?d ?u (lN _ (.head _)).1 (lN _ (.tail _ (.head _))).1 (lN _ (.tail _ (.tail _ (.head _)))).1 (lN _ (up _ p1)).1 (lN _ (up _ p2)).1 hD' D0 s0 sk (Ne.symm (ne_of_in (List.mem_map_of_mem p2) r2.2)) ?_
    case hbb => exact lF.keep
    case a => exact hh
    case d => show A.depth + 1 + 2 < recursionLimit; exact om_u2 (by assumption) (by decide)
    case u => show A.units + 3 + 50 < cLine; exact om_u2 (by assumption) (by decide)
    intro h6 tk6 es0' n0' c'' keep6 e1 e2 D0'
    have F6 : Fr s.heap s.heap.objs.size h6 _ := ⟨lF.ns.at' fun o e => keep6 _ o e (Ne.symm (lN _ (up _ p2)).2.1) (Ne.symm (lN (k', W.listOf #[] c') (.tail _ (.tail _ (.head _)))).2.1),
      fun b o e => keep6 b o (lF.keep b o e) (fun q => by rw [show b = it0.dx from q, s0] at e; cases e) (fun q => by rw [show b = k' from q, sk] at e; cases e), lF.above⟩
    have N6 := News.upd2 (news := (x', instObj 107 d') :: (d', dictOf es' n') :: (k', W.listOf #[] c') :: nx) (fun p hp => lN p (by
      rcases List.mem_cons.mp hp with rfl | hp
      · exact .head _
      · rcases List.mem_cons.mp hp with rfl | hp
        · exact .tail _ (.head _)
        · rcases List.mem_cons.mp hp with rfl | hp
          · exact .tail _ (.tail _ (.head _))
          · exact up p hp)) (.tail _ (.tail _ (.tail _ p2))) (.tail _ (.tail _ (.head _))) keep6 e1 e2 nk0
    have NI : h6.get? I = some oI ∧ I ≠ s.heap.objs.size ∧ s.heap.get? I = none := by
      have z := lN (I, oI) (.tail _ (.tail _ (.tail _ (.head _))))
      exact ⟨keep6 _ _ z.1 nI0 nIk, z.2⟩
    have P' := P.step (n' := n') (c' := c') (c'' := c'') (n0' := n0') r1.2 r2.2 r3.2 m12 m13 m23 hD' p2 D0'
    have hIo : ∀ p ∈ upd1 it0.dx (dictOf es0' n0') (upd1 k' (W.listOf #[Value.ref it0.x] c'') ((x', instObj 107 d') :: (d', dictOf es' n') :: (k', W.listOf #[] c') :: nx)), p.1 ≠ I := by
      intro p hp q
      have hm : p.1 ∈ (upd1 it0.dx (dictOf es0' n0') (upd1 k' (W.listOf #[Value.ref it0.x] c'') ((x', instObj 107 d') :: (d', dictOf es' n') :: (k', W.listOf #[] c') :: nx))).map (·.1) := List.mem_map_of_mem hp
      rw [upd1_fst, upd1_fst, q] at hm
      simp only [List.map_cons, List.mem_cons] at hm
      rcases hm with z | z | z | z
      · exact r1.1 z.symm
      · exact r2.1 z.symm
      · exact r3.1 z.symm
      · obtain ⟨r, hr, e⟩ := List.mem_map.mp z
        exact hI r hr e
    have N7 : News s.heap s.heap.objs.size h6 ((I, oI) :: upd1 it0.dx (dictOf es0' n0') (upd1 k' (W.listOf #[Value.ref it0.x] c'') ((x', instObj 107 d') :: (d', dictOf es' n') :: (k', W.listOf #[] c') :: nx))) := fun p hp => by
      rcases List.mem_cons.mp hp with rfl | hp
      · exact NI
      · exact N6 p hp
    clear lF lN N6
    generalize upd1 it0.dx (dictOf es0' n0') (upd1 k' (W.listOf #[Value.ref it0.x] c'') ((x', instObj 107 d') :: (d', dictOf es' n') :: (k', W.listOf #[] c') :: nx)) = nx2 at P' hIo N7
    k_with_none
    k_steps
    rename Fr _ _ _ _ => lF
    rename News _ _ _ _ => lN
    have hnm : n :: ((ns.take i).reverse ++ [Str.ofString "X"]) = (ns.take (i + 1)).reverse ++ [Str.ofString "X"] := by rw [List.take_add_one, hnn]; simp
    rw [hnm] at P'
    refine ForEnd.intro lF lN nx2 (fun p hp => hp) hIo (.inl (stays_list hb ha)) ⟨⟨x', d', k', n⟩, it0 :: rs0, some (.ref x'), some (.str n tn), P', ?_⟩
    funext z
    by_cases c1 : z = Str.ofString "here"
    · subst c1; rfl
    · by_cases c2 : z = Str.ofString "above"
      · subst c2; rfl
      · by_cases c3 : z = Str.ofString "who"
        · subst c3; rfl
        · simp only [if_neg c1, if_neg c2, if_neg c3]
  case done =>
    rintro m₁ nx h tk ⟨it0, rs0, u1, u2, P, rfl⟩ F4 N4
    dsimp only
    rw [hvs.length, List.take_length] at P
    have N4' : News s.heap s.heap.objs.size h [(ll, W.listOf #[] c2)] := fun p hp => by rw [List.mem_singleton.mp hp]; exact N4 _ P.d4
    k_with_none
    k_with "getAttr ref" => (refine' get_own ?k1 ?k2 ⟨(N4 _ P.d1).1, rfl, rfl, (N4 _ P.d2).1⟩ ?k4 ?k5 ?k6 ?k7 el ?k9 ?_; (case k1 => k_asm); (case k2 => k_asm); (case k4 => k_is); (case k5 => k_is); (case k6 => k_is); (case k7 => k_is); (case k9 => (simp only [handedIn])))
    k_with "call builtin:list.append" => (refine append_K (by assumption) N4 (upd_mem P.d4 P.nodup) (fun h' F' N' => ?_) (by simp [sizeLine_eq]))
    k_steps
    clear N4'
    rename Fr _ _ _ _ => lF
    rename News _ _ _ _ => lN
    have hpush : (#[] : Array Value).push (Value.ref it0.x) = #[Value.ref it0.x] := rfl
    rw [hpush] at lN
    obtain ⟨C1, nd1, itl, esl', nl', offl, parl, hl1, hl2, hl3, hpos, m1, m2, DL⟩ := P.linked (xs := #[Value.ref it0.x]) (c := c2 + 1)
    refine' set_dict ?k1 ?k2 lN ⟨(lN _ m1).1, rfl, rfl, (lN _ m2).1⟩ rfl ?k6 ?k7 ?k8 ?k9 ?k10 rfl (upd_mem m2 nd1) ?k13 ?_
    case k1 => k_asm
    case k2 => k_asm
    case k6 => k_is
    case k7 => k_is
    case k8 => k_is
    case k9 => k_is
    case k10 => obtain ⟨t, e⟩ := DL.offset; rw [e]; rfl
    case k13 => have := (DL.setOffset (p := 7) 0 0 0).few; obtain ⟨t, e⟩ := DL.offset; rw [putL_len _ _ _ _ (any_of_getL e)] at this ⊢; omega
    intro h7 F7 N7
    obtain ⟨CH, DA⟩ := P.final (Nat.ne_of_lt l3) hl1 hl3 hpos m2 (fun par off D => D.setOffset _ _ _) ew el ef hsys N7
    have hlen : (it0 :: rs0).length = ns.length + 1 := by
      have := congrArg List.length P.names
      rw [List.length_map] at this
      rw [this]; simp
    generalize hrs : (it0 :: rs0).map (fun it => (it.x, it.nm)) = rs at CH
    have hrl : rs.length = ns.length + 1 := by rw [← hrs, List.length_map, hlen]
    have hat : ∀ (j : Nat) (p : Addr × Str), rs[j]? = some p → (ns.reverse ++ [Str.ofString "X"])[j]? = some p.2 := by
      intro j p hp
      rw [← P.names, List.getElem?_map]
      rw [← hrs, List.getElem?_map] at hp
      obtain ⟨it, h1, rfl⟩ := Option.map_eq_some_iff.mp hp
      rw [h1]; rfl
    have hlast : rs[ns.length]? = some (xl, Str.ofString "X") := by
      rw [show (it0 :: rs0).length - 1 = ns.length from congrArg (· - 1) hlen] at hl1
      have h1 : rs[ns.length]? = some (itl.x, itl.nm) := by rw [← hrs, List.getElem?_map, hl1]; rfl
      have h2 := hat _ _ h1
      rw [List.getElem?_append_right (by simp)] at h2
      simp only [List.length_reverse, Nat.sub_self, List.getElem?_cons_zero, Option.some.injEq] at h2
      rw [h1, hl2, ← h2]
    have hnms := row_names hrl hat
    have hle := leads_blank (ns := ns) hE
    have hFr := row_free hrl hat hlast hF
    have htop : rs[0]? = some (it0.x, it0.nm) := by rw [← hrs]; rfl
    clear N4 lF lN
    k_with_none
    k_steps
    have hbn : base.get? s.heap.objs.size = none := hb.fresh
    refine' find_ok (base := base) (outer := _ :: outer) ?zX ?zT ?za ?zd ?zu ?zr ?zb ?zf ?zC hrl (Nat.le_trans hn (by decide)) hlast ?zN hFr htop ?zD ?zq hqs (Nat.le_trans hm (by decide)) ?zret ?zfail
    case zX => exact X.keeps F7.keep
    case za => exact hh
    case zT => exact T.keeps F7.keep
    case zd => show A.depth + 1 + 6 < recursionLimit; exact om_u2 (by assumption) (by decide)
    case zu => show A.units + 3 + 200 < cLine; exact om_u2 (by assumption) (by decide)
    case zr => exact Around.frames_deeper hA
    case zb => exact fun b o q => F7.keep b o (hb b o q)
    case zf => exact Heap.FunFrames.cons (by show ScopeKind.function ≠ ScopeKind.module; decide) rfl F7.ns hbn (hf.of_keeps fun b o q _ => ⟨o, F7.keep b o q, rfl⟩)
    case zC => exact CH
    case zN => exact fun i p hp hi => hX _ (row_other hrl hat hp hi)
    case zD => exact DA
    case zq => exact IsTup.keeps hq fun b o q => F7.keep b o (hb b o q)
    case zret =>
      rw [hnms, hle]
      intro hL h9 tk9 k9
      obtain ⟨off9, ⟨dx9, es9, n9, kl9, c9, y1, y2, y3, D9⟩, hoff⟩ := CH _ _ _ hlast
      obtain rfl : off9 = 7 := hoff hrl.symm
      obtain ⟨t9, e9⟩ := D9.offset
      have F9 := F7.keeps k9
      have N9 : News s.heap s.heap.objs.size h9 [] := News.nil
      clear F7 N7
      k_with_none
      k_with "getAttr ref" => (refine' get_own ?k1 ?k2 ⟨k9 _ _ y1, rfl, rfl, k9 _ _ y2⟩ ?k4 ?k5 ?k6 ?k7 e9 ?k9 ?_; (case k1 => k_asm); (case k2 => k_asm); (case k4 => k_is); (case k5 => k_is); (case k6 => k_is); (case k7 => k_is); (case k9 => (simp only [handedIn])))
      k_steps
      have r := fun k => ret h9 k (fun b o q => F9.keep b o (hb b o q)) (Heap.UpToSlots.of_keeps F9.keep)
      rw [hL] at r
      exact r _
    case zfail =>
      rw [hnms, hle]
      rintro hL v s' ⟨e, t0, h9, tk9, rfl, rfl, hfl, hup⟩
      have Fb : Fr base s.heap.objs.size h7 _ := ⟨F7.ns, fun b o q => F7.keep b o (hb b o q), hsz⟩
      obtain ⟨nm, q, N', bs, sn, sub, ab, col, dd', k0, k1, k2, k3, k5, hC⟩ : ∃ nm q N bs sn sub ab col dd k0 k1 k2 k3 k5, base.get? 60 = some (excClassObj nm q 60 N bs [.ref 47, .type "Exception", .type "BaseException", .type "object"] true sn sub ab col dd k0 k1 k2 k3 k5 "Exception.__new__") :=
        ⟨_, _, _, _, _, _, _, _, _, _, _, _, _, _, X0 _ _ (by k_is)⟩
      refine' caught_F hA Fb hup hfl X0 (topRead_of T0) ?ex hC (by decide) (fun h' F' hup' => ?_) PassesOwnAt.never rfl rfl (by decide)
      case ex => k_is
      k_with_none
      k_steps
      have r := fun k => ret h' k F'.keep (((Heap.UpToSlots.of_keeps F7.keep).trans hup).trans hup')
      rw [hL] at r
      exact r _
end Mine
end
section
open PySem PySem.W PySem.Calls PyProof.Rows PyProof.V PySem.Spec PyProof.Rows.LCg PyProof.Rows.LCt
set_option Elab.async false
set_option maxRecDepth 100000
set_option maxHeartbeats 8000000
namespace Mine
theorem offPbTape : True := by
  w_top off
  k_with_none
  trivial
def CallAt (prog : Program) (w : World) (A : Around) (f : Value) (args : List Value) (Q : Value → Shared → Prop) (E : Value → Shared → Prop) (s : Shared) : Prop := wpAny (model prog w) A (call f args) Q E s
theorem Call_at {prog : Program} {w : World} {A : Around} {f : Value} {args : List Value} {Q : Value → Shared → Prop} {E : Value → Shared → Prop} {s : Shared} (h : CallAt prog w A f args Q E s) : wpAny (model prog w) A (call f args) Q E s := h
def TapeQ (h₀ : Heap) (L : Addr) (m : Str → Option Value) (oT : Obj) (s : Shared) (v : Value) (s' : Shared) : Prop :=
  ∃ cl vs ns c h' tk', v = .ref cl ∧ s' = { s with heap := h', toks := tk' } ∧ Fr h₀ L h' m ∧ News h₀ L h' [(cl, listOf (vs : List Value).toArray c), (L + 1, oT)] ∧ IntsAre vs ns ∧ ns ≠ [] ∧ ns.length ≤ 100 ∧ @LT.lt Nat _ (L + 1) cl
theorem tape_ev {prog : Program} {w : World} {A : Around} {e : PySem.Expr} {env : Env} {Q : Value → Shared → Prop} {E : Value → Shared → Prop} {s : Shared} {h₀ : Heap} {L : Addr} {m : Str → Option Value} {oT : Obj} (_F : Fr h₀ L s.heap m) (_N : News h₀ L s.heap [(L + 1, oT)])
    (h1 : wpAny (model prog w) A (eval e env) (TapeQ h₀ L m oT s) E s)
    (h2 : ∀ cl vs ns c h' tk', Fr h₀ L h' m → News h₀ L h' [(cl, listOf (vs : List Value).toArray c), (L + 1, oT)] → IntsAre vs ns → ns ≠ [] → ns.length ≤ 100 → @LT.lt Nat _ (L + 1) cl → Q (.ref cl) { s with heap := h', toks := tk' }) :
    wpAny (model prog w) A (eval e env) Q E s :=
  wpAny_mono h1 (fun v s' z => by obtain ⟨cl, vs, ns, c, h', tk', rfl, rfl, a, b, d, e, f, g⟩ := z; exact h2 cl vs ns c h' tk' a b d e f g) fun _ _ x => x
def TapeO (cl : Addr) (o1 o2 : Obj) (k : Int) : Prop := ∃ t c1 vs ns c2, o1 = listOf #[.ref cl, .int k t] c1 ∧ o2 = listOf (vs : List Value).toArray c2 ∧ IntsAre vs ns ∧ ns ≠ [] ∧ ns.length ≤ 100
theorem draw_F {w : World} {mean : ExcName → Option Value} {mg mb : Str → Option Value} {A : Around} {s : Shared} {Q E : Value → Shared → Prop} {h₀ : Heap} {L tp cl : Addr} {m : Str → Option Value} {o1 o2 : Obj} {l : List (Addr × Obj)} {k lim : Int} {lt : Tok}
    (F : Fr h₀ L s.heap m) (N1 : News h₀ L s.heap [(tp, o1), (cl, o2)]) (N : News h₀ L s.heap l) (X : (Mine.hd.heap_39 w.params).In h₀) (T : Top Mine.hd.view_39 (looseW Mine.hd.view_39 [Str.ofString "LedgerError"]) mean mg mb h₀)
    (off : ∀ p ∈ l, @Ne Nat p.1 tp ∧ @Ne Nat p.1 cl) (hne : @Ne Nat tp cl) (hO : TapeO cl o1 o2 k) (hk : 0 ≤ k) (hk2 : k < 1000) (hl : 1 ≤ lim) (hl2 : lim ≤ 8)
    (hh : A.handled = none) (hd : A.depth + 1 < recursionLimit) (hu : A.units + 50 < cLine)
    (ret : ∀ r t h' tk' o1' o2', 0 ≤ r → r < lim → Fr h₀ L h' m → News h₀ L h' [(tp, o1'), (cl, o2')] → News h₀ L h' l → TapeO cl o1' o2' (k + 1) → Q (.int r t) { s with heap := h', toks := tk' }) :
    CallAt Challenge.rw_pb0235_01.row.prog w A (.ref 210) [.ref tp, .int lim lt] Q E s := by
  obtain ⟨t, c1, vs, ns, c2, rfl, rfl, hi, hns, hlen⟩ := hO
  have a1 := N1 _ (.head _)
  have a2 := N1 _ (.tail _ (.head _))
  refine draw_ok (b := h₀) X (topRead_of T) F.keep hh hd hu (tp := tp) (cl := cl) (ns := ns) (k := k) ⟨⟨t, c1, a1.1⟩, ⟨vs, c2, a2.1, hi⟩, hne, hns, hlen, hk, Int.le_of_lt hk2⟩ hk2 a1.2.2 a2.2.2 hl hl2 (fun r t' h' tk' ns' r0 r1 H' keep => ?_)
  obtain ⟨⟨t2, c3, b1⟩, ⟨vs2, c4, b2, hi2⟩, -, hs2, hl3, -, -⟩ := H'
  have F' : Fr h₀ L h' m := ⟨F.ns.at' fun o e => keep L o e (Ne.symm a1.2.1) (Ne.symm a2.2.1), fun b o e => keep b o (F.keep b o e) (fun q => by rw [q, a1.2.2] at e; cases e) (fun q => by rw [q, a2.2.2] at e; cases e), F.above⟩
  refine ret r t' h' tk' _ _ r0 r1 F' (fun p hp => ?_) (fun p hp => ⟨keep _ _ (N p hp).1 (off p hp).1 (off p hp).2, (N p hp).2⟩) ⟨t2, c3, vs2, ns', c4, rfl, rfl, hi2, hs2, hl3⟩
  rcases List.mem_cons.mp hp with rfl | hp
  · exact ⟨b1, a1.2⟩
  · rw [List.mem_singleton.mp hp]; exact ⟨b2, a2.2⟩
theorem draw_M {w : World} {mean : ExcName → Option Value} {mg mb : Str → Option Value} {A : Around} {s : Shared} {Q E : Value → Shared → Prop} {h₀ : Heap} {L tp cl : Addr} {m : Str → Option Value} {o1 o2 : Obj} {l : List (Addr × Obj)} {k lim : Int} {lt : Tok}
    (F : Fr h₀ L s.heap m) (N : News h₀ L s.heap ((tp, o1) :: (cl, o2) :: l)) (X : (Mine.hd.heap_39 w.params).In h₀) (T : Top Mine.hd.view_39 (looseW Mine.hd.view_39 [Str.ofString "LedgerError"]) mean mg mb h₀)
    (off : ∀ p ∈ l, @Ne Nat p.1 tp ∧ @Ne Nat p.1 cl) (hne : @Ne Nat tp cl) (hO : TapeO cl o1 o2 k) (hk : 0 ≤ k) (hk2 : k < 1000) (hl : 1 ≤ lim) (hl2 : lim ≤ 8)
    (hh : A.handled = none) (hd : A.depth + 1 < recursionLimit) (hu : A.units + 50 < cLine)
    (ret : ∀ r t h' tk' o1' o2', 0 ≤ r → r < lim → Fr h₀ L h' m → News h₀ L h' ((tp, o1') :: (cl, o2') :: l) → TapeO cl o1' o2' (k + 1) → Q (.int r t) { s with heap := h', toks := tk' }) :
    CallAt Challenge.rw_pb0235_01.row.prog w A (.ref 210) [.ref tp, .int lim lt] Q E s :=
  draw_F F (l := l) (o1 := o1) (o2 := o2) (fun p hp => N p (by
    rcases List.mem_cons.mp hp with rfl | hp
    · exact .head _
    · rw [List.mem_singleton.mp hp]; exact .tail _ (.head _))) (fun p hp => N p (.tail _ (.tail _ hp))) X T off hne hO hk hk2 hl hl2 hh hd hu
    fun r t h' tk' o1' o2' r0 r1 F' N1' N' O' => ret r t h' tk' o1' o2' r0 r1 F' (fun p hp => by
      rcases List.mem_cons.mp hp with rfl | hp
      · exact N1' _ (.head _)
      · rcases List.mem_cons.mp hp with rfl | hp
        · exact N1' _ (.tail _ (.head _))
        · exact N' p hp) O'
/-- drawing within a comprehension -/
theorem draw_C {w : World} {mean : ExcName → Option Value} {mg mb : Str → Option Value} {A : Around} {s : Shared} {Q E : Value → Shared → Prop} {h₀ : Heap} {L tp cl I C D : Addr} {m : Str → Option Value} {o1 o2 oI oC oD : Obj} {l : List (Addr × Obj)} {k lim : Int} {lt : Tok}
    (F : Fr h₀ L s.heap m) (N : News h₀ L s.heap ((I, oI) :: (C, oC) :: (D, oD) :: (tp, o1) :: (cl, o2) :: l)) (X : (Mine.hd.heap_39 w.params).In h₀) (T : Top Mine.hd.view_39 (looseW Mine.hd.view_39 [Str.ofString "LedgerError"]) mean mg mb h₀)
    (off3 : Off3 I C D ((tp, o1) :: (cl, o2) :: l)) (off : ∀ p ∈ l, @Ne Nat p.1 tp ∧ @Ne Nat p.1 cl) (hne : @Ne Nat tp cl) (hO : TapeO cl o1 o2 k) (hk : 0 ≤ k) (hk2 : k < 1000) (hl : 1 ≤ lim) (hl2 : lim ≤ 8)
    (hh : A.handled = none) (hd : A.depth + 1 < recursionLimit) (hu : A.units + 50 < cLine)
    (ret : ∀ r t h' tk' o1' o2', 0 ≤ r → r < lim → Fr h₀ L h' m → News h₀ L h' ((I, oI) :: (C, oC) :: (D, oD) :: (tp, o1') :: (cl, o2') :: l) → Off3 I C D ((tp, o1') :: (cl, o2') :: l) → TapeO cl o1' o2' (k + 1) → Q (.int r t) { s with heap := h', toks := tk' }) :
    CallAt Challenge.rw_pb0235_01.row.prog w A (.ref 210) [.ref tp, .int lim lt] Q E s := by
  have z := off3.mem
  have zt := z (tp, o1) (.head _)
  have zc := z (cl, o2) (.tail _ (.head _))
  refine draw_M (l := (I, oI) :: (C, oC) :: (D, oD) :: l) F (fun p hp => N p ?_) X T (fun p hp => ?_) hne hO hk hk2 hl hl2 hh hd hu fun r t h' tk' o1' o2' r0 r1 F' N' O' => ret r t h' tk' o1' o2' r0 r1 F' (fun p hp => N' p ?_) (Off3.of fun p hp => ?_) O'
  · simp only [List.mem_cons] at hp ⊢
    rcases hp with h | h | h | h | h | h <;> simp [h]
  · rcases List.mem_cons.mp hp with rfl | hp
    · exact ⟨Ne.symm zt.1, Ne.symm zc.1⟩
    · rcases List.mem_cons.mp hp with rfl | hp
      · exact ⟨Ne.symm zt.2.1, Ne.symm zc.2.1⟩
      · rcases List.mem_cons.mp hp with rfl | hp
        · exact ⟨Ne.symm zt.2.2, Ne.symm zc.2.2⟩
        · exact off p hp
  · simp only [List.mem_cons] at hp ⊢
    rcases hp with h | h | h | h | h | h <;> simp [h]
  · rcases List.mem_cons.mp hp with rfl | hp
    · exact zt
    · rcases List.mem_cons.mp hp with rfl | hp
      · exact zc
      · exact z p (.tail _ (.tail _ hp))
def CsAt (prog : Program) (w : World) (A : Around) (h₀ : Heap) (L : Addr) (m : Str → Option Value) (env : Env) (elt : PySem.Expr) (x : Str) (scope : Scope) (cl : List (Str × Addr)) (Fin : Shared → List Value → List (Addr × Obj) → Prop) (xv : Value) (s₁ : Shared) : Prop := LCg.CompSrc prog w A h₀ L m env elt x scope cl Fin xv s₁
theorem Cs_at {prog : Program} {w : World} {A : Around} {h₀ : Heap} {L : Addr} {m : Str → Option Value} {env : Env} {elt : PySem.Expr} {x : Str} {scope : Scope} {cl : List (Str × Addr)} {Fin : Shared → List Value → List (Addr × Obj) → Prop} {xv : Value} {s₁ : Shared} (h : CsAt prog w A h₀ L m env elt x scope cl Fin xv s₁) : LCg.CompSrc prog w A h₀ L m env elt x scope cl Fin xv s₁ := h
theorem range_facts {r : Int} (h0 : 0 ≤ r) (h1 : r < 9) : Builtin.Range.small 0 r 1 = true ∧ Builtin.Range.rangeSize 0 r 1 = ((r.toNat : Nat) : Int) := by
  obtain ⟨n, rfl⟩ := Int.eq_ofNat_of_zero_le h0
  have key : ∀ n : Nat, n < 9 → Builtin.Range.small 0 (n : Int) 1 = true ∧ Builtin.Range.rangeSize 0 (n : Int) 1 = ((((n : Int).toNat : Nat)) : Int) := by decide
  exact key n (Int.ofNat_lt.mp h1)
def lawNames : List Str := [Str.ofString "A", Str.ofString "B", Str.ofString "C-1", Str.ofString "D"]
def lawNames5 : List Str := [Str.ofString "A", Str.ofString "B", Str.ofString "C-1", Str.ofString "D", Str.ofString "E"]
/-- an item of a tuple that was made for this: it is let go -/
theorem item_tmp {prog : Program} {w : World} {A : Around} {E : Value → Shared → Prop} {s : Shared} {value slice : PySem.Expr} {a : Addr} {l : List Value} {ys : List Str} {k : Int} {u : Tok} {Q : Value → Shared → Prop} {o : Obj} {n : Nat} (he : s.heap.get? a = some o) (hc : o.cls = .type "tuple") (hd : o.data = .seq l.toArray n) (hi : StrsAre l ys)
    (h0 : 0 ≤ k) (hk : k < ys.length) (hfit : k < 2 ^ 63) (h : ∀ t', Q (.str (ys.getD k.toNat Str.empty) t') s)
    (hs : subscripted slice false (.ref a) (.int k u) = operate [.ref a, .int k u] (getItem (.ref a) (.int k u))) :
    wpAny (model prog w) A (subscriptTail value slice (.ref a) (.int k u)) Q E s := by
  have hlt : k.toNat < ys.length := (Int.toNat_lt h0).mpr hk
  have e : ys[k.toNat]? = some (ys.getD k.toNat Str.empty) := by simp [List.getD, hlt]
  obtain ⟨t, ht⟩ := hi.at e
  have hj : seqIndex? k l.length = some k.toNat := by
    rw [hi.len_eq]
    exact StrLaws.seqIndex_nonneg h0 hk
  refine subscriptTail_builtinR (T := "tuple") (x := .str (ys.getD k.toNat Str.empty) t) ⟨o, he, hc⟩ slot_tuple_getitem.lookup (getItem_tuple (j := k.toNat) (x := .str (ys.getD k.toNat Str.empty) t) ⟨o, he, hc, n, hd⟩ (Int.le_trans (by decide) h0) hfit (by simpa using hj) (by simpa using ht) ⟨rfl, h t⟩) hs
def CtAt (prog : Program) (w : World) (A : Around) (h₀ : Heap) (L : Addr) (m : Str → Option Value) (env : Env) (ct elt : PySem.Expr) (x : Str) (scope : Scope) (cl : List (Str × Addr)) (Fin : Shared → List Value → List (Addr × Obj) → Prop) (xv : Value) (s₁ : Shared) : Prop := LCt.CompSrcT prog w A h₀ L m env ct elt x scope cl Fin xv s₁
theorem Ct_at {prog : Program} {w : World} {A : Around} {h₀ : Heap} {L : Addr} {m : Str → Option Value} {env : Env} {ct elt : PySem.Expr} {x : Str} {scope : Scope} {cl : List (Str × Addr)} {Fin : Shared → List Value → List (Addr × Obj) → Prop} {xv : Value} {s₁ : Shared} (h : CtAt prog w A h₀ L m env ct elt x scope cl Fin xv s₁) : LCt.CompSrcT prog w A h₀ L m env ct elt x scope cl Fin xv s₁ := h
theorem ne_kind {h₀ h : Heap} {L a b : Addr} {l : List (Addr × Obj)} {o1 o2 : Obj} (N : News h₀ L h l) (h1 : (a, o1) ∈ l) (h2 : (b, o2) ∈ l) (hc : o1.cls ≠ o2.cls) : @Ne Nat a b := fun q => by
  have e1 := (N _ h1).1
  have e2 := (N _ h2).1
  rw [show a = b from q] at e1
  exact hc (congrArg Obj.cls (Option.some.inj (e1.symm.trans e2)))
theorem TapeO.cls {cl : Addr} {o1 o2 : Obj} {k : Int} (h : TapeO cl o1 o2 k) : o1.cls = .type "list" ∧ o2.cls = .type "list" := by
  obtain ⟨t, c1, vs, ns, c2, rfl, rfl, -⟩ := h; exact ⟨rfl, rfl⟩
end Mine
end
section
open PySem PySem.W PySem.Calls PyProof.Rows PyProof.V PySem.Spec PyProof.Rows.LCg PyProof.Rows.LCt
set_option Elab.async false
set_option maxRecDepth 100000
set_option maxHeartbeats 4000000
namespace Mine
theorem offPbPlain : True := by
  w_top off
  k_with_none
  trivial
/-! ### the plain law -/
theorem mem_restsStep {xss : List (List Str)} {n : Str} {r : List Str} : r ∈ restsStep xss n ↔ r ∈ xss ∨ ∃ x ∈ xss, r = x ++ [n] := by
  unfold restsStep
  constructor
  · intro h
    rcases List.mem_append.mp h with h | h
    · exact .inl h
    · obtain ⟨x, hx, rfl⟩ := List.mem_map.mp (List.mem_filter.mp h).1
      exact .inr ⟨x, hx, rfl⟩
  · rintro (h | ⟨x, hx, rfl⟩)
    · exact List.mem_append_left _ h
    · by_cases q : x ++ [n] ∈ xss
      · exact List.mem_append_left _ q
      · exact List.mem_append_right _ (List.mem_filter.mpr ⟨List.mem_map.mpr ⟨x, hx, rfl⟩, by simp [q]⟩)
theorem rev_ind {P : List Str → Prop} (h0 : P []) (hs : ∀ ns n, P ns → P (ns ++ [n])) : ∀ ns, P ns := by
  intro ns
  have : ∀ r : List Str, P r.reverse := by
    intro r
    induction r with
    | nil => exact h0
    | cons a r ih => rw [List.reverse_cons]; exact hs _ _ ih
  have h := this ns.reverse
  rwa [List.reverse_reverse] at h
theorem mem_rests_sublist (q : List Str) : ∀ ns, ∀ q, q ∈ restsL ns ↔ q.Sublist ns := by
  refine rev_ind (fun q => ?_) (fun ns n ih q => ?_)
  · show q ∈ [[]] ↔ _
    rw [List.mem_singleton, List.sublist_nil]
  · rw [restsL_snoc, mem_restsStep, List.sublist_append_iff]
    constructor
    · rintro (h | ⟨x, hx, rfl⟩)
      · exact ⟨q, [], (List.append_nil _).symm, (ih q).mp h, List.nil_sublist _⟩
      · exact ⟨x, [n], rfl, (ih x).mp hx, List.Sublist.refl _⟩
    · rintro ⟨a, b, rfl, ha, hb⟩
      have hl := hb.length_le
      cases b with
      | nil => left; rw [List.append_nil]; exact (ih a).mpr ha
      | cons c r =>
        right
        have hr : r = [] := by simp only [List.length_cons, List.length_nil] at hl; exact List.length_eq_zero_iff.mp (by omega)
        subst hr
        have hc : c = n := by simpa using hb.subset (List.mem_singleton.mpr rfl)
        subst hc
        exact ⟨a, (ih a).mpr ha, rfl⟩
theorem adv_snoc (qs ns : List Str) (n : Str) : adv qs (ns ++ [n]) 0 = if qs[adv qs ns 0]? = some n then adv qs ns 0 + 1 else adv qs ns 0 := by rw [adv_append]; rfl
theorem adv_le (qs : List Str) : ∀ ns, adv qs ns 0 ≤ qs.length := by
  refine rev_ind (Nat.zero_le _) (fun ns n ih => ?_)
  rw [adv_snoc]
  split
  · rename_i h
    exact (List.getElem?_eq_some_iff.mp h).1
  · exact ih
theorem take_adv (qs : List Str) : ∀ ns j, j ≤ qs.length → (qs.take j ∈ restsL ns ↔ j ≤ adv qs ns 0) := by
  refine rev_ind (fun j hj => ?_) (fun ns n ih j hj => ?_)
  · show qs.take j ∈ [[]] ↔ j ≤ 0
    rw [List.mem_singleton]
    constructor
    · intro h
      have := congrArg List.length h
      rw [List.length_take, List.length_nil, Nat.min_eq_left hj] at this
      exact Nat.le_of_eq this
    · intro h
      obtain rfl : j = 0 := Nat.le_zero.mp h
      rfl
  · rw [restsL_snoc, mem_restsStep, ih j hj, adv_snoc]
    have second : (∃ x ∈ restsL ns, qs.take j = x ++ [n]) ↔ ∃ i, j = i + 1 ∧ qs[i]? = some n ∧ i ≤ adv qs ns 0 := by
      constructor
      · rintro ⟨x, hx, e⟩
        have hl := congrArg List.length e
        rw [List.length_take, List.length_append, List.length_singleton, Nat.min_eq_left hj] at hl
        subst hl
        rw [← List.take_append_getElem (l := qs) (i := x.length) hj] at e
        have e3 := List.append_inj' e rfl
        refine ⟨x.length, rfl, ?_, ?_⟩
        · rw [List.getElem?_eq_getElem hj]; exact congrArg some (List.cons.inj e3.2).1
        · rw [← ih x.length (Nat.le_of_lt hj), e3.1]; exact hx
      · rintro ⟨i, rfl, h2, h3⟩
        refine ⟨qs.take i, (ih i (Nat.le_of_lt hj)).mpr h3, ?_⟩
        rw [← List.take_append_getElem (l := qs) (i := i) hj]
        congr 2
        rw [List.getElem?_eq_getElem hj] at h2
        exact Option.some.inj h2
    rw [second]
    by_cases h : qs[adv qs ns 0]? = some n
    · rw [if_pos h]
      constructor
      · rintro (z | ⟨i, rfl, _, z3⟩)
        · exact Nat.le_succ_of_le z
        · exact Nat.succ_le_succ z3
      · intro z
        rcases Nat.lt_or_ge (adv qs ns 0) j with y | y
        · exact .inr ⟨_, Nat.le_antisymm z y, h, Nat.le_refl _⟩
        · exact .inl y
    · rw [if_neg h]
      constructor
      · rintro (z | ⟨i, rfl, z2, z3⟩)
        · exact z
        · rcases Nat.lt_or_ge i (adv qs ns 0) with y | y
          · exact y
          · rw [Nat.le_antisymm z3 y] at z2
            exact absurd z2 h
      · exact .inl
theorem leads_iff (ns qs : List Str) : leads ns qs = true ↔ qs.Sublist ns := by
  have h1 := take_adv qs ns qs.length (Nat.le_refl _)
  have h2 := adv_le qs ns
  rw [List.take_length] at h1
  rw [← mem_rests_sublist qs ns qs, h1]
  unfold leads
  rw [decide_eq_true_eq]
  omega
theorem leads_rests (ns qs : List Str) : decide (qs ∈ restsL ns) = leads ns qs := by
  rw [Bool.eq_iff_iff, decide_eq_true_eq, leads_iff, mem_rests_sublist qs]
theorem leads_nil (ns : List Str) : leads ns [] = true := (leads_iff _ _).mpr (List.nil_sublist _)
theorem leads_self (ns : List Str) : leads ns ns = true := (leads_iff _ _).mpr (List.Sublist.refl _)
theorem leads_alien {ns qs : List Str} {e : Str} (h1 : e ∈ qs) (h2 : e ∉ ns) : leads ns qs = false := by
  cases h : leads ns qs with
  | false => rfl
  | true => exact absurd (((leads_iff _ _).mp h).subset h1) h2
theorem leads_long {ns qs : List Str} (h : ns.length < qs.length) : leads ns qs = false := by
  cases z : leads ns qs with
  | false => rfl
  | true => exact absurd ((leads_iff _ _).mp z).length_le (Nat.not_le_of_lt h)
theorem leads_between {ns qs : List Str} (h : qs.Sublist ns) (k : Nat) (x : Str) : leads (ns.take k ++ [x] ++ ns.drop k) qs = true := by
  refine (leads_iff _ _).mpr (h.trans ?_)
  have : (ns.take k ++ ns.drop k).Sublist (ns.take k ++ [x] ++ ns.drop k) := List.Sublist.append (List.sublist_append_left _ _) (List.Sublist.refl _)
  rwa [List.take_append_drop] at this
theorem names5_ok : ∀ z ∈ lawNames5, PyData.strOk z = true := by
  intro z hz
  simp only [lawNames5, List.mem_cons, List.not_mem_nil, or_false] at hz
  rcases hz with rfl | rfl | rfl | rfl | rfl <;> decide +kernel
theorem names_sub : ∀ z ∈ lawNames, z ∈ lawNames5 := by
  intro z hz
  simp only [lawNames, lawNames5, List.mem_cons, List.not_mem_nil, or_false] at hz ⊢
  rcases hz with rfl | rfl | rfl | rfl <;> simp
theorem names4_ne (e : Str) (h1 : e ≠ Str.ofString "A") (h2 : e ≠ Str.ofString "B") (h3 : e ≠ Str.ofString "C-1") (h4 : e ≠ Str.ofString "D") : e ∉ lawNames := by
  simp only [lawNames, List.mem_cons, List.not_mem_nil, or_false, not_or]
  exact ⟨h1, h2, h3, h4⟩
abbrev tupO (vs : List Value) : Obj := { cls := .type "tuple", data := .seq vs.toArray }
theorem in_law {prog : Program} {w : World} {A : Around} {E : Value → Shared → Prop} {s : Shared} {h₀ : Heap} {L Wt RR : Addr} {l news : List (Addr × Obj)} {qvs ws : List Value} {nms qms : List Str} {c : Nat} {Q : Value → Shared → Prop}
    (N : News h₀ L s.heap l) (hW : (Wt, tupO qvs) ∈ l) (hR : (RR, listOf ws.toArray c) ∈ l) (hn : ∀ p ∈ news, p ∈ l) (hT : TupsIn news ws (restsL nms)) (hq : StrsAre qvs qms)
    (okn : ∀ z ∈ nms, PyData.strOk z = true) (okq : ∀ z ∈ qms, PyData.strOk z = true) (hu : A.units + 20 < cLine) (h : Q (.bool (leads nms qms)) s) :
    wpAny (model prog w) A (compareOp .In (.ref Wt) (.ref RR)) Q E s := by
  have Nn : News h₀ L s.heap news := fun p hp => N p (hn p hp)
  refine in_tups (xss := restsL nms) (xs := qms) (.list (N _ hR).1 rfl rfl (by simpa using hT.reads Nn)) (.tuple (N _ hW).1 rfl rfl (by simpa using hq.reads s.heap)) (restsL_ok okn) okq hu ?_
  rw [leads_rests]; exact h
end Mine
end
section
open PySem PySem.W PySem.Calls PyProof.Rows PyProof.V PySem.Spec PyProof.Rows.LCg PyProof.Rows.LCt
set_option Elab.async false
set_option maxRecDepth 100000
set_option maxHeartbeats 4000000
namespace Mine
theorem offPbSl : True := by
  w_top off
  k_with_none
  trivial
/-! ### slices of lists and tuples of the ledger -/
theorem max_min_nat {x : Int} {n : Nat} (h : 0 ≤ x) : max 0 (min x (n : Int)) = ((min x.toNat n : Nat) : Int) := by
  obtain ⟨k, rfl⟩ := Int.eq_ofNat_of_zero_le h
  rw [Int.toNat_natCast]
  rcases Nat.le_total k n with q | q
  · rw [Nat.min_eq_left q, Int.min_eq_left (Int.ofNat_le.mpr q), Int.max_eq_right h]
  · rw [Nat.min_eq_right q, Int.min_eq_right (Int.ofNat_le.mpr q), Int.max_eq_right (Int.natCast_nonneg n)]
theorem pick_drop {vs : List Value} {x : Int} (h : 0 ≤ x) : slicePick vs.toArray (some x) none none = (vs.drop x.toNat).toArray := by
  have e : sliceBounds (some x) none none vs.toArray.size = (((min x.toNat vs.toArray.size : Nat) : Int), ((vs.toArray.size : Nat) : Int), 1) := by
    simp only [sliceBounds, Option.getD_none, show (1 : Int) > 0 by decide, if_true, if_neg (Int.not_lt.mpr h)]
    congr 1
    exact max_min_nat h
  rw [kmk_pick_nat _ e, List.size_toArray, kmk_drop_min, List.take_of_length_le (by rw [List.length_drop]; exact Nat.sub_le_sub_left (Nat.min_le_left _ _) _)]
theorem pick_take {vs : List Value} {y : Int} (h : 0 ≤ y) : slicePick vs.toArray none (some y) none = (vs.take y.toNat).toArray := by
  have e : sliceBounds none (some y) none vs.toArray.size = (((0 : Nat) : Int), ((min y.toNat vs.toArray.size : Nat) : Int), 1) := by
    simp only [sliceBounds, Option.getD_none, show (1 : Int) > 0 by decide, if_true, if_neg (Int.not_lt.mpr h)]
    congr 1
    congr 1
    omega
  rw [kmk_pick_nat _ e]
  rw [List.drop_zero, Nat.sub_zero, List.size_toArray, kmk_take_min]
section
variable {prog : Program} {w : World} {A : Around} {E : Value → Shared → Prop} {s : Shared} {h₀ : Heap} {L : Addr} {m : Str → Option Value} {news : List (Addr × Obj)} {value slice : PySem.Expr} {vs : List Value} {Q : Value → Shared → Prop} {l : Addr}
theorem lslice_drop {x : Int} {u : Tok} {c : Nat} (F : Fr h₀ L s.heap m) (N : News h₀ L s.heap news) (hm : (l, listOf vs.toArray c) ∈ news) (h0 : 0 ≤ x) (hz : vs.length ≤ sizeLine)
    (h : ∀ D h', Fr h₀ L h' m → News h₀ L h' ((D, listOf (vs.drop x.toNat).toArray 0) :: news) → (∀ p ∈ news, @LT.lt Nat _ p.1 D) → Q (.ref D) { s with heap := h' })
    (hs : subscripted slice false (.ref l) (.ref s.heap.objs.size) = operate [.ref s.heap.objs.size, .ref l] (getItem (.ref l) (.ref s.heap.objs.size))) (ht : ∀ r, letTemporaryGo value (.ref l) r = pure ()) :
    wpAny (model prog w) A (subscriptTail value slice (.ref l) (.ref s.heap.objs.size)) Q E { s with heap := s.heap.push { cls := .type "slice", data := .fields #[.int x u, .none, .none] } } :=
  slice_list F N (News.isList N hm) (.int _ _) .none (fun h' F' N' => h _ h' F' (by rw [pick_drop h0] at N'; exact N') (fun p hp => Nat.lt_succ_of_lt (Heap.lt_size (N p hp).1))) hs ht (by simpa using hz)
theorem lslice_take {x : Int} {u : Tok} {c : Nat} (F : Fr h₀ L s.heap m) (N : News h₀ L s.heap news) (hm : (l, listOf vs.toArray c) ∈ news) (h0 : 0 ≤ x) (hz : vs.length ≤ sizeLine)
    (h : ∀ D h', Fr h₀ L h' m → News h₀ L h' ((D, listOf (vs.take x.toNat).toArray 0) :: news) → (∀ p ∈ news, @LT.lt Nat _ p.1 D) → Q (.ref D) { s with heap := h' })
    (hs : subscripted slice false (.ref l) (.ref s.heap.objs.size) = operate [.ref s.heap.objs.size, .ref l] (getItem (.ref l) (.ref s.heap.objs.size))) (ht : ∀ r, letTemporaryGo value (.ref l) r = pure ()) :
    wpAny (model prog w) A (subscriptTail value slice (.ref l) (.ref s.heap.objs.size)) Q E { s with heap := s.heap.push { cls := .type "slice", data := .fields #[.none, .int x u, .none] } } :=
  slice_list F N (News.isList N hm) .none (.int _ _) (fun h' F' N' => h _ h' F' (by rw [pick_take h0] at N'; exact N') (fun p hp => Nat.lt_succ_of_lt (Heap.lt_size (N p hp).1))) hs ht (by simpa using hz)
theorem ladd {b : Addr} {ws : List Value} {c d : Nat} (F : Fr h₀ L s.heap m) (N : News h₀ L s.heap news) (hm : (l, listOf vs.toArray c) ∈ news) (hm2 : (b, listOf ws.toArray d) ∈ news) (hz : vs.length + ws.length ≤ sizeLine)
    (h : ∀ D h', Fr h₀ L h' m → News h₀ L h' ((D, listOf (vs ++ ws).toArray 0) :: news) → (∀ p ∈ news, @LT.lt Nat _ p.1 D) → Q (.ref D) { s with heap := h' }) :
    wpAny (model prog w) A (binaryOp .Add (.ref l) (.ref b)) Q E s :=
  add_lists F N (News.isList N hm) (News.isList N hm2) (fun h' F' N' => h _ h' F' N' fun p hp => Heap.lt_size (N p hp).1) hz
theorem tadd {b : Addr} {ws : List Value} (F : Fr h₀ L s.heap m) (N : News h₀ L s.heap news) (hm : (l, tupO vs) ∈ news) (hm2 : (b, tupO ws) ∈ news) (hz : vs.length + ws.length ≤ sizeLine)
    (h : ∀ D h', Fr h₀ L h' m → News h₀ L h' ((D, tupO (vs ++ ws)) :: news) → Q (.ref D) { s with heap := h' }) :
    wpAny (model prog w) A (binaryOp .Add (.ref l) (.ref b)) Q E s := by
  refine add_tuples F N ⟨_, (N _ hm).1, rfl, _, rfl⟩ ⟨_, (N _ hm2).1, rfl, _, rfl⟩ (fun e => ?_) (fun _ e => ?_) (fun _ _ h' F' N' => h _ h' F' N') hz
  · subst e
    refine h _ _ F (fun p hp => ?_)
    rcases List.mem_cons.mp hp with rfl | hp
    · exact N _ hm2
    · exact N _ hp
  · subst e
    refine h _ _ F (fun p hp => ?_)
    rcases List.mem_cons.mp hp with rfl | hp
    · rw [List.append_nil]; exact N _ hm
    · exact N _ hp
theorem adjust_to (b n : Nat) (hb : b ≤ n) : Builtin.Slice.sliceAdjust none (some (b : Int)) 1 (n : Int) = (0, (b : Int)) := by
  unfold Builtin.Slice.sliceAdjust
  have h1 : ¬ ((1 : Int) < 0) := by decide
  have h2 : ¬ ((b : Int) < 0) := Int.not_lt.mpr (Int.natCast_nonneg b)
  simp only [h1, h2, if_false]
  congr 1
  exact Int.min_eq_left (Int.ofNat_le.mpr hb)
theorem places_to (b : Nat) : Builtin.Slice.slicePlaces 0 (b : Int) 1 = b := by
  have := places_from 0 b (Nat.zero_le _)
  simpa using this
theorem sliceApplied_to {sl : Addr} {b n : Nat} {u : Tok} {Q : Int × Int × Nat → Shared → Prop} (hs : s.heap.IsSliceOf sl .none (.int b u) .none) (hb : b ≤ n) (h : Q (0, 1, b) s) :
    wpAny (model prog w) A (Builtin.Slice.sliceApplied (.ref sl) (pure (n : Int))) Q E s := by
  obtain ⟨os, hos, hcs, hds⟩ := id hs
  unfold Builtin.Slice.sliceApplied Builtin.Slice.sliceFields
  refine wpAny_bind (wpAny_bind (wpAny_field hos hds (x := .none) rfl (wpAny_bind (wpAny_field hos hds (x := .int b u) rfl (wpAny_bind (wpAny_field hos hds (x := .none) rfl (wpAny_pure ?_)))))))
  refine wpAny_bind (slicePart_none ?_)
  show wpAny _ _ (if ((1 : Int) == 0) = true then _ else _) _ _ s
  rw [if_neg (by decide)]
  refine wpAny_bind (slicePart_none (wpAny_bind (slicePart_int (wpAny_bind (wpAny_pure ?_)))))
  show wpAny _ _ (match Builtin.Slice.sliceAdjust none (some (b : Int)) 1 (n : Int) with | (lo, hi) => pure (lo, (1 : Int), Builtin.Slice.slicePlaces lo hi 1)) _ _ s
  rw [adjust_to b n hb]
  show wpAny _ _ (pure ((0 : Int), (1 : Int), Builtin.Slice.slicePlaces 0 (b : Int) 1)) _ _ s
  rw [places_to b]
  exact wpAny_pure h
theorem pick_run0 (xs : Array Value) (a b : Nat) : ((List.range b).filterMap fun (k : Nat) => xs[((a : Int) + (k : Int) * 1).toNat]?).toArray = ((xs.toList.drop a).take b).toArray := by
  have e : (fun (k : Nat) => xs[((a : Int) + (k : Int) * 1).toNat]?) = fun k => xs[a + k]? := by
    funext k
    have : ((a : Int) + (k : Int) * 1).toNat = a + k := by rw [Int.mul_one]; rfl
    rw [this]
  rw [e]
  have := pick_run xs a b
  rw [List.filterMap_map] at this
  have e2 : ((fun x => xs[x]?) ∘ fun x => a + x) = fun k => xs[a + k]? := rfl
  rw [e2] at this
  rw [this]
/-- a slice of a tuple: the whole one is the same object -/
theorem getItem_tupSl {t sl : Addr} {items : Array Value} {a b : Nat} {v1 v2 : Value} {Q : Value → Shared → Prop} (ht : IsTup s.heap t items) (hs : s.heap.IsSliceOf sl v1 v2 .none)
    (hap : ∀ (Q' : Int × Int × Nat → Shared → Prop) (A' : Around), Q' ((a : Int), 1, b) s → wpAny (model prog w) A' (Builtin.Slice.sliceApplied (.ref sl) (pure (items.size : Int))) Q' E s) (hb : b ≤ items.size)
    (hw : a = 0 → b = items.size → Q (.ref t) s)
    (h : Q (.ref s.heap.objs.size) { s with heap := s.heap.push { cls := .type "tuple", data := .seq ((items.toList.drop a).take b).toArray } })
    (hsz : items.size ≤ sizeLine) : wpAny (model prog w) A (getItem (.ref t) (.ref sl)) Q E s := by
  have hdrop : sizeOk (.seq ((items.toList.drop a).take b).toArray) := by
    show ((items.toList.drop a).take b).toArray.size ≤ sizeLine
    rw [List.size_toArray, List.length_take]
    exact Nat.le_trans (Nat.min_le_left _ _) (Nat.le_trans hb hsz)
  obtain ⟨os, hos, hcs, hds⟩ := id hs
  have hTs : s.TypeIs (.ref sl) "slice" := ⟨os, hos, hcs⟩
  unfold getItem
  try with_reducible refine wpAny_holding ?_
  first | refine wpAny_bind (wpAny_pure ?_) | skip
  refine wpAny_bind (wpAny_sequenceKey ht.typeIs (by decide) ?_)
  refine wpAny_bind (wpAny_callSpecial?_slot (name := Str.ofString "__getitem__") ht.typeIs slot_tuple_getitem
    (wpAny_call_entry slot_tuple_getitem ht.typeIs entry_tuple_getitem ?_ (args_tuple_getitem _ _)))
  show wpAny _ _ (Builtin.Tuple.tupleItemsOf (.ref t) >>= _) _ _ s
  refine wpAny_bind (tupleItemsOf_ ht ?_)
  refine wpAny_bind (wpAny_typeOf hTs ?_)
  rw [if_pos (by decide)]
  refine wpAny_bind (hap _ _ ?_)
  show wpAny _ _ (if ((a : Int) == 0 && (1 : Int) == 1 && b == items.size) = true then _ else _) _ _ s
  by_cases hno : a = 0 ∧ b = items.size
  · obtain ⟨rfl, rfl⟩ := hno
    rw [if_pos (by simp)]
    have hTt : s.TypeIs (.ref t) "tuple" := ht.typeIs
    unfold Builtin.Tuple.tupleIsExact
    refine wpAny_bind (wpAny_bind (wpAny_typeOf hTt (wpAny_pure ?_)))
    rw [if_pos (by decide)]
    first
      | exact wpAny_bind (wpAny_rule (wpAny_pure ⟨_, rfl, wpAny_pure (hw rfl rfl)⟩))
      | exact wpAny_bind (wpAny_pure ⟨_, rfl, wpAny_pure (hw rfl rfl)⟩)
      | exact wpAny_pure ⟨_, rfl, wpAny_pure (hw rfl rfl)⟩
  · rw [if_neg (by simp; omega), pick_run0 items a b]
    first
      | exact wpAny_bind (m := Builtin.Tuple.tupleExact _) (wpAny_newObj_type (wpAny_pure ⟨_, rfl, wpAny_pure h⟩) hdrop)
      | exact wpAny_bind (m := Builtin.Tuple.tupleExact _) (wpAny_newObj_type (wpAny_bind (wpAny_pure (wpAny_pure ⟨_, rfl, wpAny_pure h⟩))) hdrop)
      | exact wpAny_bind (wpAny_bind (m := Builtin.Tuple.tupleExact _) (wpAny_newObj_type (wpAny_pure (wpAny_pure ⟨_, rfl, wpAny_pure h⟩)) hdrop))
      | exact wpAny_bind (wpAny_bind (m := Builtin.Tuple.tupleExact _) (wpAny_newObj_type (wpAny_pure ⟨_, rfl, wpAny_pure h⟩) hdrop))
theorem tslice_any {lo hi : Value} {a b : Nat} (F : Fr h₀ L s.heap m) (N : News h₀ L s.heap news) (hm : (l, tupO vs) ∈ news)
    (hap : ∀ (Q' : Int × Int × Nat → Shared → Prop) (E' : Value → Shared → Prop) (A' : Around) (s' : Shared) (sl : Addr), s'.heap.IsSliceOf sl lo hi .none → Q' ((a : Int), 1, b) s' → wpAny (model prog w) A' (Builtin.Slice.sliceApplied (.ref sl) (pure (vs.length : Int))) Q' E' s') (hb : b ≤ vs.length) (hz : vs.length ≤ sizeLine)
    (h : ∀ D h', Fr h₀ L h' m → News h₀ L h' ((D, tupO ((vs.drop a).take b)) :: news) → Q (.ref D) { s with heap := h' })
    (hs : subscripted slice false (.ref l) (.ref s.heap.objs.size) = operate [.ref s.heap.objs.size, .ref l] (getItem (.ref l) (.ref s.heap.objs.size))) (hg : ∀ r, letTemporaryGo value (.ref l) r = pure ()) :
    wpAny (model prog w) A (subscriptTail value slice (.ref l) (.ref s.heap.objs.size)) Q E { s with heap := s.heap.push { cls := .type "slice", data := .fields #[lo, hi, .none] } } := by
  have ht : IsTup s.heap l vs.toArray := ⟨_, (N _ hm).1, rfl, _, rfl⟩
  have ht' : IsTup (s.heap.push { cls := .type "slice", data := .fields #[lo, hi, .none] }) l vs.toArray := ht.keeps fun _ _ e => Heap.get?_push_of_some _ e
  have N0 : News h₀ L (s.heap.push { cls := .type "slice", data := .fields #[lo, hi, .none] }) news := N.grown fun _ _ e => Heap.get?_push_of_some _ e
  refine subscriptTail_ops (s := { s with heap := s.heap.push { cls := .type "slice", data := .fields #[lo, hi, .none] } }) ht'.typeIs slot_tuple_getitem.lookup
    (getItem_tupSl (a := a) (b := b) ht' (Heap.IsSliceOf.new ..) (fun Q' A' q => by rw [List.size_toArray]; exact hap Q' _ _ _ _ (Heap.IsSliceOf.new ..) q) (by simpa using hb) (fun ea eb => ?_) ?_ (by simpa using hz)) hs hg
  · subst ea
    rw [List.size_toArray] at eb
    subst eb
    refine h _ _ (F.push _) (fun p hp => ?_)
    rcases List.mem_cons.mp hp with rfl | hp
    · rw [List.drop_zero, List.take_length]; exact N0 _ hm
    · exact N0 _ hp
  · exact h _ _ ((F.push _).push _) (News.push (F.push { cls := .type "slice", data := .fields #[lo, hi, .none] }) N0 _)
theorem tslice_drop {x : Int} {u : Tok} (F : Fr h₀ L s.heap m) (N : News h₀ L s.heap news) (hm : (l, tupO vs) ∈ news) (h0 : 0 ≤ x) (hx : x ≤ vs.length) (hz : vs.length ≤ sizeLine)
    (h : ∀ D h', Fr h₀ L h' m → News h₀ L h' ((D, tupO (vs.drop x.toNat)) :: news) → Q (.ref D) { s with heap := h' })
    (hs : subscripted slice false (.ref l) (.ref s.heap.objs.size) = operate [.ref s.heap.objs.size, .ref l] (getItem (.ref l) (.ref s.heap.objs.size))) (hg : ∀ r, letTemporaryGo value (.ref l) r = pure ()) :
    wpAny (model prog w) A (subscriptTail value slice (.ref l) (.ref s.heap.objs.size)) Q E { s with heap := s.heap.push { cls := .type "slice", data := .fields #[.int x u, .none, .none] } } := by
  obtain ⟨k, rfl⟩ := Int.eq_ofNat_of_zero_le h0
  refine tslice_any (a := k) (b := vs.length - k) F N hm (fun Q' E' A' s' sl hsl q => sliceApplied_from hsl (Int.ofNat_le.mp hx) q) (Nat.sub_le _ _) hz (fun D h' F' N' => h D h' F' ?_) hs hg
  rw [List.take_of_length_le (Nat.le_of_eq List.length_drop)] at N'
  exact N'
theorem tslice_take {x : Int} {u : Tok} (F : Fr h₀ L s.heap m) (N : News h₀ L s.heap news) (hm : (l, tupO vs) ∈ news) (h0 : 0 ≤ x) (hx : x ≤ vs.length) (hz : vs.length ≤ sizeLine)
    (h : ∀ D h', Fr h₀ L h' m → News h₀ L h' ((D, tupO (vs.take x.toNat)) :: news) → Q (.ref D) { s with heap := h' })
    (hs : subscripted slice false (.ref l) (.ref s.heap.objs.size) = operate [.ref s.heap.objs.size, .ref l] (getItem (.ref l) (.ref s.heap.objs.size))) (hg : ∀ r, letTemporaryGo value (.ref l) r = pure ()) :
    wpAny (model prog w) A (subscriptTail value slice (.ref l) (.ref s.heap.objs.size)) Q E { s with heap := s.heap.push { cls := .type "slice", data := .fields #[.none, .int x u, .none] } } := by
  obtain ⟨k, rfl⟩ := Int.eq_ofNat_of_zero_le h0
  exact tslice_any (a := 0) (b := k) F N hm (fun Q' E' A' s' sl hsl q => sliceApplied_to hsl (Int.ofNat_le.mp hx) q) (Int.ofNat_le.mp hx) hz (fun D h' F' N' => h D h' F' N') hs hg
end
def SubAt (prog : Program) (w : World) (A : Around) (value slice : PySem.Expr) (v k : Value) (Q : Value → Shared → Prop) (E : Value → Shared → Prop) (s : Shared) : Prop := wpAny (model prog w) A (subscriptTail value slice v k) Q E s
theorem Sub_at {prog : Program} {w : World} {A : Around} {value slice : PySem.Expr} {v k : Value} {Q : Value → Shared → Prop} {E : Value → Shared → Prop} {s : Shared} (h : SubAt prog w A value slice v k Q E s) : wpAny (model prog w) A (subscriptTail value slice v k) Q E s := h
theorem Sub_go {prog : Program} {w : World} {A : Around} {value slice : PySem.Expr} {v k : Value} {Q : Value → Shared → Prop} {E : Value → Shared → Prop} {s : Shared} (h : wpAny (model prog w) A (subscriptTail value slice v k) Q E s) : SubAt prog w A value slice v k Q E s := h
def AddAt (prog : Program) (w : World) (A : Around) (v k : Value) (Q : Value → Shared → Prop) (E : Value → Shared → Prop) (s : Shared) : Prop := wpAny (model prog w) A (binaryOp .Add v k) Q E s
theorem Add_at {prog : Program} {w : World} {A : Around} {v k : Value} {Q : Value → Shared → Prop} {E : Value → Shared → Prop} {s : Shared} (h : AddAt prog w A v k Q E s) : wpAny (model prog w) A (binaryOp .Add v k) Q E s := h
theorem Add_go {prog : Program} {w : World} {A : Around} {v k : Value} {Q : Value → Shared → Prop} {E : Value → Shared → Prop} {s : Shared} (h : wpAny (model prog w) A (binaryOp .Add v k) Q E s) : AddAt prog w A v k Q E s := h
/-! ### short ledger and number lemmas: they keep the compiled file small -/
theorem Nc {h₀ h : Heap} {L : Addr} {l l2 : List (Addr × Obj)} {p : Addr × Obj} (m : p ∈ l) (N : News h₀ L h l) (r : News h₀ L h l2) : News h₀ L h (p :: l2) := fun q hq => by
  rcases List.mem_cons.mp hq with rfl | hq
  · exact N _ m
  · exact r q hq
theorem Mc {l l2 : List (Addr × Obj)} {p : Addr × Obj} (m : p ∈ l) (r : ∀ q ∈ l2, q ∈ l) : ∀ q ∈ p :: l2, q ∈ l := fun q hq => by
  rcases List.mem_cons.mp hq with rfl | hq
  · exact m
  · exact r q hq
theorem Mn {l : List (Addr × Obj)} : ∀ q ∈ ([] : List (Addr × Obj)), q ∈ l := fun _ h => nomatch h
theorem ar_lt {k : Int} (h : k ≤ 30) : k < 1000 := Int.lt_of_le_of_lt h (by decide)
theorem ar_lt1 {k : Int} (h : k ≤ 30) : k + 1 < 1000 := Int.lt_of_le_of_lt (Int.add_le_add_right h 1) (by decide)
theorem ar_lt2 {k : Int} (h : k ≤ 30) : k + 1 + 1 < 1000 := Int.lt_of_le_of_lt (Int.add_le_add_right (Int.add_le_add_right h 1) 1) (by decide)
theorem ar_nn1 {k : Int} (h : 0 ≤ k) : 0 ≤ k + 1 := Int.add_nonneg h (by decide)
theorem ar_nn2 {k : Int} (h : 0 ≤ k) : 0 ≤ k + 1 + 1 := ar_nn1 (ar_nn1 h)
theorem ar_l1 {n : Nat} : (1 : Int) ≤ (n : Int) + 1 := Int.le_add_of_nonneg_left (Int.natCast_nonneg n)
theorem ar_l2 {n : Nat} (h : n ≤ 7) : (n : Int) + 1 ≤ 8 := Int.add_le_add_right (Int.ofNat_le.mpr h) 1
theorem ar_cu {c : Int} {m n : Nat} (h : c < (m : Int) + 1) (e : n = m) : c ≤ (n : Int) := by rw [e]; exact Int.le_of_lt_add_one h
theorem ar_n1 {r : Int} (h : r < 4) : r < (lawNames.length : Int) := h
theorem ar_n2 {r : Int} (h : r < 4) : r < 2 ^ 63 := Int.lt_trans h (by decide)
theorem ar_m1 {r : Int} (h : r < 5) : r < (lawNames5.length : Int) := h
theorem ar_m2 {r : Int} (h : r < 5) : r < 2 ^ 63 := Int.lt_trans h (by decide)
theorem names_mem {r : Int} (h : r < 4) : lawNames.getD r.toNat Str.empty ∈ lawNames := by
  rw [List.getD_eq_getElem?_getD, List.getElem?_eq_getElem (by rw [show lawNames.length = 4 from rfl]; omega)]
  exact List.getElem_mem _
theorem names5_mem {r : Int} (h : r < 5) : lawNames5.getD r.toNat Str.empty ∈ lawNames5 := by
  rw [List.getD_eq_getElem?_getD, List.getElem?_eq_getElem (by rw [show lawNames5.length = 5 from rfl]; omega)]
  exact List.getElem_mem _
theorem sz_8 {n : Nat} (h : n ≤ 8) : n ≤ sizeLine := by rw [sizeLine_eq]; exact Nat.le_trans h (by decide)
theorem tk_len {k n : Nat} : min k n + 1 + (n - k) = n + 1 := by omega
theorem ins_a {α : Type} {l : List α} {k : Nat} {e : List α} (h : l.length ≤ 8) (h1 : e.length = 1) : (l.take k).length + e.length ≤ sizeLine := by
  rw [sizeLine_eq, List.length_take, h1]; exact Nat.le_trans (Nat.succ_le_succ (Nat.le_trans (Nat.min_le_right _ _) h)) (by decide)
theorem ins_b {α : Type} {l : List α} {k : Nat} {e : List α} (h : l.length ≤ 8) (h1 : e.length = 1) : (l.take k ++ e).length + (l.drop k).length ≤ sizeLine := by
  rw [sizeLine_eq, List.length_append, List.length_take, List.length_drop, h1, tk_len]; exact Nat.le_trans (Nat.succ_le_succ h) (by decide)
theorem ins_c {α : Type} {l : List α} {e : List α} (h : l.length ≤ 8) (h1 : e.length = 1) : l.length + e.length ≤ sizeLine := by
  rw [sizeLine_eq, h1]; exact Nat.le_trans (Nat.succ_le_succ h) (by decide)
theorem ins_len {α : Type} {l : List α} {k : Nat} {x : α} {b : Nat} (h : l.length ≤ b) : (l.take k ++ [x] ++ l.drop k).length ≤ b + 1 := by
  rw [List.length_append, List.length_append, List.length_take, List.length_drop]
  exact Nat.le_trans (Nat.le_of_eq tk_len) (Nat.succ_le_succ h)
theorem add_len {α : Type} {l : List α} {x : α} {b : Nat} (h : l.length ≤ b) : (l ++ [x]).length ≤ b + 1 := by
  rw [List.length_append]; exact Nat.succ_le_succ h
theorem le_k {n : Nat} (h : n ≤ 9) : n ≤ 1000 := Nat.le_trans h (by decide)
theorem le_8 {n : Nat} (h : n ≤ 7) : n ≤ 8 := Nat.le_succ_of_le h
theorem le_9 {n : Nat} (h : n ≤ 8) : n ≤ 9 := Nat.le_succ_of_le h
theorem ar_t7 {r : Int} (h0 : 0 ≤ r) (h : r < 8) : r.toNat ≤ 7 := Int.toNat_le.mpr (Int.le_of_lt_add_one (b := 7) h)
theorem ar_k4 {k : Int} {n : Nat} (h : k ≤ 20) (h2 : n ≤ 8) : k + (n : Int) ≤ 30 := Int.le_trans (Int.add_le_add h (Int.ofNat_le.mpr h2)) (by decide)
theorem ar_k5 {k : Int} {n : Nat} (h : 0 ≤ k) : 0 ≤ k + (n : Int) := Int.add_nonneg h (Int.natCast_nonneg n)
theorem ar_s {a : Int} {i : Nat} : a + ((i + 1 : Nat) : Int) = a + i + 1 := (Int.add_assoc a i 1).symm
theorem ar_p1 {n : Nat} : 0 ≤ (1 : Int) + n := Int.natCast_nonneg (1 + n)
theorem ar_p2 {n i : Nat} : 0 ≤ (1 : Int) + n + 1 + i := Int.natCast_nonneg (1 + n + 1 + i)
theorem ar_q1 {i : Nat} {r : Int} (h : i < r.toNat) (h0 : 0 ≤ r) (h1 : r < 8) : (1 : Int) + i < 1000 :=
  Int.lt_of_le_of_lt (Int.add_le_add_left (Int.ofNat_le.mpr (Nat.le_trans (Nat.le_of_lt h) (ar_t7 h0 h1))) 1) (by decide)
theorem ar_k9 {r : Int} (h0 : 0 ≤ r) (h1 : r < 8) : (1 : Int) + ((r.toNat : Nat) : Int) ≤ 9 :=
  Int.le_trans (Int.add_le_add_left (Int.ofNat_le.mpr (ar_t7 h0 h1)) 1) (by decide)
theorem ar_t5 {r : Int} (h0 : 0 ≤ r) (h : r < 5) : r.toNat ≤ 5 := Int.toNat_le.mpr (Int.le_of_lt h)
theorem ar_l9 {a : Int} (h : a ≤ 9) : a < 1000 := Int.lt_of_le_of_lt h (by decide)
theorem ar_p3 {n i k : Nat} (h : (1 : Int) + n ≤ 9) (hi : i < k) (hk : k ≤ 5) : (1 : Int) + n + 1 + i < 1000 :=
  Int.lt_of_le_of_lt (Int.add_le_add (Int.add_le_add_right h 1) (Int.ofNat_le.mpr (Nat.le_trans (Nat.le_of_lt hi) hk))) (by decide)
theorem ar_k2 {n k : Nat} (h : (1 : Int) + n ≤ 9) (hk : k ≤ 5) : (1 : Int) + n + 1 + k ≤ 20 :=
  Int.le_trans (Int.add_le_add (Int.add_le_add_right h 1) (Int.ofNat_le.mpr hk)) (by decide)
theorem ar_j {k : Int} {j n : Nat} (h : k ≤ 20) (hj : j < n) (hn : n ≤ 8) : k + (j : Int) < 1000 :=
  Int.lt_of_le_of_lt (Int.add_le_add h (Int.ofNat_le.mpr (Nat.le_trans (Nat.le_of_lt hj) hn))) (by decide)
theorem ar_16 {n : Nat} (h : n ≤ 8) : ((n : Nat) : Int) ≤ 16384 := Int.le_trans (Int.ofNat_le.mpr h) (by decide)
end Mine
end
section
open PySem PySem.W PySem.Calls PyProof.Rows PyProof.V PySem.Spec PyProof.Rows.LCg PyProof.Rows.LCt
set_option Elab.async false
set_option maxRecDepth 100000
set_option maxHeartbeats 8000000
namespace Mine
theorem offPbLaw : True := by
  w_top off
  k_with_none
  trivial
local macro_rules | `(tactic| walk_at "call ref") => `(tactic| (k_dflt (refine Call_at ?_)))
local macro_rules | `(tactic| walk_at "eval ListComp") => `(tactic| (k_dflt (refine Ev_at ?_)))
local macro_rules | `(tactic| walk_at "CompSrc") => `(tactic| (k_dflt (refine Cs_at ?_)))
local macro_rules | `(tactic| walk_at "CompSrcT") => `(tactic| (k_dflt (refine Ct_at ?_)))
local macro_rules | `(tactic| walk_at "subscriptTail Name Slice ref ref") => `(tactic| ((with_reducible show wpAny _ _ (subscriptTail _ (PySem.Expr.Slice none (some (PySem.Expr.Name _ _)) none _) _ _) _ _ _); k_dflt (refine Sub_at ?_)))
local macro_rules | `(tactic| walk_at "subscriptTail Name Slice ref ref") => `(tactic| ((with_reducible show wpAny _ _ (subscriptTail _ (PySem.Expr.Slice (some (PySem.Expr.Name _ _)) none none _) _ _) _ _ _); k_dflt (refine Sub_at ?_)))
local macro_rules | `(tactic| walk_at "binaryOp Add ref ref") => `(tactic| (k_dflt (refine Add_at ?_)))
local macro_rules | `(tactic| walk_at "call builtin:len") => `(tactic| ((with_reducible show wpAny _ _ (call (Value.builtin "len") [Value.ref _]) _ _ _); k_dflt (refine kun_lenT (by assumption) (by assumption) (by assumption) ?_)))
local macro_rules | `(tactic| walk_at "eval BoolOp") => `(tactic| k_extra "eval BoolOp")
theorem law_ok {w : World} {mean : ExcName → Option Value} {mg mb : Str → Option Value} {s : Shared} {R : Result → Shared → Prop}
    (X : (Mine.hd.heap_39 w.params).In s.heap) (T : Top Mine.hd.view_39 (looseW Mine.hd.view_39 [Str.ofString "LedgerError"]) mean mg mb s.heap)
    {a : Addr} {vs : List Value} {is : List Int} (ha : s.heap.IsList a vs.toArray) (hi : IntsAre vs is) (hlen : is.length ≤ 63)
    (ret : ∀ h' tk', (∀ b o, s.heap.get? b = some o → h'.get? b = some o) → R (.ok (.ret (.bool true))) { s with heap := h', toks := tk' }) :
    codeAny (model Challenge.rw_pb0235_01.row.prog w) callerA (.call (.ref 228) ⟨[.ref a], []⟩) R s := by
  revert X; k_fill; intro X
  refine' enter_cells X T.nolimit ?ho ?hcd ?hroom ?hbind ?hkind ?hnd ?_ ?c2 ?c3 ?c4
  case ho => k_is
  case hcd => k_is
  case hroom => decide
  case hbind => exact (BindsTo.of_eq (binds := [(Str.ofString "script", .ref a)]) rfl)
  case hkind => rfl
  case hnd => decide +kernel
  case c2 => rfl
  case c3 => rfl
  case c4 => rfl
  intro L h₁ tk cells hL F N Y
  obtain ⟨oT, hE, d1⟩ := CellsAre.one Y
  subst hE
  clear Y
  try dsimp only
  try k_fold
  k_with_none
  k_with "eval BoolOp" => (refine tape_ev F N ?hev ?_)
  k_steps
  · rename Fr _ _ _ _ => lF
    rename News _ _ _ _ => lN
    rename IntsAre _ (List.take 40 is) => hI
    rename 0 < (List.take 40 is).length => h0
    exact ⟨_, _, _, _, _, _, rfl, rfl, lF, (fun p hp => lN p (by
      rcases List.mem_cons.mp hp with rfl | hp
      · exact .head _
      · exact .tail _ (.tail _ hp))), hI, (fun q => by rw [q] at h0; exact absurd h0 (Nat.lt_irrefl _)), (by rw [List.length_take]; omega), by omega⟩
  · rename Fr _ _ _ _ => lF
    rename News _ _ _ _ => lN
    exact ⟨_, [_], [0], _, _, _, rfl, rfl, lF, (fun p hp => lN p (by
      rcases List.mem_cons.mp hp with rfl | hp
      · exact .head _
      · exact .tail _ (.tail _ (.tail _ hp)))), .cons _ _ .nil, (fun q => nomatch q), (by decide), by omega⟩
  rename_i cl vs2 ns c h2 tk2 hi2 hns hl2 lcl tp h3 l1 h4 oT2 lF lN dT
  have hne : @Ne Nat tp cl := Nat.ne_of_gt l1.1
  refine draw_M lF lN X T ?off1 hne ⟨_, _, vs2, ns, _, rfl, rfl, hi2, hns, hl2⟩ (by decide) (by decide) (by decide) (by decide) rfl (by k_room) (by units_room) ?_
  case off1 =>
    intro p hp
    rw [List.mem_singleton.mp hp]
    exact ⟨Nat.ne_of_lt l1.2, Nat.ne_of_lt lcl⟩
  intro r t0 h5 tk5 o1 o2 r0 r1 F5 N5 hO5
  have offC : ∀ p ∈ [(L + 1, oT2)], @Ne Nat p.1 tp ∧ @Ne Nat p.1 cl := fun p hp => by
    rw [List.mem_singleton.mp hp]; exact ⟨Nat.ne_of_lt l1.2, Nat.ne_of_lt lcl⟩
  obtain ⟨nvs, hNT, hNS⟩ : ∃ nvs : List Value, IsTup s.heap 211 nvs.toArray ∧ StrsAre nvs lawNames := ⟨_, ⟨_, X _ _ (by k_is), rfl, _, rfl⟩, .cons _ _ (.cons _ _ (.cons _ _ (.cons _ _ .nil)))⟩
  have hNl := hNS.length
  replace hO5 : TapeO cl o1 o2 (1 + ((0 : Nat) : Int)) := hO5
  clear lF lN hi2 hns hl2
  k_steps
  rename IsRange _ _ _ _ _ _ _ _ => hR
  rename Fr _ _ _ _ => lF
  rename News _ _ _ _ => lN
  obtain ⟨q1, q2⟩ := range_facts r0 (Int.lt_trans r1 (by decide))
  refine CompSrc.range rfl lF lN hR q1 q2 (sz_8 (le_8 (ar_t7 r0 r1))) (fun g => compRest_inv (n := r.toNat)
    (fun i ys nx => ∃ o1 o2 nms, nx = [(tp, o1), (cl, o2), (L + 1, oT2)] ∧ TapeO cl o1 o2 (1 + i) ∧ StrsAre ys nms ∧ (∀ z ∈ nms, z ∈ lawNames) ∧ nms.length = i) ?step1 ?fin1 _ 0 [] _ (Nat.zero_add _) ⟨o1, o2, [], rfl, hO5, .nil, (fun _ h => nomatch h), rfl⟩)
  case step1 =>
    rintro i ys nx v I oI C oC D m₂ h tk' E' hi1 ⟨o1', o2', nms, rfl, hO', hys, hnm, hnl⟩ hP hC hx F6 N6 off3 ne3
    k_steps
    refine draw_C F6 N6 X T off3 offC hne hO' ar_p1 (ar_q1 hi1 r0 r1) (by decide) (by decide) rfl (by k_room) (by units_room) ?_
    intro r' t' h7 tk7 o1'' o2'' r0' r1' F7 N7 off7 hO7
    clear F6 N6
    refine item_strsTu (IsTup.keeps hNT F7.keep) hNS r0' (ar_n1 r1') (ar_n2 r1') (fun t2 => ?_) (by with_unfolding_all rfl) (by intro _; with_unfolding_all rfl)
    (try k_unmd)
    k_unfold
    have hmem : lawNames.getD r'.toNat Str.empty ∈ lawNames := names_mem r1'
    exact CompEnd.intro F7 N7 _ (fun p hp => hp) off7 trivial ⟨o1'', o2'', _, rfl, by rw [ar_s]; exact hO7, hys.append' (.cons _ t2 .nil), (fun z hz => by
      rcases List.mem_append.mp hz with hz | hz
      · exact hnm z hz
      · rw [List.mem_singleton.mp hz]; exact hmem), by rw [List.length_append, hnl]; rfl⟩
  case fin1 =>
    rintro ys nx ⟨o1', o2', nms, rfl, hO', hys, hnm, hnl⟩
    intro D h6 tk6 F6 N6 offD
    dsimp only
    have offR : ∀ p ∈ [(D, lst ys), (L + 1, oT2)], @Ne Nat p.1 tp ∧ @Ne Nat p.1 cl := fun p hp => by
      rcases List.mem_cons.mp hp with rfl | hp
      · exact ⟨Ne.symm offD.1, Ne.symm offD.2.1⟩
      · exact offC p hp
    have N7 : News s.heap L h6 ((tp, o1') :: (cl, o2') :: [(D, lst ys), (L + 1, oT2)]) := (Nc (by k_mem) N6 (Nc (by k_mem) N6 (Nc (by k_mem) N6 (Nc (by k_mem) N6 News.nil))))
    have hk : (1 : Int) + ((r.toNat : Nat) : Int) ≤ 9 := ar_k9 r0 r1
    have hrl : ys.length = nms.length := hys.length
    have hnl8 : nms.length ≤ 8 := by rw [hnl]; exact le_8 (ar_t7 r0 r1)
    clear N6 lF lN hR
    k_with_none
    k_steps
    rename Fr _ _ _ _ => lF
    rename News _ _ _ _ => lN
    refine LCg.ListComp_U (F₀ := lF) (by with_unfolding_all rfl) (by decide) (by rfl) (by decide) (by rfl) ?_
    k_steps
    refine draw_M lF lN X T offR hne hO' ar_p1 (ar_l9 hk) (by decide) (by decide) rfl (by k_room) (by units_room) ?_
    intro q t3 h7 tk7 o3 o4 g0 g1 F7 N8 hO8
    clear lF lN
    k_steps
    rename IsRange _ _ _ _ _ _ _ _ => hR
    rename Fr _ _ _ _ => lF
    rename News _ _ _ _ => lN
    obtain ⟨q3, q4⟩ := range_facts g0 (Int.lt_trans g1 (by decide))
    refine CompSrc.range rfl lF lN hR q3 q4 (sz_8 (Nat.le_trans (ar_t5 g0 g1) (by decide))) (fun g => compRest_inv (n := q.toNat)
      (fun i ys2 nx => ∃ o1 o2 qms, nx = [(tp, o1), (cl, o2), (D, lst ys), (L + 1, oT2)] ∧ TapeO cl o1 o2 (1 + r.toNat + 1 + i) ∧ StrsAre ys2 qms ∧ (∀ z ∈ qms, z ∈ lawNames5) ∧ qms.length = i) ?step2 ?fin2 _ 0 [] _ (Nat.zero_add _) ⟨o3, o4, [], rfl, by rw [show (1 : Int) + (r.toNat : Int) + 1 + ((0 : Nat) : Int) = 1 + r.toNat + 1 from Int.add_zero _]; exact hO8, .nil, (fun _ h => nomatch h), rfl⟩)
    case step2 =>
      rintro i ys2 nx v I oI C oC D2 m₂ h tk' E' hi1 ⟨o1'', o2'', qms, rfl, hO'', hys2, hqm, hql⟩ hP hC hx F8 N8 off3 ne3
      k_steps
      rename_i tu h9 lF lN l9 cE
      have z3 := off3.mem
      have zt := z3 _ (.head _)
      have zc := z3 _ (.tail _ (.head _))
      obtain ⟨oTu, w5, lN2, ⟨hTu1, nTu, hTu2⟩, hs5⟩ : ∃ (oTu : Obj) (w5 : List Value), News s.heap L h9 [(tu, oTu), (I, oI), (C, oC), (D2, lst ys2), (tp, o1''), (cl, o2''), (D, lst ys), (L + 1, oT2)] ∧ (oTu.cls = .type "tuple" ∧ ∃ n, oTu.data = .seq w5.toArray n) ∧ StrsAre w5 lawNames5 :=
        ⟨_, _, lN, ⟨rfl, _, rfl⟩, .cons _ _ (.cons _ _ (.cons _ _ (.cons _ _ (.cons _ _ .nil))))⟩
      clear lN
      refine draw_M (l := (tu, oTu) :: (I, oI) :: (C, oC) :: (D2, lst ys2) :: [(D, lst ys), (L + 1, oT2)]) lF (fun p hp => lN2 p (by
        simp only [List.mem_cons] at hp ⊢
        rcases hp with h | h | h | h | h | h | h | h | h <;> simp [h])) X T (fun p hp => ?_) hne hO'' ar_p2 (ar_p3 hk hi1 (ar_t5 g0 g1)) (by decide) (by decide) rfl (by k_room) (by units_room) ?_
      · rcases List.mem_cons.mp hp with rfl | hp
        · exact ⟨Nat.ne_of_gt l9.2.2.2.1, Nat.ne_of_gt l9.2.2.2.2.1⟩
        · rcases List.mem_cons.mp hp with rfl | hp
          · exact ⟨Ne.symm zt.1, Ne.symm zc.1⟩
          · rcases List.mem_cons.mp hp with rfl | hp
            · exact ⟨Ne.symm zt.2.1, Ne.symm zc.2.1⟩
            · rcases List.mem_cons.mp hp with rfl | hp
              · exact ⟨Ne.symm zt.2.2, Ne.symm zc.2.2⟩
              · exact offR p hp
      intro r' t' h10 tk10 o5 o6 r0' r1' F9 N9 hO9
      (try k_unmd)
      (try k_unfold)
      refine item_tmp (N9 _ (.tail _ (.tail _ (.head _)))).1 hTu1 hTu2 hs5 r0' (ar_m1 r1') (ar_m2 r1') (fun t2 => ?_) (by with_unfolding_all rfl)
      (try k_unmd)
      k_unfold
      have hmem : lawNames5.getD r'.toNat Str.empty ∈ lawNames5 := names5_mem r1'
      exact CompEnd.intro F9 N9 [(tp, o5), (cl, o6), (D, lst ys), (L + 1, oT2)] (Mc (by k_mem) (Mc (by k_mem) (Mc (by k_mem) (Mc (by k_mem) (Mc (by k_mem) (Mc (by k_mem) (Mc (by k_mem) Mn))))))) off3 trivial ⟨o5, o6, _, rfl, by rw [ar_s]; exact hO9, hys2.append' (.cons _ t2 .nil), (fun z hz => by
        rcases List.mem_append.mp hz with hz | hz
        · exact hqm z hz
        · rw [List.mem_singleton.mp hz]; exact hmem), by rw [List.length_append, hql]; rfl⟩
    case fin2 =>
      rintro ys2 nx ⟨o1'', o2'', qms, rfl, hO'', hys2, hqm, hql⟩
      intro D2 h8 tk8 F8 N8 offD2
      have hqn : ys2.length = qms.length := hys2.length
      have hk2 : (1 : Int) + r.toNat + 1 + q.toNat ≤ 20 := ar_k2 hk (ar_t5 g0 g1)
      have hqq : qms.length ≤ 5 := by rw [hql]; exact ar_t5 g0 g1
      have hk3 : 0 ≤ (1 : Int) + r.toNat + 1 + q.toNat := ar_p2
      generalize (1 : Int) + r.toNat + 1 + q.toNat = kk at hO'' hk2 hk3
      clear lF lN hR
      k_with_none
      k_steps
      rename_i Wt h9 lW h10 lF lN
      have hok4 : ∀ z ∈ nms, PyData.strOk z = true := fun z hz => names5_ok z (names_sub z (hnm z hz))
      have hok5 : ∀ z ∈ qms, PyData.strOk z = true := fun z hz => names5_ok z (hqm z hz)
      refine' rests_ok ?r1 ?r2 ?r3 ?r4 ?r5 ?r6 hys hnl8 hok4 ?_
      case r1 => exact X.keeps lF.keep
      case r2 => exact topRead_of (T.keeps lF.keep)
      case r3 => exact rfl
      case r4 => k_room
      case r5 => units_room
      case r6 => exact ⟨_, (lN (D, lst ys) (by k_mem)).1, rfl, _, rfl⟩
      intro RR h11 tk11 ws cR news k11 gRR fRR hTI hnews
      have F9 := lF.keeps k11
      have N9 : News s.heap L h11 ((Wt, tupO ys2) :: (tp, o1'') :: (cl, o2'') :: (D, lst ys) :: (L + 1, oT2) :: (RR, listOf ws.toArray cR) :: news) := by
        intro p hp
        have key : ∀ z : Addr × Obj, z ∈ [(Wt, tupO ys2), (D2, lst ys2), (tp, o1''), (cl, o2''), (D, lst ys), (L + 1, oT2)] → h11.get? z.1 = some z.2 ∧ z.1 ≠ L ∧ s.heap.get? z.1 = none := fun z hz => (lN.grown k11) z hz
        have keyn : ∀ z : Addr × Obj, h11.get? z.1 = some z.2 → h10.get? z.1 = none → h11.get? z.1 = some z.2 ∧ z.1 ≠ L ∧ s.heap.get? z.1 = none := fun z a b => News.add lF lN k11 a b z (.head _)
        simp only [List.mem_cons] at hp
        rcases hp with rfl | rfl | rfl | rfl | rfl | rfl | hp
        · exact key _ (by k_mem)
        · exact key _ (by k_mem)
        · exact key _ (by k_mem)
        · exact key _ (by k_mem)
        · exact key _ (by k_mem)
        · exact keyn _ gRR fRR
        · exact keyn p (hnews p hp).1 (hnews p hp).2
      clear lF lN
      k_with_none
      k_steps
      rename Fr _ _ _ _ => lF
      rename News _ _ _ _ => lN
      refine' leads_ok ?s1 ?s2 ?s3 ?s4 ?s5 ?s6 hys ?s7 hys2 ?s8 ?s9 ?_
      case s1 => exact X.keeps lF.keep
      case s2 => exact topRead_of (T.keeps lF.keep)
      case s3 => exact rfl
      case s4 => k_room
      case s5 => units_room
      case s6 => exact ⟨_, (lN (D, lst ys) (by k_mem)).1, rfl, _, rfl⟩
      case s7 => exact ⟨_, (lN (Wt, tupO ys2) (by k_mem)).1, rfl, _, rfl⟩
      case s8 => exact le_k (le_9 hnl8)
      case s9 => exact le_k (Nat.le_trans hqq (by decide))
      intro h12 tk12 k12
      have F12 := lF.keeps k12
      have N12 := lN.grown k12
      clear lF lN
      k_with_none
      k_steps
      refine in_law N12 (.head _) (.tail _ (.tail _ (.tail _ (.tail _ (.tail _ (.head _)))))) (fun p hp => .tail _ (.tail _ (.tail _ (.tail _ (.tail _ (.tail _ hp)))))) hTI hys2 hok4 hok5 (by units_room) ?_
      k_steps
      · exfalso; rename_i z; simp at z
      have hsL : s.heap.get? L = none := by rw [hL]; exact Heap.get?_none_of_le (Nat.le_refl _)
      have hs0 : s.heap.StaysIn (hideAll h12 [L]) := fun b o e => hideAll_get _ (F12.keep b o e) (fun q => by rw [List.mem_singleton.mp q, hsL] at e; cases e)
      have hv : ∀ p ∈ (Wt, tupO ys2) :: (tp, o1'') :: (cl, o2'') :: (D, lst ys) :: (L + 1, oT2) :: (RR, listOf ws.toArray cR) :: news, (hideAll h12 [L]).get? p.1 = some p.2 := fun p hp => hideAll_get _ (N12 p hp).1 (fun q => (N12 p hp).2.1 (List.mem_singleton.mp q))
      refine' found_ok (base := hideAll h12 [L]) (outer := [_]) (X.keeps hs0) (T.keeps hs0) (fun b o e => of_hideAll _ e) (Nat.le_of_eq (hideAll_size _ _)) rfl ?b1 ?b2 (Around.frames_deeper rfl) ?b3 ?b4 hys ?b5 hys2 (Nat.le_trans hnl8 (by decide)) (Nat.le_trans hqq (by decide)) ?b6 ?b7 ?b8 ?_
      case b1 => k_room
      case b2 => units_room
      case b3 => exact Heap.FunFrames.cons (by show ScopeKind.function ≠ ScopeKind.module; decide) rfl F12.ns (hideAll_none _ (.head _)) trivial
      case b4 => exact ⟨_, hv (D, lst ys) (by k_mem), rfl, _, rfl⟩
      case b5 => exact ⟨_, hv (Wt, tupO ys2) (by k_mem), rfl, _, rfl⟩
      case b6 => exact fun z hz q => names4_ne (Str.ofString "X") (by decide) (by decide) (by decide) (by decide) (q ▸ hnm z hz)
      case b7 => exact fun z hz q => names4_ne (Str.ofString "FILLER") (by decide) (by decide) (by decide) (by decide) (q ▸ hnm z hz)
      case b8 =>
        intro z
        have := hqm _ z
        revert this
        decide
      intro h13 tk13 st13 up13
      have F13 : Fr s.heap L h13 _ := ⟨up13.ns F12.ns, fun b o e => st13 b o (hs0 b o e), F12.above⟩
      have N13 : News s.heap L h13 ((Wt, tupO ys2) :: (tp, o1'') :: (cl, o2'') :: (D, lst ys) :: (L + 1, oT2) :: (RR, listOf ws.toArray cR) :: news) := fun p hp => ⟨st13 _ _ (hv p hp), (N12 p hp).2⟩
      clear F12 N12 hv
      k_steps
      refine in_law N13 (.head _) (.tail _ (.tail _ (.tail _ (.tail _ (.tail _ (.head _)))))) (fun p hp => .tail _ (.tail _ (.tail _ (.tail _ (.tail _ (.tail _ hp)))))) hTI hys2 hok4 hok5 (by units_room) ?_
      k_steps
      rename Fr _ _ _ _ => lF
      rename News _ _ _ _ => lN
      have w1 : @Ne Nat Wt tp := ne_kind lN (o1 := tupO ys2) (o2 := o1'') (.head _) (.tail _ (.head _)) (by rw [hO''.cls.1]; show Value.type "tuple" ≠ Value.type "list"; decide)
      have w2 : @Ne Nat Wt cl := ne_kind lN (o1 := tupO ys2) (o2 := o2'') (.head _) (.tail _ (.tail _ (.head _))) (by rw [hO''.cls.2]; show Value.type "tuple" ≠ Value.type "list"; decide)
      have N14 : News s.heap L _ ((tp, o1'') :: (cl, o2'') :: [(Wt, tupO ys2), (D, lst ys), (L + 1, oT2)]) := (Nc (by k_mem) lN (Nc (by k_mem) lN (Nc (by k_mem) lN (Nc (by k_mem) lN (Nc (by k_mem) lN News.nil)))))
      have offL : ∀ p ∈ [(Wt, tupO ys2), (D, lst ys), (L + 1, oT2)], @Ne Nat p.1 tp ∧ @Ne Nat p.1 cl := fun p hp => by
        rcases List.mem_cons.mp hp with rfl | hp
        · exact ⟨w1, w2⟩
        · exact offR p hp
      clear lN hTI
      refine LCt.ListComp_T (F₀ := lF) (by with_unfolding_all rfl) (by decide) (by rfl) (by decide) (by rfl) ?_
      k_steps
      refine LCt.CompSrcT.ledger rfl lF N14 (its := ys.toArray) (.tail _ (.tail _ (.tail _ (.head _)))) (by rw [List.size_toArray, hrl]; exact sz_8 hnl8) (fun g => compRestT_inv (n := ys.toArray.size)
        (fun j pys nx => ∃ o1 o2 pms, nx = (tp, o1) :: (cl, o2) :: [(Wt, tupO ys2), (D, lst ys), (L + 1, oT2)] ∧ TapeO cl o1 o2 (kk + j) ∧ StrsAre pys pms ∧ pms.Sublist (nms.take j)) ?step3 ?fin3 _ 0 [] _ (Nat.zero_add _) ⟨o1'', o2'', [], rfl, by rw [show kk + ((0 : Nat) : Int) = kk from Int.add_zero _]; exact hO'', .nil, List.nil_sublist _⟩)
      case step3 =>
        rintro j pys nx v I oI C oC D3 m₂ h tk' E' hj ⟨p1, p2, pms, rfl, hP, hpys, hsub⟩ hPv hC hx F14 N15 off3 ne3
        have hj8 : j < ys.length := by simpa using hj
        obtain ⟨n, tn, rfl, hnn⟩ := StrsAre.item hys j v (by simpa using hPv)
        k_steps
        refine draw_C F14 N15 X T off3 offL hne hP (ar_k5 hk3) (ar_j hk2 hj8 (by rw [hrl]; exact hnl8)) (by decide) (by decide) rfl (by k_room) (by units_room) ?_
        intro r' t' h16 tk16 o5 o6 r0' r1' F16 N16 off16 hO16
        clear F14 N15
        have hsr : SrcAt s.heap D ys.toArray ((tp, o5) :: (cl, o6) :: [(Wt, tupO ys2), (D, lst ys), (L + 1, oT2)]) := .inr ⟨_, .tail _ (.tail _ (.tail _ (.head _))), rfl, _, rfl⟩
        have hkj : TapeO cl o5 o6 (kk + ((j + 1 : Nat) : Int)) := by rw [ar_s]; exact hO16
        have hs1 : (pms ++ [n]).Sublist (nms.take (j + 1)) := by
          rw [List.take_add_one, hnn]
          exact hsub.append (List.Sublist.refl _)
        have hs2 : pms.Sublist (nms.take (j + 1)) := by
          rw [List.take_add_one]
          exact hsub.trans (List.sublist_append_left _ _)
        k_steps
        · exact CompEnd.intro F16 N16 [(tp, o5), (cl, o6), (Wt, tupO ys2), (D, lst ys), (L + 1, oT2)] (fun p hp => hp) off16 hsr ⟨o5, o6, pms ++ [n], rfl, hkj, hpys.append' (.cons n tn .nil), hs1⟩
        · exact CompEnd.intro F16 N16 [(tp, o5), (cl, o6), (Wt, tupO ys2), (D, lst ys), (L + 1, oT2)] (fun p hp => hp) off16 hsr ⟨o5, o6, pms, rfl, hkj, hpys, hs2⟩
      case fin3 =>
        rintro pys nx ⟨p1, p2, pms, rfl, hP, hpys, hsub⟩
        intro D3 h15 tk15 F15 N15 offD3
        rw [List.size_toArray, hys.length, List.take_length] at hsub
        have hpl : pys.length = pms.length := hpys.length
        have hpl2 := hsub.length_le
        have hn7 : nms.length ≤ 7 := by rw [hnl]; exact ar_t7 r0 r1
        have hpm7 : pms.length ≤ 7 := Nat.le_trans hpl2 hn7
        have hpm8 : pms.length ≤ 8 := le_8 hpm7
        have hpl3 : pys.length ≤ 8 := by rw [hpl]; exact hpm8
        have hyl8 : ys.length ≤ 8 := by rw [hrl]; exact hnl8
        rw [List.size_toArray] at hP
        have hk4 : kk + (ys.length : Int) ≤ 30 := ar_k4 hk2 hyl8
        have hk5 : 0 ≤ kk + (ys.length : Int) := ar_k5 hk3
        generalize kk + (ys.length : Int) = k4 at hP hk4 hk5
        have hsz1 : ys.toArray.size = nms.length := by rw [List.size_toArray]; exact hrl
        k_steps
        rename_i P4 h16 hX16 h17 lF lN
        have N17 : News s.heap L h17 ((tp, p1) :: (cl, p2) :: [(P4, tupO pys), (Wt, tupO ys2), (D, lst ys), (L + 1, oT2)]) := (Nc (by k_mem) lN (Nc (by k_mem) lN (Nc (by k_mem) lN (Nc (by k_mem) lN (Nc (by k_mem) lN (Nc (by k_mem) lN News.nil))))))
        have w3 : @Ne Nat P4 tp := ne_kind lN (o1 := tupO pys) (o2 := p1) (.head _) (.tail _ (.tail _ (.head _))) (by rw [hP.cls.1]; show Value.type "tuple" ≠ Value.type "list"; decide)
        have w4 : @Ne Nat P4 cl := ne_kind lN (o1 := tupO pys) (o2 := p2) (.head _) (.tail _ (.tail _ (.tail _ (.head _)))) (by rw [hP.cls.2]; show Value.type "tuple" ≠ Value.type "list"; decide)
        have offP : ∀ p ∈ [(P4, tupO pys), (Wt, tupO ys2), (D, lst ys), (L + 1, oT2)], @Ne Nat p.1 tp ∧ @Ne Nat p.1 cl := fun p hp => by
          rcases List.mem_cons.mp hp with rfl | hp
          · exact ⟨w3, w4⟩
          · exact offL p hp
        clear lN
        refine draw_M lF N17 X T offP hne hP hk5 (ar_lt hk4) ar_l1 (ar_l2 hn7) rfl (by k_room) (by units_room) ?_
        intro sp t4 h18 tk18 p3 p4 sp0 sp1 F18 N18 hO18
        clear lF N17
        k_steps
        rename Fr _ _ _ _ => lF
        rename News _ _ _ _ => lN
        refine Sub_go (lslice_take lF lN (c := ys.length) (.tail _ (.tail _ (.tail _ (.tail _ (.head _))))) sp0 (sz_8 hyl8) (fun Ta h19 F19 N19 l19 => ?_) (by with_unfolding_all rfl) (by intro _; with_unfolding_all rfl))
        clear lF lN
        (try k_unmd)
        (try k_unfold)
        k_steps
        have offTa : ∀ p ∈ [(Ta, listOf (ys.take sp.toNat).toArray 0), (P4, tupO pys), (Wt, tupO ys2), (D, lst ys), (L + 1, oT2)], @Ne Nat p.1 tp ∧ @Ne Nat p.1 cl := fun p hp => by
          rcases List.mem_cons.mp hp with rfl | hp
          · exact ⟨Nat.ne_of_gt (l19 (tp, p3) (by k_mem)), Nat.ne_of_gt (l19 (cl, p4) (by k_mem))⟩
          · exact offP p hp
        have N20 : News s.heap L h19 ((tp, p3) :: (cl, p4) :: [(Ta, listOf (ys.take sp.toNat).toArray 0), (P4, tupO pys), (Wt, tupO ys2), (D, lst ys), (L + 1, oT2)]) := (Nc (by k_mem) N19 (Nc (by k_mem) N19 (Nc (by k_mem) N19 (Nc (by k_mem) N19 (Nc (by k_mem) N19 (Nc (by k_mem) N19 (Nc (by k_mem) N19 News.nil)))))))
        refine draw_M F19 N20 X T offTa hne hO18 (ar_nn1 hk5) (ar_lt1 hk4) (by decide) (by decide) rfl (by k_room) (by units_room) ?_
        intro rx t5 h21 tk21 p5 p6 rx0 rx1 F21 N21 hO21
        clear F19 N19 N20 l19
        refine item_strsTu (IsTup.keeps hNT F21.keep) hNS rx0 (ar_n1 rx1) (ar_n2 rx1) (fun t6 => ?_) (by with_unfolding_all rfl) (by intro _; with_unfolding_all rfl)
        have hmemx : lawNames.getD rx.toNat Str.empty ∈ lawNames := names_mem rx1
        generalize lawNames.getD rx.toNat Str.empty = xx at hmemx
        (try k_unmd)
        (try k_unfold)
        k_steps
        rename Fr _ _ _ _ => lF
        rename News _ _ _ _ => lN
        refine Add_go (ladd lF lN (c := 0) (d := 0) (vs := ys.take sp.toNat) (ws := [Value.str xx t6]) (.tail _ (.tail _ (.tail _ (.head _)))) (.head _) (ins_a hyl8 rfl) (fun Tb h22 F22 N22 l22 => ?_))
        clear lF lN
        (try k_unmd)
        (try k_unfold)
        k_steps
        refine Sub_go (lslice_drop F22 N22 (c := ys.length) (vs := ys) (by k_mem) sp0 (sz_8 hyl8) (fun Tc h23 F23 N23 l23 => ?_) (by with_unfolding_all rfl) (by intro _; with_unfolding_all rfl))
        (try k_unmd)
        (try k_unfold)
        k_steps
        refine Add_go (ladd F23 N23 (c := 0) (d := 0) (vs := ys.take sp.toNat ++ [Value.str xx t6]) (ws := ys.drop sp.toNat) (.tail _ (.head _)) (.head _) (ins_b hyl8 rfl) (fun Ln h24 F24 N24 l24 => ?_))
        have hlS : StrsAre (ys.take sp.toNat ++ [Value.str xx t6] ++ ys.drop sp.toNat) (nms.take sp.toNat ++ [xx] ++ nms.drop sp.toNat) := ((hys.take' _).append' (.cons _ _ .nil)).append' (hys.drop' _)
        generalize hlv : ys.take sp.toNat ++ [Value.str xx t6] ++ ys.drop sp.toNat = lvs at hlS N24
        have hbet : leads (nms.take sp.toNat ++ [xx] ++ nms.drop sp.toNat) pms = true := leads_between hsub _ _
        have hlq : (nms.take sp.toNat ++ [xx] ++ nms.drop sp.toNat).length ≤ 8 := ins_len hn7
        have hlok : ∀ z ∈ nms.take sp.toNat ++ [xx] ++ nms.drop sp.toNat, PyData.strOk z = true := by
          intro z hz
          refine names5_ok z (names_sub z ?_)
          rcases List.mem_append.mp hz with hz | hz
          · rcases List.mem_append.mp hz with hz | hz
            · exact hnm z (List.mem_of_mem_take hz)
            · rw [List.mem_singleton.mp hz]; exact hmemx
          · exact hnm z (List.mem_of_mem_drop hz)
        generalize nms.take sp.toNat ++ [xx] ++ nms.drop sp.toNat = lms at hlS hbet hlq hlok
        have N25 : News s.heap L h24 ((tp, p5) :: (cl, p6) :: [(P4, tupO pys), (Wt, tupO ys2), (D, lst ys), (L + 1, oT2), (Ln, listOf lvs.toArray 0)]) := (Nc (by k_mem) N24 (Nc (by k_mem) N24 (Nc (by k_mem) N24 (Nc (by k_mem) N24 (Nc (by k_mem) N24 (Nc (by k_mem) N24 (Nc (by k_mem) N24 News.nil)))))))
        have offLn : @Ne Nat Ln tp ∧ @Ne Nat Ln cl := ⟨Nat.ne_of_gt (l24 (tp, p5) (by k_mem)), Nat.ne_of_gt (l24 (cl, p6) (by k_mem))⟩
        clear F22 N22 F23 N23 N24 l23 l22 l24
        (try k_unmd)
        (try k_unfold)
        k_steps
        have ePick : leads nms pms = true := (leads_iff nms pms).mpr hsub
        rename Fr _ _ _ _ => lF
        rename News _ _ _ _ => lN
        refine' leads_ok ?t1 ?t2 ?t3 ?t4 ?t5 ?t6 hys ?t7 hpys ?t8 ?t9 ?_
        case t1 => exact X.keeps lF.keep
        case t2 => exact topRead_of (T.keeps lF.keep)
        case t3 => exact rfl
        case t4 => k_room
        case t5 => units_room
        case t6 => exact ⟨_, (lN (D, lst ys) (by k_mem)).1, rfl, _, rfl⟩
        case t7 => exact ⟨_, (lN (P4, tupO pys) (by k_mem)).1, rfl, _, rfl⟩
        case t8 => exact le_k (le_9 hnl8)
        case t9 => exact le_k (le_9 hpm8)
        intro h25 tk25 k25
        rw [ePick]
        have F25 := lF.keeps k25
        have N25 := lN.grown k25
        clear lF lN
        k_steps
        rename Fr _ _ _ _ => lF
        rename News _ _ _ _ => lN
        refine' leads_ok ?v1 ?v2 ?v3 ?v4 ?v5 ?v6 hlS ?v7 hpys ?v8 ?v9 ?_
        case v1 => exact X.keeps lF.keep
        case v2 => exact topRead_of (T.keeps lF.keep)
        case v3 => exact rfl
        case v4 => k_room
        case v5 => units_room
        case v6 => exact ⟨_, (lN (Ln, W.listOf lvs.toArray 0) (by k_mem)).1, rfl, _, rfl⟩
        case v7 => exact ⟨_, (lN (P4, tupO pys) (by k_mem)).1, rfl, _, rfl⟩
        case v8 => exact le_k (le_9 hlq)
        case v9 => exact le_k (le_9 hpm8)
        intro h26 tk26 k26
        rw [hbet]
        have F26 := lF.keeps k26
        have N26 := lN.grown k26
        clear lF lN
        k_steps
        rename Fr _ _ _ _ => lF
        rename News _ _ _ _ => lN
        refine' leads_ok ?y1 ?y2 ?y3 ?y4 ?y5 ?y6 hys ?y7 StrsAre.nil ?y8 ?y9 ?_
        case y1 => exact X.keeps lF.keep
        case y2 => exact topRead_of (T.keeps lF.keep)
        case y3 => exact rfl
        case y4 => k_room
        case y5 => units_room
        case y6 => exact ⟨_, (lN (D, lst ys) (by k_mem)).1, rfl, _, rfl⟩
        case y7 => exact ⟨_, (lN _ (.head _)).1, rfl, _, rfl⟩
        case y8 => exact le_k (le_9 hnl8)
        case y9 => exact Nat.zero_le _
        intro h27 tk27 k27
        rw [leads_nil]
        have F27 := lF.keeps k27
        have N27 : News s.heap L h27 [(tp, p5), (cl, p6), (P4, tupO pys), (Wt, tupO ys2), (D, lst ys), (L + 1, oT2), (Ln, W.listOf lvs.toArray 0)] := fun p hp => (lN.grown k27) p (.tail _ hp)
        clear lF lN
        k_steps
        rename Fr _ _ _ _ => lF
        rename News _ _ _ _ => lN
        refine' leads_ok ?z1 ?z2 ?z3 ?z4 ?z5 ?z6 hlS ?z7 hys2 ?z8 ?z9 ?_
        case z1 => exact X.keeps lF.keep
        case z2 => exact topRead_of (T.keeps lF.keep)
        case z3 => exact rfl
        case z4 => k_room
        case z5 => units_room
        case z6 => exact ⟨_, (lN (Ln, W.listOf lvs.toArray 0) (by k_mem)).1, rfl, _, rfl⟩
        case z7 => exact ⟨_, (lN (Wt, tupO ys2) (by k_mem)).1, rfl, _, rfl⟩
        case z8 => exact le_k (le_9 hlq)
        case z9 => exact le_k (Nat.le_trans hqq (by decide))
        intro h28 tk28 k28
        have F28 := lF.keeps k28
        have N28 := lN.grown k28
        clear lF lN
        k_steps
        rename Fr _ _ _ _ => lF
        rename News _ _ _ _ => lN
        refine' rests_ok ?m1 ?m2 ?m3 ?m4 ?m5 ?m6 hlS hlq hlok ?_
        case m1 => exact X.keeps lF.keep
        case m2 => exact topRead_of (T.keeps lF.keep)
        case m3 => exact rfl
        case m4 => k_room
        case m5 => units_room
        case m6 => exact ⟨_, (lN (Ln, W.listOf lvs.toArray 0) (by k_mem)).1, rfl, _, rfl⟩
        intro RR2 h29 tk29 ws2 cR2 news2 k29 gRR2 fRR2 hTI2 hnews2
        have F29 := lF.keeps k29
        have N29 : News s.heap L h29 ((RR2, listOf ws2.toArray cR2) :: (tp, p5) :: (cl, p6) :: (P4, tupO pys) :: (Wt, tupO ys2) :: (D, lst ys) :: (L + 1, oT2) :: (Ln, W.listOf lvs.toArray 0) :: news2) := by
          intro p hp
          have key : ∀ z : Addr × Obj, z ∈ [(tp, p5), (cl, p6), (P4, tupO pys), (Wt, tupO ys2), (D, lst ys), (L + 1, oT2), (Ln, W.listOf lvs.toArray 0)] → h29.get? z.1 = some z.2 ∧ z.1 ≠ L ∧ s.heap.get? z.1 = none := fun z hz => (lN.grown k29) z hz
          have keyn : ∀ z : Addr × Obj, h29.get? z.1 = some z.2 → _ = none → h29.get? z.1 = some z.2 ∧ z.1 ≠ L ∧ s.heap.get? z.1 = none := fun z a b => News.add lF lN k29 a b z (.head _)
          simp only [List.mem_cons] at hp
          rcases hp with rfl | rfl | rfl | rfl | rfl | rfl | rfl | rfl | hp
          · exact keyn _ gRR2 fRR2
          · exact key _ (by k_mem)
          · exact key _ (by k_mem)
          · exact key _ (by k_mem)
          · exact key _ (by k_mem)
          · exact key _ (by k_mem)
          · exact key _ (by k_mem)
          · exact key _ (by k_mem)
          · exact keyn p (hnews2 p hp).1 (hnews2 p hp).2
        clear lF lN
        k_steps
        refine in_law N29 (.tail _ (.tail _ (.tail _ (.tail _ (.head _))))) (.head _) (fun p hp => .tail _ (.tail _ (.tail _ (.tail _ (.tail _ (.tail _ (.tail _ (.tail _ hp)))))))) hTI2 hys2 hlok hok5 (by units_room) ?_
        have N30 : News s.heap L h29 ((tp, p5) :: (cl, p6) :: [(P4, tupO pys), (Wt, tupO ys2), (D, lst ys), (L + 1, oT2), (Ln, W.listOf lvs.toArray 0)]) := (Nc (by k_mem) N29 (Nc (by k_mem) N29 (Nc (by k_mem) N29 (Nc (by k_mem) N29 (Nc (by k_mem) N29 (Nc (by k_mem) N29 (Nc (by k_mem) N29 News.nil)))))))
        have htP : IsTup h29 P4 pys.toArray := ⟨_, (N30 (P4, tupO pys) (by k_mem)).1, rfl, _, rfl⟩
        have hsP : (pys.toArray.size : Int) = ((pms.length : Nat) : Int) := by rw [List.size_toArray, hpl]
        have hsP2 : ((pms.length : Nat) : Int) ≤ 16384 := ar_16 hpm8
        clear N29 hTI2
        k_steps
        · exfalso; rename_i z; simp at z
        have offZ : ∀ p ∈ [(P4, tupO pys), (Wt, tupO ys2), (D, lst ys), (L + 1, oT2), (Ln, W.listOf lvs.toArray 0)], @Ne Nat p.1 tp ∧ @Ne Nat p.1 cl :=
          List.forall_mem_cons.mpr ⟨offP _ (.head _), List.forall_mem_cons.mpr ⟨offP _ (.tail _ (.head _)), List.forall_mem_cons.mpr ⟨offP _ (.tail _ (.tail _ (.head _))), List.forall_mem_cons.mpr ⟨offP _ (.tail _ (.tail _ (.tail _ (.head _)))), List.forall_mem_cons.mpr ⟨offLn, fun _ h => nomatch h⟩⟩⟩⟩⟩
        rename Fr _ _ _ _ => lF
        refine draw_M lF N30 X T offZ hne hO21 (ar_nn2 hk5) (ar_lt2 hk4) ar_l1 (ar_l2 hpm7) rfl (by k_room) (by units_room) ?_
        intro cu t7 h31 tk31 p7 p8 cu0 cu1 F31 N31 hO31
        have N32 : News s.heap L h31 [(P4, tupO pys), (D, lst ys), (L + 1, oT2)] := (Nc (by k_mem) N31 (Nc (by k_mem) N31 (Nc (by k_mem) N31 News.nil)))
        clear lF N30 htP N31 hO31 hO21 offZ offP offL offR offC
        k_steps
        rename Fr _ _ _ _ => lF
        rename News _ _ _ _ => lN
        refine Sub_go (tslice_take lF lN (vs := pys) (.head _) cu0 (ar_cu cu1 hpl) (sz_8 hpl3) (fun Ua h33 F33 N33 => ?_) (by with_unfolding_all rfl) (by intro _; with_unfolding_all rfl))
        clear lF lN
        (try k_unmd)
        (try k_unfold)
        k_steps
        rename Fr _ _ _ _ => lF
        rename News _ _ _ _ => lN
        refine Add_go (tadd lF lN (vs := pys.take cu.toNat) (ws := [Value.str (Str.ofString "E") tk]) (.tail _ (.head _)) (.head _) (ins_a hpl3 rfl) (fun Ub h34 F34 N34 => ?_))
        have hEv : StrsAre [Value.str (Str.ofString "E") tk] [Str.ofString "E"] := .cons _ _ .nil
        have hEl : [Value.str (Str.ofString "E") tk].length = 1 := rfl
        generalize [Value.str (Str.ofString "E") tk] = ev at N34 hEv hEl
        have N35 : News s.heap L h34 [(Ub, tupO (pys.take cu.toNat ++ ev)), (P4, tupO pys), (D, lst ys), (L + 1, oT2)] := (Nc (by k_mem) N34 (Nc (by k_mem) N34 (Nc (by k_mem) N34 (Nc (by k_mem) N34 News.nil))))
        (try clear lF); (try clear lN); (try clear N34); (try clear F33); (try clear N33)
        (try k_unmd)
        (try k_unfold)
        k_steps
        rename Fr _ _ _ _ => lF
        rename News _ _ _ _ => lN
        refine Sub_go (tslice_drop lF lN (vs := pys) (.tail _ (.head _)) cu0 (ar_cu cu1 hpl) (sz_8 hpl3) (fun Uc h36 F36 N36 => ?_) (by with_unfolding_all rfl) (by intro _; with_unfolding_all rfl))
        (try clear lF); (try clear lN)
        (try k_unmd)
        (try k_unfold)
        k_steps
        rename Fr _ _ _ _ => lF
        rename News _ _ _ _ => lN
        refine Add_go (tadd lF lN (vs := pys.take cu.toNat ++ ev) (ws := pys.drop cu.toNat) (.tail _ (.head _)) (.head _) (ins_b hpl3 hEl) (fun Ud h37 F37 N37 => ?_))
        have hE1 : StrsAre (pys.take cu.toNat ++ ev ++ pys.drop cu.toNat) (pms.take cu.toNat ++ [Str.ofString "E"] ++ pms.drop cu.toNat) := ((hpys.take' _).append' hEv).append' (hpys.drop' _)
        have hE2 : leads nms (pms.take cu.toNat ++ [Str.ofString "E"] ++ pms.drop cu.toNat) = false :=
          leads_alien (e := Str.ofString "E") (by simp) (fun q => names4_ne (Str.ofString "E") (by decide) (by decide) (by decide) (by decide) (hnm _ q))
        have hE3 : (pms.take cu.toNat ++ [Str.ofString "E"] ++ pms.drop cu.toNat).length ≤ 9 := ins_len hpm8
        have N38 : News s.heap L h37 [(Ud, tupO (pys.take cu.toNat ++ ev ++ pys.drop cu.toNat)), (D, lst ys), (L + 1, oT2)] := (Nc (by k_mem) N37 (Nc (by k_mem) N37 (Nc (by k_mem) N37 News.nil)))
        (try clear lF); (try clear lN); (try clear N36); (try clear F36); (try clear N37)
        (try k_unmd)
        (try k_unfold)
        k_steps
        rename Fr _ _ _ _ => lF
        rename News _ _ _ _ => lN
        refine' leads_ok ?g1 ?g2 ?g3 ?g4 ?g5 ?g6 hys ?g7 hE1 ?g8 ?g9 ?_
        case g1 => exact X.keeps lF.keep
        case g2 => exact topRead_of (T.keeps lF.keep)
        case g3 => exact rfl
        case g4 => k_room
        case g5 => units_room
        case g6 => exact ⟨_, (lN (D, lst ys) (by k_mem)).1, rfl, _, rfl⟩
        case g7 => exact ⟨_, (lN _ (.head _)).1, rfl, _, rfl⟩
        case g8 => exact le_k (le_9 hnl8)
        case g9 => exact le_k hE3
        intro h39 tk39 k39
        rw [hE2]
        have F39 := lF.keeps k39
        have N39 : News s.heap L h39 [(D, lst ys), (L + 1, oT2)] := fun p hp => (lN.grown k39) p (.tail _ hp)
        (try clear lF); (try clear lN); (try clear N38)
        k_steps
        rename Fr _ _ _ _ => lF
        rename News _ _ _ _ => lN
        refine Add_go (tadd lF lN (vs := ys) (ws := [Value.str (Str.ofString "A") tk39]) (.tail _ (.head _)) (.head _) (ins_c hyl8 rfl) (fun Va h40 F40 N40 => ?_))
        have hAv : StrsAre (ys ++ [Value.str (Str.ofString "A") tk39]) (nms ++ [Str.ofString "A"]) := hys.append' (.cons _ _ .nil)
        have hA2 : leads nms (nms ++ [Str.ofString "A"]) = false := leads_long (by rw [List.length_append]; exact Nat.lt_succ_self _)
        have hA3 : (nms ++ [Str.ofString "A"]).length ≤ 9 := add_len hnl8
        generalize ys ++ [Value.str (Str.ofString "A") tk39] = av at N40 hAv
        have N41 : News s.heap L h40 [(Va, tupO av), (D, lst ys), (L + 1, oT2)] := (Nc (by k_mem) N40 (Nc (by k_mem) N40 (Nc (by k_mem) N40 News.nil)))
        (try clear lF); (try clear lN); (try clear N40)
        (try k_unmd)
        (try k_unfold)
        k_steps
        rename Fr _ _ _ _ => lF
        rename News _ _ _ _ => lN
        refine' leads_ok ?i1 ?i2 ?i3 ?i4 ?i5 ?i6 hys ?i7 hAv ?i8 ?i9 ?_
        case i1 => exact X.keeps lF.keep
        case i2 => exact topRead_of (T.keeps lF.keep)
        case i3 => exact rfl
        case i4 => k_room
        case i5 => units_room
        case i6 => exact ⟨_, (lN (D, lst ys) (by k_mem)).1, rfl, _, rfl⟩
        case i7 => exact ⟨_, (lN _ (.head _)).1, rfl, _, rfl⟩
        case i8 => exact le_k (le_9 hnl8)
        case i9 => exact le_k hA3
        intro h42 tk42 k42
        rw [hA2]
        have F42 := lF.keeps k42
        have N42 : News s.heap L h42 [(D, lst ys), (L + 1, oT2)] := fun p hp => (lN.grown k42) p (.tail _ hp)
        (try clear lF); (try clear lN)
        k_steps
        rename Fr _ _ _ _ => lF
        rename News _ _ _ _ => lN
        refine' leads_ok ?j1 ?j2 ?j3 ?j4 ?j5 ?j6 hys ?j7 hys ?j8 ?j9 ?_
        case j1 => exact X.keeps lF.keep
        case j2 => exact topRead_of (T.keeps lF.keep)
        case j3 => exact rfl
        case j4 => k_room
        case j5 => units_room
        case j6 => exact ⟨_, (lN (D, lst ys) (by k_mem)).1, rfl, _, rfl⟩
        case j7 => exact ⟨_, (lN _ (.head _)).1, rfl, _, rfl⟩
        case j8 => exact le_k (le_9 hnl8)
        case j9 => exact le_k (le_9 hnl8)
        intro h43 tk43 k43
        rw [leads_self]
        have F43 := lF.keeps k43
        have N43 := lN.grown k43
        (try clear lF); (try clear lN)
        have hkp := F43.keep
        k_steps
        first
          | exact ret _ _ hkp
          | (k_unfold; exact ret _ _ hkp)
          | (k_steps; exact ret _ _ hkp)
end Mine
end
section
open PySem PySem.W PySem.Calls PyProof.Rows PyProof.V PySem.Spec
set_option Elab.async false
set_option maxRecDepth 100000
set_option maxHeartbeats 8000000
theorem PySem.Challenge.cw_pb0235_01_holds : PySem.Challenge.rw_pb0235_01.Holds :=
  Mine.hd (by
  k_fill
  intro w s₀ s₁ mg mb G Y fa o pm cd doc dV kV ho hd hcd hD hmg hg args vals as hpre hlay hrd hwl hlo
  have KX := kIn_of Y
  refine Ground.open G ?_
  intro T B D TE TW
  have e := mg_of KX T.g (by k_is : nsIn _ mainGlobals (Str.ofString "law") = some (some (.ref 228)))
  have hfa : fa = 228 := by
    have z : mg (Str.ofString "law") = some (Value.ref fa) := hmg
    rw [z] at e
    exact Value.ref.inj (Option.some.inj e)
  subst hfa
  clear B D TE TW hmg e ho hd hcd hD Y
  wrow_args hpre hlay hrd hwl hlo
  all_goals (
    first | refine callC_kw (enter_call ?_) | refine enter_call ?_ | refine callC_kw (enter_callW ?_) | refine enter_callW ?_ | w_how)
  w_top on
  rename Heap.IsList _ _ _ => hL
  rename IntsAre _ _ => hI
  refine Mine.law_ok KX T hL hI (by omega) (fun h' tk' k => ?_)
  refine GoodW.toG ⟨.inl ⟨_, ofPy (.bool true), [], rfl, fun _ => rfl, ?_, ?_, fun _ => ⟨List.nodup_nil, fun _ h => nomatch h⟩⟩, k, rfl, hg⟩
  · first | exact ReadsW.bool _ | exact readsW_of (.bool _) | exact .bool _ | skip
  · first | (with_unfolding_all rfl) | kernel_rfl | wrow_close | skip)
end
