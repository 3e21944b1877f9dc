import PyProof.Rows.All
import Wide.All
import OpenK.AllK
import Wide.FinOn
import PySem.Challenge.RW_xm0666_01
open PySem PySem.W PySem.Calls PyProof.Rows PySem.Spec
set_option Elab.async false
namespace Mine
set_option maxRecDepth 100000
abbrev pgm : Program := PySem.Challenge.rw_xm0666_01.row.prog
def vw : Program := { pgm with main := { pgm.main with body := [0, 2, 3, 4, 6, 7, 9, 10, 12, 13, 14, 16, 17, 18, 19, 20, 21, 22, 23, 24].filterMap fun i => pgm.main.body[i]? } }
def ends (q : Program) (w : World) := openEnds treeTable q w 4558
lay_quick Mine.ends
local macro_rules | `(tactic| o_law) => `(tactic| refine holds_law (by decide +kernel) fun said => ?_)
local macro_rules | `(tactic| k_qdec) => `(tactic| decide +kernel)
local macro_rules | `(tactic| o_head $H) => do
  let hw := Lean.mkIdent `hw
  let hc := Lean.mkIdent `hc
  `(tactic| (refine holds_open (q := vw) (loose := []) (Xt := fun s => xlAt vw [] s && recOk (RowW.records (OpenRow.toRowW (OpenLaw.row PySem.Challenge.rw_xm0666_01))) s) (XP := XL vw []) (Yf := Hook.obs $H) (Ya := Hook.val $H) (YP := Hook.says $H) (N := 4558) ?hl (Hook.of $H) (Hook.keeps $H) (fun s e => xl_of s (Bool.and_eq_true_iff.mp e).1) XL.keeps (by rfl) (by rfl) (by rfl) (fun s e => recFacts_of (Bool.and_eq_true_iff.mp e).2) (by first | rfl | fail "A") (by first | assumption | decide +kernel) (by decide +kernel) ⟨rfl, rfl, rfl, rfl, rfl, by decide +kernel⟩ ?$hw ?$hc; (case hl => (intro w; refine (congrArg (Option.map _) (congrFun (congrFun PySem.W.Fast.te9828047843345465122 pgm) w)).trans ?_; kernel_rfl))))
set_option maxHeartbeats 8000000 in
open_top hd for PySem.Challenge.rw_xm0666_01
def Tel (prog : Program) (w : World) (K : Frag) (p : Program) (loose : List Str) (mean : ExcName → Option Value) (mg mb : Str → Option Value)
    (dep uni : Nat) (pre : List (Addr × Obj)) (tree : Sem Value) (post : Value → List (Addr × Obj) → Prop) : Prop :=
  ∀ (dp un : Nat) (gd : Option (List Code)) (cn : Str) (cs : Scope) (a : Addr) (ccd : Value) (cl : List (Str × Addr)) (outer : List Env) (A₀ : Around) (base h₀ : Heap) (L : Addr) (m : Str → Option Value) (s : Shared)
    (Q E : Value → Shared → Prop),
    Below A₀ base outer h₀ → Fr h₀ L s.heap m → K.In h₀ → News h₀ L s.heap pre → Top p loose mean mg mb h₀ → cs.kind = .function → dp + dep < recursionLimit → un + uni < cLine →
    (∀ r news' h' tk', Fr h₀ L h' m → News h₀ L h' news' → post r news' → Q r { s with heap := h', toks := tk' }) →
    wpAny (model prog w) (ktrTop dp un gd cn cs L a ccd cl outer) tree Q E s

theorem tel_use {prog : Program} {w : World} {K : Frag} {p : Program} {loose : List Str} {mean : ExcName → Option Value} {mg mb : Str → Option Value} {dep uni : Nat} {pre news : List (Addr × Obj)} {tree : Sem Value} {post : Value → List (Addr × Obj) → Prop}
    {dp un : Nat} {gd : Option (List Code)} {cn : Str} {cs : Scope} {a : Addr} {ccd : Value} {cl : List (Str × Addr)} {outer : List Env} {A₀ : Around} {base h₀ : Heap} {L : Addr} {m : Str → Option Value} {s : Shared} {Q E : Value → Shared → Prop}
    (C : Tel prog w K p loose mean mg mb dep uni pre tree post) (B : Below A₀ base outer h₀) (F : Fr h₀ L s.heap m) (X : K.In h₀) (N : News h₀ L s.heap news) (hs : ∀ q ∈ pre, q ∈ news) (T : Top p loose mean mg mb h₀) (hk : cs.kind = .function)
    (hd : dp + dep < recursionLimit) (hu : un + uni < cLine)
    (ret : ∀ r news' h' tk', Fr h₀ L h' m → News h₀ L h' news' → post r news' → Q r { s with heap := h', toks := tk' }) :
    wpAny (model prog w) (ktrTop dp un gd cn cs L a ccd cl outer) tree Q E s := C _ _ _ _ _ _ _ _ _ _ _ _ _ _ _ _ _ B F X (fun q hq => N q (hs q hq)) T hk hd hu ret

section
variable {prog : Program} {w : World} {A : Around} {E : Value → Shared → Prop} {s : Shared} {h₀ : Heap} {L : Addr} {m : Str → Option Value} {news : List (Addr × Obj)}
theorem my_len {l : Addr} {vs : List Value} {n : Nat} {Q : Value → Shared → Prop} (N : News h₀ L s.heap news) (hm : (l, listOf vs.toArray n) ∈ news) (hfit : vs.length < 2 ^ 62)
    (h : ∀ t tk, Q (.int (vs.length : Nat) t) { s with toks := tk }) : wpAny (model prog w) A (call (.builtin "len") [.ref l]) Q E s := by
  have hl : s.heap.IsList l vs.toArray := ⟨_, (N _ hm).1, rfl, n, rfl⟩
  refine Calls.call_len_list hl (by simp only [List.size_toArray]; omega) ?_
  have := h (s.toks + 1) (s.toks + 1 + 1)
  simpa only [List.size_toArray] using this
theorem my_item {value slice : PySem.Expr} {l : Addr} {vs : List Value} {n : Nat} {k : Int} {u : Tok} {v : Value} {Q : Value → Shared → Prop} (N : News h₀ L s.heap news) (hm : (l, listOf vs.toArray n) ∈ news) (h0 : 0 ≤ k) (hhi : k < 2 ^ 63) (hx : vs[k.toNat]? = some v) (h : Q v s)
    (hs : subscripted slice false (.ref l) (.int k u) = operate [.ref l, .int k u] (getItem (.ref l) (.int k u)) := by with_unfolding_all rfl) :
    wpAny (model prog w) A (subscriptTail value slice (.ref l) (.int k u)) Q E s :=
  have hl : s.heap.IsList l vs.toArray := ⟨_, (N _ hm).1, rfl, n, rfl⟩
  tail_any hl.typeIs slot_list_getitem.lookup (wpAny_getItem_list hl h0 hhi (by simpa using hx) h) hs
end
/-- no two entries at one place -/
def Ap (l : List (Addr × Obj)) : Prop := (l.map (·.1)).Nodup

theorem News.of {h₀ h : Heap} {L : Addr} {l l' : List (Addr × Obj)} (N : News h₀ L h l) (hs : ∀ q ∈ l', q ∈ l) : News h₀ L h l' := fun q hq => N q (hs q hq)

section
variable {prog : Program} {w : World} {A : Around} {E : Value → Shared → Prop} {s : Shared} {h₀ : Heap} {L D : Addr} {m : Str → Option Value} {news : List (Addr × Obj)}
theorem news_sem {h h' : Heap} {o o' : Obj} (N : News h₀ L h news) (hm : (D, o) ∈ news) (hs : Heap.SameBut D h h') (ho : h'.get? D = some o') {news' : List (Addr × Obj)}
    (hq : ∀ q ∈ news', q = (D, o') ∨ (q ∈ news ∧ q.1 ≠ D)) : News h₀ L h' news' := fun q hq' => by
  rcases hq q hq' with rfl | ⟨h1, h2⟩
  · exact ⟨ho, (N _ hm).2⟩
  · exact ⟨(hs.2 _ h2).trans (N q h1).1, (N q h1).2⟩
/-- the walk halts here -/
def Halt (P : Prop) : Prop := P
theorem append_sem {vs : List Value} {n : Nat} {x : Value} {Q : Value → Shared → Prop} (F : Fr h₀ L s.heap m) (N : News h₀ L s.heap news) (hm : (D, listOf vs.toArray n) ∈ news) (hsz : vs.length ≤ sizeLine)
    (h : Halt (∀ h', Fr h₀ L h' m → (∀ news', (∀ q ∈ news', q = (D, listOf (vs ++ [x]).toArray (n + 1)) ∨ (q ∈ news ∧ q.1 ≠ D)) → News h₀ L h' news') → Q .none { s with heap := h' })) : wpAny (model prog w) A (call (.builtin "list.append") [.ref D, x]) Q E s :=
  append_at (hsz := by rw [List.size_toArray]; exact hsz) (N _ hm).1 fun h' hs ho' => h h' (F.change hs (N _ hm).2.1 (N _ hm).2.2) fun _ hq => news_sem N hm hs (by rw [List.push_toArray] at ho'; exact ho') hq
end

section
variable {prog : Program} {w : World} {A : Around} {E : Value → Shared → Prop} {s : Shared} {env : Env} {h₀ : Heap} {x : Str} {body : List Stmt} {Q : Flow → Shared → Prop}
/-- a turn's end -/
def TurnEnd (h₀ : Heap) (L I : Addr) (oI : Obj) (src : List (Addr × Obj)) (J : (Str → Option Value) → List (Addr × Obj) → Prop) (s₁ : Shared) (Q : Flow → Shared → Prop) (f : Flow) (s₂ : Shared) : Prop :=
  match f with
  | .ret v => Q (.ret v) s₂
  | .brk => Q .next s₂
  | _ => ∃ h' tk m' nx, s₂ = { s₁ with heap := h', toks := tk } ∧ Fr h₀ L h' m' ∧ News h₀ L h' ((I, oI) :: nx) ∧ (∀ q ∈ src, q ∈ nx) ∧ (∀ q ∈ nx, q.1 ≠ I) ∧ J m' nx

theorem loop_my {I : Addr} {fp : List Addr} {n : Nat} {P : Nat → Value → Prop} {St : Nat → Heap → Prop} {m₀ : Str → Option Value} {news src : List (Addr × Obj)} (J : Nat → (Str → Option Value) → List (Addr × Obj) → Prop)
    (W : Walks prog w A I fp [I] n P St) (hI : h₀.get? I = none) (hLf : env.locals ∉ fp) (hlive : ∀ i h, St i h → ∃ o, h.get? I = some o) (hfp : ∀ b ∈ fp, b = I ∨ ∃ o, (b, o) ∈ src)
    (hst : St 0 s.heap) (F : Fr h₀ env.locals s.heap m₀) (N : News h₀ env.locals s.heap news) (hs : ∀ q ∈ src, q ∈ news) (hnI : ∀ q ∈ news, q.1 ≠ I) (hj : J 0 m₀ news)
    (turn : ∀ i v m₁ nx h tk oI, i < n → P i v → J i m₁ nx → (∀ q ∈ src, q ∈ nx) → (∀ q ∈ nx, q.1 ≠ I) → Fr h₀ env.locals h (fun y => if y = x then some v else m₁ y) → News h₀ env.locals h ((I, oI) :: nx) →
      wpAny (model prog w) A (execs body env) (TurnEnd h₀ env.locals I oI src (J (i + 1)) { s with heap := h, toks := tk } Q) E { s with heap := h, toks := tk })
    (done : ∀ m₁ nx h tk, J n m₁ nx → (∀ q ∈ src, q ∈ nx) → Fr h₀ env.locals h m₁ → News h₀ env.locals h nx → Q .next { s with heap := h, toks := tk }) :
    LoopAtV prog w A h₀ env x body Q E (.ref I) s := by
  have hLI : env.locals ≠ I := fun e => hLf (W.sub _ (by rw [e]; exact .head _))
  refine ⟨I, fp, [I], n, P, St, m₀, news, fun i m nx => (∀ q ∈ src, q ∈ nx) ∧ (∀ q ∈ nx, q.1 ≠ I) ∧ J i m nx, rfl, W, hLf, fun b hb => by rw [List.mem_singleton.mp hb]; exact hI, fun q hq hb => hnI q hq (List.mem_singleton.mp hb), hst, F, N, ⟨hs, hnI, hj⟩, ?_, ?_⟩
  · rintro i v m₁ nx s₁ own ⟨h, tk, rfl⟩ hin hP ⟨hsrc, hoff, hJ⟩ _ hown hget hall hst₁ F₁ N₁
    obtain ⟨oI, hoI⟩ := hlive _ _ hst₁
    have N₂ : News h₀ env.locals h ((I, oI) :: nx) := fun q hq => by
      rcases List.mem_cons.mp hq with rfl | hq
      · exact ⟨hoI, Ne.symm hLI, hI⟩
      · exact N₁ q (List.mem_append_right _ hq)
    refine wpAny_mono (turn i v m₁ nx h tk oI hin hP hJ hsrc hoff F₁ N₂) (fun f s₂ p => ?_) fun _ _ e => e
    have fin : (∃ h' tk' m' nx', s₂ = { s with heap := h', toks := tk' } ∧ Fr h₀ env.locals h' m' ∧ News h₀ env.locals h' ((I, oI) :: nx') ∧ (∀ q ∈ src, q ∈ nx') ∧ (∀ q ∈ nx', q.1 ≠ I) ∧ J (i + 1) m' nx') →
        LoopStepU h₀ env.locals [I] own (fun m nx => (∀ q ∈ src, q ∈ nx) ∧ (∀ q ∈ nx, q.1 ≠ I) ∧ J (i + 1) m nx) { s with heap := h, toks := tk } .next s₂ := by
      rintro ⟨h', tk', m', nx', rfl, F', N', hs', ho', hJ'⟩
      refine ⟨rfl, h', tk', m', nx', rfl, F', fun q hq => ?_, fun q hq hb => ho' q hq (List.mem_singleton.mp hb), hs', ho', hJ'⟩
      rcases List.mem_append.mp hq with hq | hq
      · have hg : h.get? q.1 = some q.2 := hget q hq
        rcases hfp _ (hown q hq) with e | ⟨o, ho⟩
        · rw [e, hoI] at hg
          rw [show q = (I, oI) from Prod.ext e (Option.some.inj hg).symm]
          exact N' _ (.head _)
        · have h2 : h.get? q.1 = some o := (N₂ _ (.tail _ (hsrc _ ho))).1
          rw [h2] at hg
          rw [show q = (q.1, o) from Prod.ext rfl (Option.some.inj hg).symm]
          exact N' _ (.tail _ (hs' _ ho))
      · exact N' _ (.tail _ hq)
    cases f with
    | ret v => exact .ret p
    | brk => exact .brk p
    | next => exact .next (fin p)
    | cont => exact .cont (fin p)
  · rintro h' tk m' nx F' N' _ ⟨hs', _, hJ⟩
    exact done m' nx h' tk hJ hs' F' N'

theorem for_list {l : Addr} {vs : List Value} {e : Nat} {m₀ : Str → Option Value} {news : List (Addr × Obj)} (J : Nat → (Str → Option Value) → List (Addr × Obj) → Prop)
    (hh : A.handled = none) (F : Fr h₀ env.locals s.heap m₀) (N : News h₀ env.locals s.heap news) (hl : (l, listOf vs.toArray e) ∈ news) (hj : J 0 m₀ news)
    (turn : ∀ i v m₁ nx h tk I oI, vs[i]? = some v → J i m₁ nx → (l, listOf vs.toArray e) ∈ nx → (∀ q ∈ nx, q.1 ≠ I) → Fr h₀ env.locals h (fun y => if y = x then some v else m₁ y) → News h₀ env.locals h ((I, oI) :: nx) →
      wpAny (model prog w) A (execs body env) (TurnEnd h₀ env.locals I oI [(l, listOf vs.toArray e)] (J (i + 1)) { s with heap := h, toks := tk } Q) E { s with heap := h, toks := tk })
    (done : ∀ m₁ nx h tk, J vs.length m₁ nx → (l, listOf vs.toArray e) ∈ nx → Fr h₀ env.locals h m₁ → News h₀ env.locals h nx → Q .next { s with heap := h, toks := tk }) :
    wpAny (model prog w) A (pyIter (.ref l)) (fun it s₂ => LoopAtV prog w A h₀ env x body Q E it s₂) E s := by
  have hol : s.heap.get? l = some (listOf vs.toArray e) := (N _ hl).1
  have hls : s.heap.IsList l vs.toArray := ⟨_, hol, rfl, e, rfl⟩
  have hne : l ≠ s.heap.objs.size := Nat.ne_of_lt (Heap.lt_size hol)
  refine wpAny_pyIter_list hls ?_
  have W := Walks.list (prog := prog) (w := w) hh s.heap.objs.size l hne vs.toArray
  have hlen : vs.toArray.size = vs.length := by simp
  rw [hlen] at W
  refine loop_my (src := [(l, listOf vs.toArray e)]) J W (next_is_new F) ?_ (fun i h st => let ⟨o, ho, _⟩ := st.1; ⟨o, ho⟩) ?_
    ⟨⟨_, Heap.get?_push_size _ rfl, rfl, rfl⟩, hls.at fun o e => Heap.get?_push_of_some _ e⟩ (F.push _) (fun p hp => ⟨Heap.get?_push_of_some _ (N p hp).1, (N p hp).2⟩) ?_ ?_ hj ?_ ?_
  · intro hm
    rcases List.mem_cons.mp hm with e | hm
    · exact absurd F.ns.lt (e ▸ Nat.lt_irrefl _)
    · exact (N _ hl).2.1 ((List.mem_singleton.mp hm).symm)
  · intro b hb
    rcases List.mem_cons.mp hb with rfl | hb
    · exact .inl rfl
    · rw [List.mem_singleton.mp hb]; exact .inr ⟨_, .head _⟩
  · intro q hq; rw [List.mem_singleton.mp hq]; exact hl
  · intro p hp hI
    exact absurd (Heap.lt_size (N p hp).1) (hI ▸ Nat.lt_irrefl _)
  · intro i v m₁ nx h tk oI hin hP hJ hs ho F₁ N₁
    exact turn i v m₁ nx h tk _ oI (by simpa using hP) hJ (hs _ (.head _)) ho F₁ N₁
  · intro m₁ nx h tk hJ hs F₁ N₁
    exact done m₁ nx h tk hJ (hs _ (.head _)) F₁ N₁

theorem for_range {r : Addr} {b₀ : Nat} {t₀ u₀ v₀ : Tok} {m₀ : Str → Option Value} {news : List (Addr × Obj)} (J : Nat → (Str → Option Value) → List (Addr × Obj) → Prop)
    (hh : A.handled = none) (hr : IsRange s.heap r 0 b₀ 1 t₀ u₀ v₀) (hsmall : b₀ < 2 ^ 62) (F : Fr h₀ env.locals s.heap m₀) (N : News h₀ env.locals s.heap news) (hj : J 0 m₀ news)
    (turn : ∀ (i : Nat) t m₁ nx h tk I oI, i < b₀ → J i m₁ nx → (∀ q ∈ nx, q.1 ≠ I) → Fr h₀ env.locals h (fun y => if y = x then some (.int (i : Int) t) else m₁ y) → News h₀ env.locals h ((I, oI) :: nx) →
      wpAny (model prog w) A (execs body env) (TurnEnd h₀ env.locals I oI [] (J (i + 1)) { s with heap := h, toks := tk } Q) E { s with heap := h, toks := tk })
    (done : ∀ m₁ nx h tk, J b₀ m₁ nx → Fr h₀ env.locals h m₁ → News h₀ env.locals h nx → Q .next { s with heap := h, toks := tk }) :
    wpAny (model prog w) A (pyIter (.ref r)) (fun it s₂ => LoopAtV prog w A h₀ env x body Q E it s₂) E s := by
  have hn : Builtin.Range.rangeSize 0 (b₀ : Int) 1 = (b₀ : Int) := by rw [rangeSize_one]; split <;> omega
  refine wpAny_pyIter_range hr (small_one (by decide) (by decide) (by omega) (by omega)) ?_
  have W : Walks prog w A s.heap.objs.size [s.heap.objs.size] [s.heap.objs.size] b₀ (fun i v => i < b₀ ∧ ∃ t, v = .int (0 + i * 1) t)
      (fun i h => IsRangeIter h s.heap.objs.size (0 + (i : Nat) * 1) ((b₀ : Int) - (i : Nat)) 1) := (Walks.range hh _ 0 1 b₀).bound
  refine loop_my (src := []) J W (next_is_new F) ?_ (fun i h st => ⟨_, st⟩) ?_ (by show IsRangeIter _ _ _ _ _; rw [hn]; simpa using Heap.get?_push_size _ rfl) (F.push _) (fun p hp => ⟨Heap.get?_push_of_some _ (N p hp).1, (N p hp).2⟩) (fun _ h => nomatch h) ?_ hj ?_ ?_
  · intro hm
    exact absurd F.ns.lt ((List.mem_singleton.mp hm) ▸ Nat.lt_irrefl _)
  · intro b hb; exact .inl (List.mem_singleton.mp hb)
  · intro p hp hI
    exact absurd (Heap.lt_size (N p hp).1) (hI ▸ Nat.lt_irrefl _)
  · rintro i v m₁ nx h tk oI hi ⟨_, t, rfl⟩ hJ _ ho F₁ N₁
    simp only [Int.mul_one, Int.zero_add] at F₁
    exact turn i t m₁ nx h tk _ oI hi hJ ho F₁ N₁
  · intro m₁ nx h tk hJ _ F₁ N₁
    exact done m₁ nx h tk hJ F₁ N₁

theorem for_dict {K : Type} [DecidableEq K] {knd : KeyKind prog w K} {d : Addr} {o : Obj} {kvs : List (K × Value)} {m₀ : Str → Option Value} {news : List (Addr × Obj)} (J : Nat → (Str → Option Value) → List (Addr × Obj) → Prop)
    (hh : A.handled = none) (F : Fr h₀ env.locals s.heap m₀) (N : News h₀ env.locals s.heap news) (hl : (d, o) ∈ news) (hd : o.IsDictOf knd kvs) (lo : (d == sysModules) = false) (hj : J 0 m₀ news)
    (turn : ∀ i k y v m₁ nx h tk I oI, kvs[i]? = some (k, y) → knd.is k v = true → J i m₁ nx → (d, o) ∈ nx → (∀ q ∈ nx, q.1 ≠ I) → Fr h₀ env.locals h (fun y => if y = x then some v else m₁ y) → News h₀ env.locals h ((I, oI) :: nx) →
      wpAny (model prog w) A (execs body env) (TurnEnd h₀ env.locals I oI [(d, o)] (J (i + 1)) { s with heap := h, toks := tk } Q) E { s with heap := h, toks := tk })
    (done : ∀ m₁ nx h tk, J kvs.length m₁ nx → (d, o) ∈ nx → Fr h₀ env.locals h m₁ → News h₀ env.locals h nx → Q .next { s with heap := h, toks := tk }) :
    wpAny (model prog w) A (pyIter (.ref d)) (fun it s₂ => LoopAtV prog w A h₀ env x body Q E it s₂) E s := by
  obtain ⟨ep, ha⟩ := KdkAt.of hd
  have hod : s.heap.get? d = some o := (N _ hl).1
  have hD := ha.dictAt hod
  have hne : d ≠ s.heap.objs.size := Nat.ne_of_lt (Heap.lt_size hod)
  refine wpAny_pyIter_dict lo hD ?_
  have W := Walks.dictKeys (prog := prog) (w := w) (knd := knd) hh s.heap.objs.size d hne kvs ep
  refine loop_my (src := [(d, o)]) J W (next_is_new F) ?_ (fun i h st => let ⟨o, ho, _⟩ := st.1; ⟨o, ho⟩) ?_
    ⟨⟨_, Heap.get?_push_size _ rfl, rfl, rfl⟩, hD.push _⟩ (F.push _) (fun p hp => ⟨Heap.get?_push_of_some _ (N p hp).1, (N p hp).2⟩) ?_ ?_ hj ?_ ?_
  · intro hm
    rcases List.mem_cons.mp hm with e | hm
    · exact absurd F.ns.lt (e ▸ Nat.lt_irrefl _)
    · exact (N _ hl).2.1 ((List.mem_singleton.mp hm).symm)
  · intro b hb
    rcases List.mem_cons.mp hb with rfl | hb
    · exact .inl rfl
    · rw [List.mem_singleton.mp hb]; exact .inr ⟨_, .head _⟩
  · intro q hq; rw [List.mem_singleton.mp hq]; exact hl
  · intro p hp hI
    exact absurd (Heap.lt_size (N p hp).1) (hI ▸ Nat.lt_irrefl _)
  · rintro i v m₁ nx h tk oI hin ⟨k, y, hx, hk⟩ hJ hs ho F₁ N₁
    exact turn i k y v m₁ nx h tk _ oI hx hk hJ (hs _ (.head _)) ho F₁ N₁
  · intro m₁ nx h tk hJ hs F₁ N₁
    exact done m₁ nx h tk hJ (hs _ (.head _)) F₁ N₁

theorem over_eq {x : Str} {ys : List Str} {m₁ m₀ : Str → Option Value} {v : Value} (hm : ∀ z, z ≠ x → z ∉ ys → m₁ z = m₀ z) :
    (fun y => if y = x then some v else m₁ y) = fun y => if y = x then some v else if y ∈ ys then m₁ y else m₀ y := by
  funext z
  by_cases h1 : z = x
  · simp [h1]
  · simp only [if_neg h1]
    by_cases h2 : z ∈ ys
    · simp only [if_pos h2]
    · simp only [if_neg h2]; exact hm z h1 h2
/-- what the names are behind a turn -/
def Named (x : Str) (ys : List Str) (m₀ : Str → Option Value) (J : (Str → Option Value) → List (Addr × Obj) → Prop) (m : Str → Option Value) (nx : List (Addr × Obj)) : Prop := (∀ z, z ≠ x → z ∉ ys → m z = m₀ z) ∧ J m nx

theorem for_listY (ys : List Str) {l : Addr} {vs : List Value} {e : Nat} {m₀ : Str → Option Value} {news : List (Addr × Obj)} (J : Nat → (Str → Option Value) → List (Addr × Obj) → Prop)
    (hh : A.handled = none) (F : Fr h₀ env.locals s.heap m₀) (N : News h₀ env.locals s.heap news) (hl : (l, listOf vs.toArray e) ∈ news) (hj : J 0 m₀ news)
    (turn : ∀ i v m₁ nx h tk I oI, vs[i]? = some v → J i m₁ nx → (l, listOf vs.toArray e) ∈ nx → (∀ q ∈ nx, q.1 ≠ I) → Fr h₀ env.locals h (fun y => if y = x then some v else if y ∈ ys then m₁ y else m₀ y) → News h₀ env.locals h ((I, oI) :: nx) →
      wpAny (model prog w) A (execs body env) (TurnEnd h₀ env.locals I oI [(l, listOf vs.toArray e)] (Named x ys m₀ (J (i + 1))) { s with heap := h, toks := tk } Q) E { s with heap := h, toks := tk })
    (done : ∀ m₁ nx h tk, J vs.length m₁ nx → (l, listOf vs.toArray e) ∈ nx → Fr h₀ env.locals h (fun y => if y ∈ x :: ys then m₁ y else m₀ y) → News h₀ env.locals h nx → Q .next { s with heap := h, toks := tk }) :
    wpAny (model prog w) A (pyIter (.ref l)) (fun it s₂ => LoopAtV prog w A h₀ env x body Q E it s₂) E s := by
  refine for_list (fun i => Named x ys m₀ (J i)) hh F N hl ⟨fun _ _ _ => rfl, hj⟩ ?_ ?_
  · intro i v m₁ nx h tk I oI hv hJ hl ho F₁ N₁
    rw [over_eq hJ.1] at F₁
    exact turn i v m₁ nx h tk I oI hv hJ.2 hl ho F₁ N₁
  · intro m₁ nx h tk hJ hl F₁ N₁
    refine done m₁ nx h tk hJ.2 hl ?_ N₁
    have e : (fun y => if y ∈ x :: ys then m₁ y else m₀ y) = m₁ := by
      funext z
      by_cases h2 : z ∈ x :: ys
      · simp only [if_pos h2]
      · simp only [if_neg h2]; exact (hJ.1 z (fun e => h2 (e ▸ .head _)) (fun e => h2 (.tail _ e))).symm
    rw [e]; exact F₁

theorem for_rangeY (ys : List Str) {r : Addr} {b₀ : Nat} {t₀ u₀ v₀ : Tok} {m₀ : Str → Option Value} {news : List (Addr × Obj)} (J : Nat → (Str → Option Value) → List (Addr × Obj) → Prop)
    (hh : A.handled = none) (hr : IsRange s.heap r 0 b₀ 1 t₀ u₀ v₀) (hsmall : b₀ < 2 ^ 62) (F : Fr h₀ env.locals s.heap m₀) (N : News h₀ env.locals s.heap news) (hj : J 0 m₀ news)
    (turn : ∀ (i : Nat) t m₁ nx h tk I oI, i < b₀ → J i m₁ nx → (∀ q ∈ nx, q.1 ≠ I) → Fr h₀ env.locals h (fun y => if y = x then some (.int (i : Int) t) else if y ∈ ys then m₁ y else m₀ y) → News h₀ env.locals h ((I, oI) :: nx) →
      wpAny (model prog w) A (execs body env) (TurnEnd h₀ env.locals I oI [] (Named x ys m₀ (J (i + 1))) { s with heap := h, toks := tk } Q) E { s with heap := h, toks := tk })
    (done : ∀ m₁ nx h tk, J b₀ m₁ nx → Fr h₀ env.locals h (fun y => if y ∈ x :: ys then m₁ y else m₀ y) → News h₀ env.locals h nx → Q .next { s with heap := h, toks := tk }) :
    wpAny (model prog w) A (pyIter (.ref r)) (fun it s₂ => LoopAtV prog w A h₀ env x body Q E it s₂) E s := by
  refine for_range (fun i => Named x ys m₀ (J i)) hh hr hsmall F N ⟨fun _ _ _ => rfl, hj⟩ ?_ ?_
  · intro i t m₁ nx h tk I oI hi hJ ho F₁ N₁
    rw [over_eq hJ.1] at F₁
    exact turn i t m₁ nx h tk I oI hi hJ.2 ho F₁ N₁
  · intro m₁ nx h tk hJ F₁ N₁
    refine done m₁ nx h tk hJ.2 ?_ N₁
    have e : (fun y => if y ∈ x :: ys then m₁ y else m₀ y) = m₁ := by
      funext z
      by_cases h2 : z ∈ x :: ys
      · simp only [if_pos h2]
      · simp only [if_neg h2]; exact (hJ.1 z (fun e => h2 (e ▸ .head _)) (fun e => h2 (.tail _ e))).symm
    rw [e]; exact F₁

theorem for_dictY (ys : List Str) {K : Type} [DecidableEq K] {knd : KeyKind prog w K} {d : Addr} {o : Obj} {kvs : List (K × Value)} {m₀ : Str → Option Value} {news : List (Addr × Obj)} (J : Nat → (Str → Option Value) → List (Addr × Obj) → Prop)
    (hh : A.handled = none) (F : Fr h₀ env.locals s.heap m₀) (N : News h₀ env.locals s.heap news) (hl : (d, o) ∈ news) (hd : o.IsDictOf knd kvs) (lo : (d == sysModules) = false) (hj : J 0 m₀ news)
    (turn : ∀ i k y v m₁ nx h tk I oI, kvs[i]? = some (k, y) → knd.is k v = true → J i m₁ nx → (d, o) ∈ nx → (∀ q ∈ nx, q.1 ≠ I) → Fr h₀ env.locals h (fun y => if y = x then some v else if y ∈ ys then m₁ y else m₀ y) → News h₀ env.locals h ((I, oI) :: nx) →
      wpAny (model prog w) A (execs body env) (TurnEnd h₀ env.locals I oI [(d, o)] (Named x ys m₀ (J (i + 1))) { s with heap := h, toks := tk } Q) E { s with heap := h, toks := tk })
    (done : ∀ m₁ nx h tk, J kvs.length m₁ nx → (d, o) ∈ nx → Fr h₀ env.locals h (fun y => if y ∈ x :: ys then m₁ y else m₀ y) → News h₀ env.locals h nx → Q .next { s with heap := h, toks := tk }) :
    wpAny (model prog w) A (pyIter (.ref d)) (fun it s₂ => LoopAtV prog w A h₀ env x body Q E it s₂) E s := by
  refine for_dict (knd := knd) (fun i => Named x ys m₀ (J i)) hh F N hl hd lo ⟨fun _ _ _ => rfl, hj⟩ ?_ ?_
  · intro i k y v m₁ nx h tk I oI hx hk hJ hl ho F₁ N₁
    rw [over_eq hJ.1] at F₁
    exact turn i k y v m₁ nx h tk I oI hx hk hJ.2 hl ho F₁ N₁
  · intro m₁ nx h tk hJ hl F₁ N₁
    refine done m₁ nx h tk hJ.2 hl ?_ N₁
    have e : (fun y => if y ∈ x :: ys then m₁ y else m₀ y) = m₁ := by
      funext z
      by_cases h2 : z ∈ x :: ys
      · simp only [if_pos h2]
      · simp only [if_neg h2]; exact (hJ.1 z (fun e => h2 (e ▸ .head _)) (fun e => h2 (.tail _ e))).symm
    rw [e]; exact F₁

theorem turn_next {L I : Addr} {oI : Obj} {src nx : List (Addr × Obj)} {ys : List Str} {m₀ m' : Str → Option Value} {J : (Str → Option Value) → List (Addr × Obj) → Prop} {s₁ : Shared} {h' : Heap} {tk : Nat}
    (F : Fr h₀ L h' m') (N : News h₀ L h' ((I, oI) :: nx)) (hs : ∀ q ∈ src, q ∈ nx) (ho : ∀ q ∈ nx, q.1 ≠ I) (hm : ∀ z, z ≠ x → z ∉ ys → m' z = m₀ z) (hJ : J m' nx) :
    TurnEnd h₀ L I oI src (Named x ys m₀ J) s₁ Q .next { s₁ with heap := h', toks := tk } := ⟨h', tk, m', nx, rfl, F, N, hs, ho, hm, hJ⟩
theorem one_in {q : Addr × Obj} {nx : List (Addr × Obj)} (h : q ∈ nx) : ∀ p ∈ [q], p ∈ nx := fun p hp => by rw [List.mem_singleton.mp hp]; exact h
end
-- the steps, up to a call of the text's own, a loop, a comprehension
local macro_rules | `(tactic| ktr_step) => `(tactic| (repeat' (first | (k_unfold; (try dsimp only)) | (k_end; wrow_close) | ((fail_if_success (with_reducible (first | show wpAny _ _ (PySem.call (Value.ref _) _ _) _ _ _ | show wpAny _ _ (pyIter _) _ _ _ | show wpAny _ _ (exec (Stmt.For _ _ _ _ _) _) _ _ _ | show wpAny _ _ (exec (Stmt.While _ _ _ _) _) _ _ _ | show wpAny _ _ (eval (PySem.Expr.ListComp _ _ _ _) _) _ _ _))); first | walk1 | (dsimp only; walk1)) | (leave1; walk_say "STEP leave1"; try dsimp only) | fail "no step")))
-- a call by its contract
local macro_rules | `(tactic| ktr_call $x $c) => `(tactic| (k_dflt (refine' tel_use $c ?B ?F ?X ?N $x ?T ?hk ?hd ?hu ?_; (case B => k_asm); (case F => k_asm); (case X => k_asm); (case N => k_asm); (case T => k_asm); (case hk => first | exact rfl | assumption); (case hd => ktr_room); (case hu => ktr_units))))
local macro_rules | `(tactic| k_room) => `(tactic| ktr_room)
local macro_rules | `(tactic| k_units) => `(tactic| ktr_units)
local macro_rules | `(tactic| k_enter) => `(tactic| (refine' code_def ?k1 ?k2 ?k3 ?k4 ?k5 ?kA ?kF ?kK ?k6 ?k7 ?k8 ?k9 ?kB ?_ ?c2 ?c3 ?c4 ?c5; (case kA => exact rfl); (case kF => exact rfl); (case kK => first | exact rfl | assumption); (case k1 => k_asm); (case k2 => k_asm); (case k3 => k_asm); (case k4 => k_asm); (case k5 => k_asm); (case k6 => k_is); (case k7 => k_is); (case k8 => k_room); (case k9 => first | exact BindsTo.of_eq rfl | exact binds_K (by k_in) rfl (by k_is) rfl rfl rfl | fail "k_enter: no rule for these arguments"); (case c5 => decide); (case kB => exact locs rfl); (case c2 => exact rfl); (case c3 => exact rfl); (case c4 => exact rfl); k_whole; intro g' L' h' FG' F' N' B' X' T'; (try dsimp only); (try k_lift B'); (try k_fold)))

local macro_rules | `(tactic| walk_at "call builtin:len") => `(tactic| (k_here; (with_reducible show wpAny _ _ (call (Value.builtin _) [Value.ref _]) _ _ _); k_dflt (refine' my_len ?N ?m ?f ?_; (case N => k_asm); (case m => k_mem); (case f => ((try simp only [List.length_map, List.length_append, List.length_cons, List.length_nil]); omega))); intro t' tk'; (try simp only [List.length_map, List.length_append, List.length_cons, List.length_nil])))
local macro_rules | `(tactic| walk_at "subscriptTail") => `(tactic| (k_here; (with_reducible show wpAny _ _ (subscriptTail _ _ (Value.ref _) (Value.int _ _)) _ _ _); (with_unfolding_all refine' my_item ?N ?m ?k0 ?k1 ?kx ?_ ?k6; (case N => k_asm); (case m => k_mem); (case k0 => omega); (case k1 => omega); (case kx => first | assumption | (simp only [Int.toNat_natCast]; assumption)); (case k6 => with_unfolding_all rfl); k_whole)))

local macro_rules | `(tactic| k_handed) => `(tactic| assumption)
local macro_rules | `(tactic| k_mem) => `(tactic| first | with_reducible assumption | ((with_reducible refine List.mem_cons_of_mem _ ?_); k_mem))
local macro_rules | `(tactic| is_list) => `(tactic| exact News.isList (by assumption) (by k_mem))
local macro_rules | `(tactic| size_fits) => `(tactic| ((try simp only [List.size_toArray, List.length_map, List.length_append, List.length_cons, List.length_nil, sizeLine_eq]); omega))
local macro_rules | `(tactic| walk_at "call builtin:list.append") => `(tactic| (k_here; (with_reducible show wpAny _ _ (call (Value.builtin _) [Value.ref _, _]) _ _ _); k_dflt (refine' append_sem ?F ?N ?m ?z ?_; (case F => k_asm); (case N => k_asm); (case m => assumption); (case z => size_fits))))
variable {prog : Program} {w : World} {p : Program} {loose : List Str} {mean : ExcName → Option Value} {mg mb : Str → Option Value}

theorem quiet_M1 : True := by
  w_top off
  trivial
/-- the objects of one node -/
structure Nd where
  x : Addr
  d : Addr
  c : Addr
  at' : Addr
  ns : Addr
  tk : Nat → Tok
  kind : Value
  name : Value
  uri : Value
  loc : Value
  val : Value
  par : Value
  ch : List Value
  cn : Nat
  as : List Value
  an : Nat
  ss : List Value
  sn : Nat

def ndDict (P : Params) (n : Nd) : List DictEntry :=
  [⟨PyData.keyHash P (Str.ofString "kind"), .str (Str.ofString "kind") (n.tk 0), n.kind⟩,
   ⟨PyData.keyHash P (Str.ofString "name"), .str (Str.ofString "name") (n.tk 1), n.name⟩,
   ⟨PyData.keyHash P (Str.ofString "uri"), .str (Str.ofString "uri") (n.tk 2), n.uri⟩,
   ⟨PyData.keyHash P (Str.ofString "local"), .str (Str.ofString "local") (n.tk 3), n.loc⟩,
   ⟨PyData.keyHash P (Str.ofString "value"), .str (Str.ofString "value") (n.tk 4), n.val⟩,
   ⟨PyData.keyHash P (Str.ofString "parent"), .str (Str.ofString "parent") (n.tk 5), n.par⟩,
   ⟨PyData.keyHash P (Str.ofString "children"), .str (Str.ofString "children") (n.tk 6), .ref n.c⟩,
   ⟨PyData.keyHash P (Str.ofString "attributes"), .str (Str.ofString "attributes") (n.tk 7), .ref n.at'⟩,
   ⟨PyData.keyHash P (Str.ofString "namespaces"), .str (Str.ofString "namespaces") (n.tk 8), .ref n.ns⟩]

def ndObjs (P : Params) (n : Nd) : List (Addr × Obj) :=
  [(n.x, instObj 106 n.d), (n.d, dictOf (ndDict P n) 9), (n.c, listOf n.ch.toArray n.cn), (n.at', listOf n.as.toArray n.an), (n.ns, listOf n.ss.toArray n.sn)]

structure Tr where
  t : Addr
  d : Addr
  r : Addr
  tk : Tok
  nodes : List Nd
  rn : Nat

def trObjs (P : Params) (T : Tr) : List (Addr × Obj) :=
  (T.t, instObj 295 T.d) :: (T.d, dictOf [⟨PyData.keyHash P (Str.ofString "rows"), .str (Str.ofString "rows") T.tk, .ref T.r⟩] 1) ::
  (T.r, listOf (T.nodes.map fun n => Value.ref n.x).toArray T.rn) :: T.nodes.flatMap (ndObjs P)

theorem tr_t {P : Params} {T : Tr} {news : List (Addr × Obj)} (h : ∀ p ∈ trObjs P T, p ∈ news) : (T.t, instObj 295 T.d) ∈ news := h _ (.head _)
theorem tr_d {P : Params} {T : Tr} {news : List (Addr × Obj)} (h : ∀ p ∈ trObjs P T, p ∈ news) : (T.d, dictOf [⟨PyData.keyHash P (Str.ofString "rows"), .str (Str.ofString "rows") T.tk, .ref T.r⟩] 1) ∈ news := h _ (.tail _ (.head _))
theorem tr_r {P : Params} {T : Tr} {news : List (Addr × Obj)} (h : ∀ p ∈ trObjs P T, p ∈ news) : (T.r, listOf (T.nodes.map fun n => Value.ref n.x).toArray T.rn) ∈ news := h _ (.tail _ (.tail _ (.head _)))
theorem tr_row {T : Tr} {k : Nat} {nd : Nd} (h : T.nodes[k]? = some nd) : (T.nodes.map fun n => Value.ref n.x)[k]? = some (.ref nd.x) := by simp [h]
theorem tr_len {T : Tr} {k : Nat} {nd : Nd} (h : T.nodes[k]? = some nd) : k < T.nodes.length := by
  rcases Nat.lt_or_ge k T.nodes.length with h1 | h1
  · exact h1
  · rw [List.getElem?_eq_none h1] at h; cases h

set_option maxHeartbeats 4000000 in
theorem row_ok {news : List (Addr × Obj)} {T : Tr} {k : Nat} {kt : Tok} {nd : Nd} (hT : ∀ p ∈ trObjs w.params T, p ∈ news) (hk : T.nodes[k]? = some nd) (hsz : T.nodes.length ≤ 1000) :
    Tel prog w (hd.heap_1 w.params) p loose mean mg mb 5 50 news (call (.ref 138) [.ref T.t, .int k kt]) (fun r news' => r = .ref nd.x ∧ news' = news) := by
  unfold Tel
  intro dp un gd cn cs a ccd cl outer A₀ base h₀ L m s Q E B F X N T0 hkf hd hu hret
  have m1 := tr_t hT
  have m2 := tr_d hT
  have m3 := tr_r hT
  have hx := tr_row hk
  have hlt := tr_len hk
  k_steps
  exact hret _ _ _ _ (by k_asm) (by k_asm) ⟨rfl, rfl⟩

theorem ap_perm {l l' : List (Addr × Obj)} (h : Ap l) (hp : l.Perm l') : Ap l' := by
  unfold Ap at *
  exact ((hp.map _).nodup_iff).mp h
theorem upd_perm {D : Addr} {o o' : Obj} {l l' others : List (Addr × Obj)} (hap : Ap l) (hp : l.Perm ((D, o) :: others)) (hp' : l'.Perm ((D, o') :: others)) :
    (∀ q ∈ l', q = (D, o') ∨ (q ∈ l ∧ q.1 ≠ D)) ∧ Ap l' := by
  have h1 : Ap ((D, o) :: others) := ap_perm hap hp
  have h2 : Ap ((D, o') :: others) := h1
  refine ⟨fun q hq => ?_, ap_perm h2 hp'.symm⟩
  rcases List.mem_cons.mp (hp'.mem_iff.mp hq) with h | h
  · exact .inl h
  · refine .inr ⟨hp.mem_iff.mpr (.tail _ h), fun e => ?_⟩
    have h3 := (List.nodup_cons.mp h1).1
    exact h3 (List.mem_map.mpr ⟨q, h, e⟩)
theorem upd_mid {D : Addr} {o o' : Obj} {pre post : List (Addr × Obj)} (hap : Ap (pre ++ (D, o) :: post)) :
    (∀ q ∈ pre ++ (D, o') :: post, q = (D, o') ∨ (q ∈ pre ++ (D, o) :: post ∧ q.1 ≠ D)) ∧ Ap (pre ++ (D, o') :: post) :=
  upd_perm hap List.perm_middle List.perm_middle

/-- a fresh node of a tree -/
theorem new_nd {P : Params} {h₀ h : Heap} {L x d c a s : Addr} {t0 t1 t2 t3 t4 t5 t6 t7 t8 : Tok} {v1 v2 v3 v4 v5 v6 : Value} {news : List (Addr × Obj)}
    (N : News h₀ L h ((s, listOf #[] 0) :: (a, listOf #[] 0) :: (c, listOf #[] 0) :: (x, instObj 106 d) :: (d, dictOf [
      ⟨PyData.keyHash P (Str.ofString "kind"), .str (Str.ofString "kind") t0, v1⟩, ⟨PyData.keyHash P (Str.ofString "name"), .str (Str.ofString "name") t1, v2⟩,
      ⟨PyData.keyHash P (Str.ofString "uri"), .str (Str.ofString "uri") t2, v3⟩, ⟨PyData.keyHash P (Str.ofString "local"), .str (Str.ofString "local") t3, v4⟩,
      ⟨PyData.keyHash P (Str.ofString "value"), .str (Str.ofString "value") t4, v5⟩, ⟨PyData.keyHash P (Str.ofString "parent"), .str (Str.ofString "parent") t5, v6⟩,
      ⟨PyData.keyHash P (Str.ofString "children"), .str (Str.ofString "children") t6, .ref c⟩, ⟨PyData.keyHash P (Str.ofString "attributes"), .str (Str.ofString "attributes") t7, .ref a⟩,
      ⟨PyData.keyHash P (Str.ofString "namespaces"), .str (Str.ofString "namespaces") t8, .ref s⟩] 9) :: news))
    (hap : Ap news) (h1 : ∀ q ∈ news, q.1 < d) (h2 : @LT.lt Nat _ d x) (h3 : @LT.lt Nat _ x c) (h4 : @LT.lt Nat _ c a) (h5 : @LT.lt Nat _ a s) :
    ∃ nd : Nd, nd.x = x ∧ nd.kind = v1 ∧ nd.name = v2 ∧ nd.uri = v3 ∧ nd.loc = v4 ∧ nd.val = v5 ∧ nd.par = v6 ∧ nd.ch = [] ∧ nd.as = [] ∧ nd.ss = [] ∧
      News h₀ L h (ndObjs P nd ++ news) ∧ Ap (ndObjs P nd ++ news) := by
  refine ⟨⟨x, d, c, a, s, fun i => [t0, t1, t2, t3, t4, t5, t6, t7, t8].getD i 0, v1, v2, v3, v4, v5, v6, [], 0, [], 0, [], 0⟩, rfl, rfl, rfl, rfl, rfl, rfl, rfl, rfl, rfl, rfl, News.of N ?_, ?_⟩
  · intro q hq
    simp only [ndObjs, ndDict, List.cons_append, List.nil_append, List.mem_cons] at hq
    rcases hq with rfl | rfl | rfl | rfl | rfl | hq
    · exact .tail _ (.tail _ (.tail _ (.head _)))
    · exact .tail _ (.tail _ (.tail _ (.tail _ (.head _))))
    · exact .tail _ (.tail _ (.head _))
    · exact .tail _ (.head _)
    · exact .head _
    · exact .tail _ (.tail _ (.tail _ (.tail _ (.tail _ hq))))
  · have lt : ∀ y, d ≤ y → y ∉ news.map (·.1) := fun y hy hm => by
      obtain ⟨q, hq, e⟩ := List.mem_map.mp hm
      have := h1 q hq
      exact absurd (e ▸ this) (Nat.not_lt.mpr hy)
    have l1 : d ≤ d := Nat.le_refl _
    have l2 : d ≤ x := Nat.le_of_lt h2
    have l3 : d ≤ c := Nat.le_trans l2 (Nat.le_of_lt h3)
    have l4 : d ≤ a := Nat.le_trans l3 (Nat.le_of_lt h4)
    have l5 : d ≤ s := Nat.le_trans l4 (Nat.le_of_lt h5)
    have n1 := lt d l1
    have n2 := lt x l2
    have n3 := lt c l3
    have n4 := lt a l4
    have n5 := lt s l5
    show List.Nodup (x :: d :: c :: a :: s :: news.map (·.1))
    have e1 : x ≠ d := Nat.ne_of_gt h2
    have e2 : x ≠ c := Nat.ne_of_lt h3
    have e3 : x ≠ a := Nat.ne_of_lt (Nat.lt_trans h3 h4)
    have e4 : x ≠ s := Nat.ne_of_lt (Nat.lt_trans h3 (Nat.lt_trans h4 h5))
    have e5 : d ≠ c := Nat.ne_of_lt (Nat.lt_trans h2 h3)
    have e6 : d ≠ a := Nat.ne_of_lt (Nat.lt_trans h2 (Nat.lt_trans h3 h4))
    have e7 : d ≠ s := Nat.ne_of_lt (Nat.lt_trans h2 (Nat.lt_trans h3 (Nat.lt_trans h4 h5)))
    have e8 : c ≠ a := Nat.ne_of_lt h4
    have e9 : c ≠ s := Nat.ne_of_lt (Nat.lt_trans h4 h5)
    have e10 : a ≠ s := Nat.ne_of_lt h5
    have hn : (news.map (·.1)).Nodup := hap
    simp only [List.nodup_cons, List.mem_cons, not_or]
    exact ⟨⟨e1, e2, e3, e4, n2⟩, ⟨e5, e6, e7, n1⟩, ⟨e8, e9, n3⟩, ⟨e10, n4⟩, n5, hn⟩

theorem tr_push {P : Params} {T : Tr} {nd : Nd} {rest : List (Addr × Obj)} (hap : Ap (ndObjs P nd ++ (trObjs P T ++ rest))) :
    (∀ q ∈ trObjs P { T with nodes := T.nodes ++ [nd], rn := T.rn + 1 } ++ rest, q = (T.r, listOf ((T.nodes.map fun n => Value.ref n.x) ++ [Value.ref nd.x]).toArray (T.rn + 1)) ∨ (q ∈ ndObjs P nd ++ (trObjs P T ++ rest) ∧ q.1 ≠ T.r)) ∧
      Ap (trObjs P { T with nodes := T.nodes ++ [nd], rn := T.rn + 1 } ++ rest) := by
  refine upd_perm (o := listOf (T.nodes.map fun n => Value.ref n.x).toArray T.rn) (others := (T.t, instObj 295 T.d) :: (T.d, dictOf [⟨PyData.keyHash P (Str.ofString "rows"), .str (Str.ofString "rows") T.tk, .ref T.r⟩] 1) :: (T.nodes.flatMap (ndObjs P) ++ (ndObjs P nd ++ rest))) hap ?_ ?_
  · unfold trObjs
    generalize (T.t, instObj 295 T.d) = e1
    generalize (T.d, dictOf [⟨PyData.keyHash P (Str.ofString "rows"), .str (Str.ofString "rows") T.tk, .ref T.r⟩] 1) = e2
    generalize (T.r, listOf (T.nodes.map fun n => Value.ref n.x).toArray T.rn) = e3
    generalize T.nodes.flatMap (ndObjs P) = e4
    generalize ndObjs P nd = e5
    refine List.perm_append_comm.trans ?_
    simp only [List.cons_append, List.append_assoc]
    refine (List.Perm.trans ?_ ((List.Perm.swap e3 e1 _).trans (List.Perm.refl _)))
    refine List.Perm.cons _ ?_
    refine (List.Perm.trans ?_ ((List.Perm.swap e3 e2 _).trans (List.Perm.refl _)))
    refine List.Perm.cons _ (List.Perm.cons _ (List.Perm.append_left _ List.perm_append_comm))
  · unfold trObjs
    have e : ((T.nodes.map fun n => Value.ref n.x) ++ [Value.ref nd.x]).toArray = ((T.nodes ++ [nd]).map fun n => Value.ref n.x).toArray := by simp
    rw [← e]
    dsimp only
    generalize (T.t, instObj 295 T.d) = e1
    generalize (T.d, dictOf [⟨PyData.keyHash P (Str.ofString "rows"), .str (Str.ofString "rows") T.tk, .ref T.r⟩] 1) = e2
    generalize (T.r, listOf _ _) = e3
    simp only [List.flatMap_append, List.flatMap_cons, List.flatMap_nil, List.append_nil, List.cons_append, List.append_assoc]
    refine (List.Perm.trans ?_ ((List.Perm.swap e3 e1 _).trans (List.Perm.refl _)))
    refine List.Perm.cons _ ?_
    exact List.Perm.swap e3 e2 _

set_option maxHeartbeats 4000000 in
theorem new_row {rest : List (Addr × Obj)} {T : Tr} {v1 v2 v3 v4 v5 v6 : Value} (hap : Ap (trObjs w.params T ++ rest)) (hsz : T.nodes.length ≤ 1000) :
    Tel prog w (hd.heap_1 w.params) p loose mean mg mb 20 200 (trObjs w.params T ++ rest) (call (.ref 131) [.ref T.t, v1, v2, v3, v4, v5, v6]) (fun r news' => 
      ∃ nd tk, r = .int T.nodes.length tk ∧ nd.kind = v1 ∧ nd.name = v2 ∧ nd.uri = v3 ∧ nd.loc = v4 ∧ nd.val = v5 ∧ nd.par = v6 ∧ nd.ch = [] ∧ nd.as = [] ∧ nd.ss = [] ∧
        news' = trObjs w.params { T with nodes := T.nodes ++ [nd], rn := T.rn + 1 } ++ rest ∧ Ap news') := by
  unfold Tel
  intro dp un gd cn cs a ccd cl outer A₀ base h₀ L m s Q E B F X N T0 hkf hd hu hret
  have hT : ∀ q ∈ trObjs w.params T, q ∈ trObjs w.params T ++ rest := fun q hq => List.mem_append_left _ hq
  generalize hn : trObjs w.params T ++ rest = news at N hT hap
  have m1 := tr_t hT
  have m2 := tr_d hT
  have m3 := tr_r hT
  k_steps
  rename Fr _ _ _ _ => F1
  rename News _ _ _ _ => N1
  obtain ⟨nd, hx, h1, h2, h3, h4, h5, h6, h7, h8, h9, N2, A2⟩ := new_nd N1 hap (by assumption) (by assumption) (by omega) (by omega) (by omega)
  clear N1
  subst hn
  obtain ⟨hq, hap'⟩ := tr_push A2
  have m4 : (T.r, listOf (T.nodes.map fun n => Value.ref n.x).toArray T.rn) ∈ ndObjs w.params nd ++ (trObjs w.params T ++ rest) := List.mem_append_right _ (List.mem_append_left _ (tr_r fun _ h => h))
  walk1
  intro h'' F2 N3
  have N4 := N3 _ (hx ▸ hq)
  clear N3
  have hT' : ∀ q ∈ trObjs w.params { T with nodes := T.nodes ++ [nd], rn := T.rn + 1 }, q ∈ trObjs w.params { T with nodes := T.nodes ++ [nd], rn := T.rn + 1 } ++ rest := fun q hq => List.mem_append_left _ hq
  clear m1 m2 m3 m4 hT N2
  generalize hn : trObjs w.params { T with nodes := T.nodes ++ [nd], rn := T.rn + 1 } ++ rest = news at N4 hT' hap'
  have m1 := tr_t hT'
  have m2 := tr_d hT'
  have m3 := tr_r hT'
  dsimp only at m1 m2 m3
  k_steps
  rename Fr _ _ _ _ => F3
  rename News _ _ _ _ => N5
  subst hn
  exact hret _ _ _ _ F3 N5 ⟨nd, _, by congr 1; omega, h1, h2, h3, h4, h5, h6, h7, h8, h9, rfl, hap'⟩

set_option maxHeartbeats 4000000 in
theorem new_root {rest : List (Addr × Obj)} {T : Tr} (hap : Ap (trObjs w.params T ++ rest)) (hsz : T.nodes.length ≤ 1000) :
    Tel prog w (hd.heap_1 w.params) p loose mean mg mb 25 250 (trObjs w.params T ++ rest) (call (.ref 145) [.ref T.t]) (fun r news' => 
      ∃ nd tk, r = .int T.nodes.length tk ∧ (∃ t, nd.kind = .str (Str.ofString "root") t) ∧ nd.par = .none ∧ nd.ch = [] ∧ nd.as = [] ∧ nd.ss = [] ∧
        news' = trObjs w.params { T with nodes := T.nodes ++ [nd], rn := T.rn + 1 } ++ rest ∧ Ap news') := by
  unfold Tel
  intro dp un gd cn cs a ccd cl outer A₀ base h₀ L m s Q E B F X N T0 hkf hd hu hret
  have m1 := tr_t (T := T) (news := trObjs w.params T ++ rest) fun _ h => List.mem_append_left _ h
  have m2 := tr_d (T := T) (news := trObjs w.params T ++ rest) fun _ h => List.mem_append_left _ h
  walk1
  ktr_step
  ktr_call (fun _ h => h) (new_row hap hsz)
  rintro _ _ h1 tk1 F1 N1 ⟨nd, tk, rfl, e1, _, _, _, _, e6, e7, e8, e9, rfl, hap'⟩
  ktr_step
  rename Fr _ _ _ _ => F3
  rename News _ _ _ _ => N5
  exact hret _ _ _ _ F3 N5 ⟨nd, _, rfl, ⟨_, e1⟩, e6, e7, e8, e9, rfl, hap'⟩
theorem quiet_M2 : True := by
  w_top off
  trivial
theorem nd_mem {P : Params} {T : Tr} {k : Nat} {nd : Nd} {news : List (Addr × Obj)} (h : T.nodes[k]? = some nd) (hT : ∀ q ∈ trObjs P T, q ∈ news) : ∀ q ∈ ndObjs P nd, q ∈ news := fun q hq =>
  hT q (.tail _ (.tail _ (.tail _ (List.mem_flatMap.mpr ⟨nd, List.mem_of_getElem? h, hq⟩))))
theorem nd_x {P : Params} {nd : Nd} {news : List (Addr × Obj)} (h : ∀ q ∈ ndObjs P nd, q ∈ news) : (nd.x, instObj 106 nd.d) ∈ news := h _ (.head _)
theorem nd_d {P : Params} {nd : Nd} {news : List (Addr × Obj)} (h : ∀ q ∈ ndObjs P nd, q ∈ news) : (nd.d, dictOf (ndDict P nd) 9) ∈ news := h _ (.tail _ (.head _))
theorem nd_c {P : Params} {nd : Nd} {news : List (Addr × Obj)} (h : ∀ q ∈ ndObjs P nd, q ∈ news) : (nd.c, listOf nd.ch.toArray nd.cn) ∈ news := h _ (.tail _ (.tail _ (.head _)))
theorem nd_a {P : Params} {nd : Nd} {news : List (Addr × Obj)} (h : ∀ q ∈ ndObjs P nd, q ∈ news) : (nd.at', listOf nd.as.toArray nd.an) ∈ news := h _ (.tail _ (.tail _ (.tail _ (.head _))))
theorem nd_s {P : Params} {nd : Nd} {news : List (Addr × Obj)} (h : ∀ q ∈ ndObjs P nd, q ∈ news) : (nd.ns, listOf nd.ss.toArray nd.sn) ∈ news := h _ (.tail _ (.tail _ (.tail _ (.tail _ (.head _)))))

set_option maxHeartbeats 4000000 in
theorem kind_ok {news : List (Addr × Obj)} {T : Tr} {k : Nat} {kt : Tok} {nd : Nd} {K : Str} {tK : Tok} (hT : ∀ q ∈ trObjs w.params T, q ∈ news) (hk : T.nodes[k]? = some nd) (hK : nd.kind = .str K tK) (hsz : T.nodes.length ≤ 1000) :
    Tel prog w (hd.heap_1 w.params) p loose mean mg mb 10 100 news (call (.ref 215) [.ref T.t, .int k kt]) (fun r news' => r = .str K tK ∧ news' = news) := by
  unfold Tel
  intro dp un gd cn cs a ccd cl outer A₀ base h₀ L m s Q E B F X N T0 hkf hd hu hret
  have m1 := tr_t hT
  have m2 := tr_d hT
  have hn := nd_mem hk hT
  have m4 := nd_x hn
  have m5 := nd_d hn
  have hh : handedIn nd.kind = true := by rw [hK]; rfl
  walk1
  ktr_step
  ktr_call (fun _ h => h) (row_ok hT hk hsz)
  rintro _ _ h1 tk1 F1 N1 ⟨rfl, rfl⟩
  ktr_step
  exact hret _ _ _ _ (by k_asm) (by k_asm) ⟨hK, rfl⟩

set_option maxHeartbeats 4000000 in
theorem parent_ok {news : List (Addr × Obj)} {T : Tr} {k : Nat} {kt : Tok} {nd : Nd} (hT : ∀ q ∈ trObjs w.params T, q ∈ news) (hk : T.nodes[k]? = some nd) (hh : handedIn nd.par = true) (hsz : T.nodes.length ≤ 1000) :
    Tel prog w (hd.heap_1 w.params) p loose mean mg mb 10 100 news (call (.ref 250) [.ref T.t, .int k kt]) (fun r news' => r = nd.par ∧ news' = news) := by
  unfold Tel
  intro dp un gd cn cs a ccd cl outer A₀ base h₀ L m s Q E B F X N T0 hkf hd hu hret
  have m1 := tr_t hT
  have m2 := tr_d hT
  have hn := nd_mem hk hT
  have m4 := nd_x hn
  have m5 := nd_d hn
  walk1
  ktr_step
  ktr_call (fun _ h => h) (row_ok hT hk hsz)
  rintro _ _ h1 tk1 F1 N1 ⟨rfl, rfl⟩
  ktr_step
  exact hret _ _ _ _ (by k_asm) (by k_asm) ⟨rfl, rfl⟩

set_option maxHeartbeats 4000000 in
theorem children_ok {news : List (Addr × Obj)} {T : Tr} {k : Nat} {kt : Tok} {nd : Nd} (hT : ∀ q ∈ trObjs w.params T, q ∈ news) (hk : T.nodes[k]? = some nd) (hsz : T.nodes.length ≤ 1000) (hl : nd.ch.length ≤ 1000) :
    Tel prog w (hd.heap_1 w.params) p loose mean mg mb 10 100 news (call (.ref 257) [.ref T.t, .int k kt]) (fun r news' => ∃ q e, r = .ref q ∧ news' = (q, listOf nd.ch.toArray e) :: news ∧ ∀ p ∈ news, p.1 < q) := by
  unfold Tel
  intro dp un gd cn cs a ccd cl outer A₀ base h₀ L m s Q E B F X N T0 hkf hd hu hret
  have m1 := tr_t hT
  have m2 := tr_d hT
  have hn := nd_mem hk hT
  have m4 := nd_x hn
  have m5 := nd_d hn
  have m6 := nd_c hn
  walk1
  ktr_step
  ktr_call (fun _ h => h) (row_ok hT hk hsz)
  rintro _ _ h1 tk1 F1 N1 ⟨rfl, rfl⟩
  ktr_step
  rename Fr _ _ _ _ => F3
  rename News _ _ _ _ => N5
  exact hret _ _ _ _ F3 N5 ⟨_, _, rfl, rfl, by assumption⟩
theorem quiet_M3 : True := by
  w_top off
  trivial
theorem set_split {α : Type} {l : List α} {k : Nat} {a b : α} (h : l[k]? = some a) : ∃ l1 l2, l = l1 ++ a :: l2 ∧ l.set k b = l1 ++ b :: l2 ∧ l1.length = k := by
  induction l generalizing k with
  | nil => simp at h
  | cons x r ih =>
    cases k with
    | zero => simp at h; subst h; exact ⟨[], r, rfl, rfl, rfl⟩
    | succ k =>
      simp only [List.getElem?_cons_succ] at h
      obtain ⟨l1, l2, e1, e2, e3⟩ := ih h
      exact ⟨x :: l1, l2, by rw [e1]; rfl, by rw [List.set_cons_succ, e2]; rfl, by rw [List.length_cons, e3]⟩

theorem tr_set {P : Params} {T : Tr} {k : Nat} {nd nd1 : Nd} {D : Addr} {o o' : Obj} {pre post rest : List (Addr × Obj)} (hk : T.nodes[k]? = some nd) (e1 : ndObjs P nd = pre ++ (D, o) :: post) (e2 : ndObjs P nd1 = pre ++ (D, o') :: post) (hx : nd1.x = nd.x)
    (hap : Ap (trObjs P T ++ rest)) : (∀ q ∈ trObjs P { T with nodes := T.nodes.set k nd1 } ++ rest, q = (D, o') ∨ (q ∈ trObjs P T ++ rest ∧ q.1 ≠ D)) ∧ Ap (trObjs P { T with nodes := T.nodes.set k nd1 } ++ rest) := by
  obtain ⟨l1, l2, h1, h2, _⟩ := set_split (b := nd1) hk
  have hm : (T.nodes.set k nd1).map (fun n => Value.ref n.x) = T.nodes.map fun n => Value.ref n.x := by rw [h1, List.map_append, List.map_cons] at *; rw [h2, List.map_append, List.map_cons, hx]
  have E1 : trObjs P T ++ rest = ((T.t, instObj 295 T.d) :: (T.d, dictOf [⟨PyData.keyHash P (Str.ofString "rows"), .str (Str.ofString "rows") T.tk, .ref T.r⟩] 1) ::
      (T.r, listOf (T.nodes.map fun n => Value.ref n.x).toArray T.rn) :: (l1.flatMap (ndObjs P) ++ pre)) ++ (D, o) :: (post ++ (l2.flatMap (ndObjs P) ++ rest)) := by
    unfold trObjs
    generalize (T.r, listOf _ _) = e3
    rw [h1, List.flatMap_append, List.flatMap_cons, e1]
    simp only [List.cons_append, List.append_assoc]
  have E2 : trObjs P { T with nodes := T.nodes.set k nd1 } ++ rest = ((T.t, instObj 295 T.d) :: (T.d, dictOf [⟨PyData.keyHash P (Str.ofString "rows"), .str (Str.ofString "rows") T.tk, .ref T.r⟩] 1) ::
      (T.r, listOf (T.nodes.map fun n => Value.ref n.x).toArray T.rn) :: (l1.flatMap (ndObjs P) ++ pre)) ++ (D, o') :: (post ++ (l2.flatMap (ndObjs P) ++ rest)) := by
    unfold trObjs
    dsimp only
    rw [hm]
    generalize (T.r, listOf _ _) = e3
    rw [h2, List.flatMap_append, List.flatMap_cons, e2]
    simp only [List.cons_append, List.append_assoc]
  rw [E1] at hap ⊢
  rw [E2]
  exact upd_mid hap

theorem tr_ch {P : Params} {T : Tr} {k : Nat} {nd : Nd} {rest : List (Addr × Obj)} (its : List Value) (n : Nat) (hk : T.nodes[k]? = some nd) (hap : Ap (trObjs P T ++ rest)) :
    (∀ q ∈ trObjs P { T with nodes := T.nodes.set k { nd with ch := its, cn := n } } ++ rest, q = (nd.c, listOf its.toArray n) ∨ (q ∈ trObjs P T ++ rest ∧ q.1 ≠ nd.c)) ∧ Ap (trObjs P { T with nodes := T.nodes.set k { nd with ch := its, cn := n } } ++ rest) :=
  tr_set (o := listOf nd.ch.toArray nd.cn) (pre := [(nd.x, instObj 106 nd.d), (nd.d, dictOf (ndDict P nd) 9)]) (post := [(nd.at', listOf nd.as.toArray nd.an), (nd.ns, listOf nd.ss.toArray nd.sn)]) hk rfl rfl rfl hap
theorem tr_as {P : Params} {T : Tr} {k : Nat} {nd : Nd} {rest : List (Addr × Obj)} (its : List Value) (n : Nat) (hk : T.nodes[k]? = some nd) (hap : Ap (trObjs P T ++ rest)) :
    (∀ q ∈ trObjs P { T with nodes := T.nodes.set k { nd with as := its, an := n } } ++ rest, q = (nd.at', listOf its.toArray n) ∨ (q ∈ trObjs P T ++ rest ∧ q.1 ≠ nd.at')) ∧ Ap (trObjs P { T with nodes := T.nodes.set k { nd with as := its, an := n } } ++ rest) :=
  tr_set (o := listOf nd.as.toArray nd.an) (pre := [(nd.x, instObj 106 nd.d), (nd.d, dictOf (ndDict P nd) 9), (nd.c, listOf nd.ch.toArray nd.cn)]) (post := [(nd.ns, listOf nd.ss.toArray nd.sn)]) hk rfl rfl rfl hap
theorem tr_ss {P : Params} {T : Tr} {k : Nat} {nd : Nd} {rest : List (Addr × Obj)} (its : List Value) (n : Nat) (hk : T.nodes[k]? = some nd) (hap : Ap (trObjs P T ++ rest)) :
    (∀ q ∈ trObjs P { T with nodes := T.nodes.set k { nd with ss := its, sn := n } } ++ rest, q = (nd.ns, listOf its.toArray n) ∨ (q ∈ trObjs P T ++ rest ∧ q.1 ≠ nd.ns)) ∧ Ap (trObjs P { T with nodes := T.nodes.set k { nd with ss := its, sn := n } } ++ rest) :=
  tr_set (o := listOf nd.ss.toArray nd.sn) (pre := [(nd.x, instObj 106 nd.d), (nd.d, dictOf (ndDict P nd) 9), (nd.c, listOf nd.ch.toArray nd.cn), (nd.at', listOf nd.as.toArray nd.an)]) (post := []) hk rfl rfl rfl hap
theorem tr_par {P : Params} {T : Tr} {k : Nat} {nd : Nd} {rest : List (Addr × Obj)} (v : Value) (hk : T.nodes[k]? = some nd) (hap : Ap (trObjs P T ++ rest)) :
    (∀ q ∈ trObjs P { T with nodes := T.nodes.set k { nd with par := v } } ++ rest, q = (nd.d, dictOf (ndDict P { nd with par := v }) 9) ∨ (q ∈ trObjs P T ++ rest ∧ q.1 ≠ nd.d)) ∧ Ap (trObjs P { T with nodes := T.nodes.set k { nd with par := v } } ++ rest) :=
  tr_set (o := dictOf (ndDict P nd) 9) (pre := [(nd.x, instObj 106 nd.d)]) (post := [(nd.c, listOf nd.ch.toArray nd.cn), (nd.at', listOf nd.as.toArray nd.an), (nd.ns, listOf nd.ss.toArray nd.sn)]) hk rfl rfl rfl hap

/-- what a new row is -/
structure IsNew (nd : Nd) (kind par : Value) : Prop where
  kind : nd.kind = kind
  par : nd.par = par
  ch : nd.ch = []
  as : nd.as = []
  ss : nd.ss = []

set_option maxHeartbeats 4000000 in
theorem add_child_none {rest : List (Addr × Obj)} {T : Tr} {v2 v3 v4 v5 v6 : Value} (hap : Ap (trObjs w.params T ++ rest)) (hsz : T.nodes.length ≤ 1000) :
    Tel prog w (hd.heap_1 w.params) p loose mean mg mb 30 300 (trObjs w.params T ++ rest) (call (.ref 152) [.ref T.t, .none, v2, v3, v4, v5, v6]) (fun r news' => 
      ∃ nd tk, r = .int T.nodes.length tk ∧ IsNew nd v2 .none ∧ news' = trObjs w.params { T with nodes := T.nodes ++ [nd], rn := T.rn + 1 } ++ rest ∧ Ap news') := by
  unfold Tel
  intro dp un gd cn cs a ccd cl outer A₀ base h₀ L m s Q E B F X N T0 hkf hd hu hret
  have m1 := tr_t (T := T) (news := trObjs w.params T ++ rest) fun _ h => List.mem_append_left _ h
  have m2 := tr_d (T := T) (news := trObjs w.params T ++ rest) fun _ h => List.mem_append_left _ h
  walk1
  ktr_step
  ktr_call (fun _ h => h) (new_row hap hsz)
  rintro _ _ h1 tk1 F1 N1 ⟨nd, tk, rfl, e1, _, _, _, _, e6, e7, e8, e9, rfl, hap'⟩
  ktr_step
  rename Fr _ _ _ _ => F3
  rename News _ _ _ _ => N5
  exact hret _ _ _ _ F3 N5 ⟨nd, _, rfl, ⟨e1, e6, e7, e8, e9⟩, rfl, hap'⟩

set_option maxHeartbeats 4000000 in
theorem add_child_some {rest : List (Addr × Obj)} {T : Tr} {k : Nat} {kt : Tok} {pn : Nd} {K : Str} {tK : Tok} {v2 v3 v4 v5 v6 : Value} (hap : Ap (trObjs w.params T ++ rest)) (hsz : T.nodes.length ≤ 1000)
    (hk : T.nodes[k]? = some pn) (hK : pn.kind = .str K tK) (hin : ([Str.ofString "root", Str.ofString "element"].any fun x => x == K) = true) (hl : pn.ch.length ≤ 1000) :
    Tel prog w (hd.heap_1 w.params) p loose mean mg mb 30 300 (trObjs w.params T ++ rest) (call (.ref 152) [.ref T.t, .int k kt, v2, v3, v4, v5, v6]) (fun r news' => 
      ∃ nd tk, r = .int T.nodes.length tk ∧ IsNew nd v2 (.int k kt) ∧ news' = trObjs w.params { T with nodes := T.nodes.set k { pn with ch := pn.ch ++ [r], cn := pn.cn + 1 } ++ [nd], rn := T.rn + 1 } ++ rest ∧ Ap news') := by
  unfold Tel
  intro dp un gd cn cs a ccd cl outer A₀ base h₀ L m s Q E B F X N T0 hkf hd hu hret
  have hT : ∀ q ∈ trObjs w.params T, q ∈ trObjs w.params T ++ rest := fun q hq => List.mem_append_left _ hq
  have m1 := tr_t hT
  have m2 := tr_d hT
  have hn := nd_mem hk hT
  have m4 := nd_x hn
  have m5 := nd_d hn
  have hh : handedIn pn.kind = true := by rw [hK]; rfl
  walk1
  ktr_step
  ktr_call (fun _ h => h) (row_ok hT hk hsz)
  rintro _ _ h1 tk1 F1 N1 ⟨rfl, rfl⟩
  ktr_step
  rw [hK]
  refine notin_tuple_strs (ys := [Str.ofString "root", Str.ofString "element"]) (tupK (Frag.In.keeps (by assumption) F1.keep) (by k_is)) (StrsAre.cons _ _ (StrsAre.cons _ _ StrsAre.nil)) ?_
  rw [hin]
  ktr_step
  ktr_call (fun _ h => h) (new_row hap hsz)
  rintro _ _ h2 tk2 F2 N2 ⟨nd, tk, rfl, e1, _, _, _, _, e6, e7, e8, e9, rfl, hap'⟩
  clear m1 m2 m4 m5 hn hT
  have hlt := tr_len hk
  have hk' : (T.nodes ++ [nd])[k]? = some pn := by rw [List.getElem?_append_left (tr_len hk)]; exact hk
  have hT : ∀ q ∈ trObjs w.params { T with nodes := T.nodes ++ [nd], rn := T.rn + 1 }, q ∈ trObjs w.params { T with nodes := T.nodes ++ [nd], rn := T.rn + 1 } ++ rest := fun q hq => List.mem_append_left _ hq
  have up := tr_ch (T := { T with nodes := T.nodes ++ [nd], rn := T.rn + 1 }) (pn.ch ++ [Value.int T.nodes.length tk]) (pn.cn + 1) hk' hap'
  generalize hl1 : trObjs w.params { T with nodes := T.nodes ++ [nd], rn := T.rn + 1 } ++ rest = news at N2 hT up
  have m1 := tr_t hT
  have m2 := tr_d hT
  have m3 := tr_r hT
  have hn := nd_mem hk' hT
  have m4 := nd_x hn
  have m5 := nd_d hn
  have m6 := nd_c hn
  have hx := tr_row (T := { T with nodes := T.nodes ++ [nd], rn := T.rn + 1 }) hk'
  dsimp only at m1 m2 m3 hx
  clear hT hn
  ktr_step
  intro h3 F4 N4
  have N5 := N4 _ up.1
  clear N4
  ktr_step
  rename Fr _ _ _ _ => F5
  rename News _ _ _ _ => N6
  refine hret _ _ _ _ F5 N6 ⟨nd, _, rfl, ⟨e1, e6, e7, e8, e9⟩, ?_, up.2⟩
  rw [List.set_append_left _ _ (tr_len hk)]
theorem quiet_M4 : True := by
  w_top off
  trivial
/-- a node, told -/
structure Node where
  kind : Str
  par : Option Nat
  ch : List Nat
  as : List Nat
  ss : List Nat
  nm : Str

def nats (l : List Nat) : List Int := l.map fun (k : Nat) => (k : Int)
theorem nats_length (l : List Nat) : (nats l).length = l.length := by simp [nats]
theorem nats_append (l r : List Nat) : nats (l ++ r) = nats l ++ nats r := by simp [nats]

theorem nats_get {vs : List Value} {l : List Nat} {i : Nat} {v : Value} (h : IntsAre vs (nats l)) (hv : vs[i]? = some v) : ∃ (j : Nat) (t : Tok), v = .int (j : Int) t ∧ l[i]? = some j := by
  induction l generalizing vs i with
  | nil => cases h; simp at hv
  | cons a r ih =>
    cases h with
    | cons _ t h' =>
      cases i with
      | zero => simp at hv; exact ⟨a, t, hv.symm, rfl⟩
      | succ i => simp only [List.getElem?_cons_succ] at hv ⊢; exact ih h' hv

def ParIs (v : Value) : Option Nat → Prop
  | none => v = .none
  | some k => ∃ t, v = .int (k : Int) t
theorem ParIs.handed {v : Value} {o : Option Nat} (h : ParIs v o) : handedIn v = true := by
  cases o with
  | none => rw [show v = .none from h]; rfl
  | some k => obtain ⟨t, rfl⟩ := h; rfl

structure NdIs (nd : Nd) (n : Node) : Prop where
  kind : ∃ t, nd.kind = .str n.kind t
  par : ParIs nd.par n.par
  ch : IntsAre nd.ch (nats n.ch)
  as : IntsAre nd.as (nats n.as)
  ss : IntsAre nd.ss (nats n.ss)
  loc : n.kind = Str.ofString "attribute" → (∃ t, nd.loc = .str n.nm t) ∧ ∃ u t, nd.uri = .str u t
  name : n.kind = Str.ofString "namespace" → ∃ t, nd.name = .str n.nm t

structure TrIs (T : Tr) (D : List Node) : Prop where
  len : T.nodes.length = D.length
  at' : ∀ (k : Nat) (nd : Nd) (n : Node), T.nodes[k]? = some nd → D[k]? = some n → NdIs nd n

structure Fit (D : List Node) : Prop where
  small : D.length ≤ 100
  all : ∀ (k : Nat) (n : Node), D[k]? = some n → n.ch.length ≤ D.length ∧ n.as.length ≤ D.length ∧ n.ss.length ≤ D.length

theorem get_of_lt {α : Type} {l : List α} {k : Nat} (h : k < l.length) : ∃ a, l[k]? = some a := ⟨l[k], List.getElem?_eq_getElem h⟩
theorem lt_of_get {α : Type} {l : List α} {k : Nat} {a : α} (h : l[k]? = some a) : k < l.length := by
  rcases Nat.lt_or_ge k l.length with h1 | h1
  · exact h1
  · rw [List.getElem?_eq_none h1] at h; cases h
theorem TrIs.nd {T : Tr} {D : List Node} (h : TrIs T D) {k : Nat} {n : Node} (hk : D[k]? = some n) : ∃ nd, T.nodes[k]? = some nd ∧ NdIs nd n := by
  obtain ⟨nd, e⟩ := get_of_lt (l := T.nodes) (h.len ▸ lt_of_get hk)
  exact ⟨nd, e, h.at' _ _ _ e hk⟩
theorem TrIs.big {T : Tr} {D : List Node} (h : TrIs T D) (hf : Fit D) : T.nodes.length ≤ 1000 := by have := hf.small; have := h.len; omega

/-- a new node behind all, the last child of its parent -/
def addNode (D : List Node) (par : Option Nat) (K : Str) : List Node :=
  (match par with
    | none => D
    | some k => D.modify k fun n => { n with ch := n.ch ++ [D.length] }) ++ [⟨K, par, [], [], [], Str.ofString ""⟩]
def addAttr (D : List Node) (k : Nat) (x : Str) : List Node := (D.modify k fun n => { n with as := n.as ++ [D.length] }) ++ [⟨Str.ofString "attribute", some k, [], [], [], x⟩]
def addNs (D : List Node) (k : Nat) (x : Str) : List Node := (D.modify k fun n => { n with ss := n.ss ++ [D.length] }) ++ [⟨Str.ofString "namespace", some k, [], [], [], x⟩]

theorem addNode_length (D : List Node) (par : Option Nat) (K : Str) : (addNode D par K).length = D.length + 1 := by
  unfold addNode; cases par <;> simp
theorem addAttr_length (D : List Node) (k : Nat) (x : Str) : (addAttr D k x).length = D.length + 1 := by simp [addAttr]
theorem addNs_length (D : List Node) (k : Nat) (x : Str) : (addNs D k x).length = D.length + 1 := by simp [addNs]

theorem trIs_snoc {T : Tr} {D : List Node} {nd : Nd} {n : Node} {r : Nat} (h : TrIs T D) (hn : NdIs nd n) : TrIs { T with nodes := T.nodes ++ [nd], rn := r } (D ++ [n]) := by
  refine ⟨by simp [h.len], fun k nd' n' h1 h2 => ?_⟩
  dsimp only at h1
  rcases Nat.lt_or_ge k D.length with hk | hk
  · rw [List.getElem?_append_left (h.len ▸ hk)] at h1
    rw [List.getElem?_append_left hk] at h2
    exact h.at' _ _ _ h1 h2
  · have hk2 : k < (D ++ [n]).length := lt_of_get h2
    have e : k = D.length := by simp at hk2; omega
    subst e
    rw [List.getElem?_append_right (Nat.le_refl _)] at h2
    rw [List.getElem?_append_right (by rw [h.len]; exact Nat.le_refl _)] at h1
    simp [h.len] at h1 h2
    rw [← h1, ← h2]; exact hn

theorem trIs_set {T : Tr} {D : List Node} {k : Nat} {nd nd1 : Nd} {n : Node} {f : Node → Node} (h : TrIs T D) (h1 : D[k]? = some n) (h2 : T.nodes[k]? = some nd) (hn : NdIs nd1 (f n)) : TrIs { T with nodes := T.nodes.set k nd1 } (D.modify k f) := by
  refine ⟨by simp [h.len], fun j nd' n' e1 e2 => ?_⟩
  dsimp only at e1
  by_cases hj : k = j
  · subst hj
    rw [List.getElem?_set_self (lt_of_get h2)] at e1
    rw [List.getElem?_modify_eq, h1] at e2
    cases e1; cases e2; exact hn
  · rw [List.getElem?_set_ne hj] at e1
    rw [List.getElem?_modify_ne _ _ hj] at e2
    exact h.at' _ _ _ e1 e2

theorem Fit.addNode {D : List Node} (h : Fit D) (h99 : D.length < 100) (par : Option Nat) (K : Str) : Fit (addNode D par K) := by
  refine ⟨by rw [addNode_length]; omega, fun k n hk => ?_⟩
  rw [addNode_length]
  unfold Mine.addNode at hk
  cases par with
  | none =>
    dsimp only at hk
    rcases Nat.lt_or_ge k D.length with hl | hl
    · rw [List.getElem?_append_left hl] at hk
      have := h.all _ _ hk; omega
    · rw [List.getElem?_append_right hl] at hk
      have e : k - D.length = 0 := by have := lt_of_get hk; simp at this; omega
      rw [e] at hk; cases hk; simp
  | some j =>
    dsimp only at hk
    rcases Nat.lt_or_ge k D.length with hl | hl
    · rw [List.getElem?_append_left (by simpa using hl)] at hk
      obtain ⟨n0, hn0⟩ := get_of_lt hl
      have := h.all _ _ hn0
      by_cases hj : j = k
      · subst hj; rw [List.getElem?_modify_eq, hn0] at hk; cases hk; simp; omega
      · rw [List.getElem?_modify_ne _ _ hj, hn0] at hk; cases hk; omega
    · rw [List.getElem?_append_right (by simpa using hl)] at hk
      have e : k - (D.modify j fun n => { n with ch := n.ch ++ [D.length] }).length = 0 := by have := lt_of_get hk; simp at this ⊢; omega
      rw [e] at hk; cases hk; simp
theorem Fit.addAttr {D : List Node} (h : Fit D) (h99 : D.length < 100) (j : Nat) (x : Str) : Fit (addAttr D j x) := by
  refine ⟨by rw [addAttr_length]; omega, fun k n hk => ?_⟩
  rw [addAttr_length]
  unfold Mine.addAttr at hk
  rcases Nat.lt_or_ge k D.length with hl | hl
  · rw [List.getElem?_append_left (by simpa using hl)] at hk
    obtain ⟨n0, hn0⟩ := get_of_lt hl
    have := h.all _ _ hn0
    by_cases hj : j = k
    · subst hj; rw [List.getElem?_modify_eq, hn0] at hk; cases hk; simp; omega
    · rw [List.getElem?_modify_ne _ _ hj, hn0] at hk; cases hk; omega
  · rw [List.getElem?_append_right (by simpa using hl)] at hk
    have e : k - (D.modify j fun n => { n with as := n.as ++ [D.length] }).length = 0 := by have := lt_of_get hk; simp at this ⊢; omega
    rw [e] at hk; cases hk; simp
theorem Fit.addNs {D : List Node} (h : Fit D) (h99 : D.length < 100) (j : Nat) (x : Str) : Fit (addNs D j x) := by
  refine ⟨by rw [addNs_length]; omega, fun k n hk => ?_⟩
  rw [addNs_length]
  unfold Mine.addNs at hk
  rcases Nat.lt_or_ge k D.length with hl | hl
  · rw [List.getElem?_append_left (by simpa using hl)] at hk
    obtain ⟨n0, hn0⟩ := get_of_lt hl
    have := h.all _ _ hn0
    by_cases hj : j = k
    · subst hj; rw [List.getElem?_modify_eq, hn0] at hk; cases hk; simp; omega
    · rw [List.getElem?_modify_ne _ _ hj, hn0] at hk; cases hk; omega
  · rw [List.getElem?_append_right (by simpa using hl)] at hk
    have e : k - (D.modify j fun n => { n with ss := n.ss ++ [D.length] }).length = 0 := by have := lt_of_get hk; simp at this ⊢; omega
    rw [e] at hk; cases hk; simp

/-- a tree in another state -/
structure Same (T T' : Tr) : Prop where
  t : T'.t = T.t
  d : T'.d = T.d
  r : T'.r = T.r
  tk : T'.tk = T.tk

theorem tel_mono {K : Frag} {dep uni : Nat} {pre : List (Addr × Obj)} {tree : Sem Value} {post post' : Value → List (Addr × Obj) → Prop} (h : Tel prog w K p loose mean mg mb dep uni pre tree post) (hp : ∀ r n, post r n → post' r n) :
    Tel prog w K p loose mean mg mb dep uni pre tree post' := by
  intro dp un gd cn cs a ccd cl outer A₀ base h₀ L m s Q E B F X N T hk hd hu ret
  exact h dp un gd cn cs a ccd cl outer A₀ base h₀ L m s Q E B F X N T hk hd hu fun r n h' tk' F' N' q => ret r n h' tk' F' N' (hp r n q)

def parents : List Str := [Str.ofString "root", Str.ofString "element"]
/-- where a new node may go -/
def ParOk (D : List Node) : Option Nat → Prop
  | none => True
  | some k => ∃ n, D[k]? = some n ∧ (parents.any fun x => x == n.kind) = true

theorem isNew_ndIs {nd : Nd} {K : Str} {t : Tok} {v : Value} {par : Option Nat} (h : IsNew nd (.str K t) v) (hv : ParIs v par) (h1 : K ≠ Str.ofString "attribute") (h2 : K ≠ Str.ofString "namespace") : NdIs nd ⟨K, par, [], [], [], Str.ofString ""⟩ :=
  ⟨⟨t, h.kind⟩, h.par ▸ hv, by rw [h.ch]; exact .nil, by rw [h.as]; exact .nil, by rw [h.ss]; exact .nil, fun e => absurd e h1, fun e => absurd e h2⟩

/-- the end of a method that adds -/
def Added (P : Params) (T : Tr) (D D' : List Node) (rest : List (Addr × Obj)) (r : Value) (news' : List (Addr × Obj)) : Prop :=
  ∃ T' tk, r = .int D.length tk ∧ Same T T' ∧ TrIs T' D' ∧ news' = trObjs P T' ++ rest ∧ Ap news'

theorem add_child_doc {rest : List (Addr × Obj)} {T : Tr} {D : List Node} {par : Option Nat} {v v3 v4 v5 v6 : Value} {K : Str} {tK : Tok} (hap : Ap (trObjs w.params T ++ rest)) (hT : TrIs T D) (hf : Fit D) (hv : ParIs v par) (ho : ParOk D par) (h1 : K ≠ Str.ofString "attribute") (h2 : K ≠ Str.ofString "namespace") :
    Tel prog w (hd.heap_1 w.params) p loose mean mg mb 30 300 (trObjs w.params T ++ rest) (call (.ref 152) [.ref T.t, v, .str K tK, v3, v4, v5, v6]) (Added w.params T D (addNode D par K) rest) := by
  cases par with
  | none =>
    obtain rfl : v = .none := hv
    refine tel_mono (add_child_none hap (hT.big hf)) ?_
    rintro r n ⟨nd, tk, rfl, hn, rfl, ha⟩
    exact ⟨{ T with nodes := T.nodes ++ [nd], rn := T.rn + 1 }, tk, by rw [hT.len], ⟨rfl, rfl, rfl, rfl⟩, trIs_snoc hT (isNew_ndIs (par := none) hn rfl h1 h2), rfl, ha⟩
  | some k =>
    obtain ⟨t, rfl⟩ := hv
    obtain ⟨n, hn, hin⟩ := ho
    obtain ⟨nd, hk, hnd⟩ := hT.nd hn
    obtain ⟨tK', hK⟩ := hnd.kind
    have hl : nd.ch.length ≤ 1000 := by have := hnd.ch.length; rw [nats_length] at this; have := hf.all _ _ hn; have := hf.small; omega
    refine tel_mono (add_child_some hap (hT.big hf) hk hK hin hl) ?_
    rintro r n' ⟨nd', tk, rfl, hn', rfl, ha⟩
    refine ⟨{ T with nodes := T.nodes.set k { nd with ch := nd.ch ++ [Value.int T.nodes.length tk], cn := nd.cn + 1 } ++ [nd'], rn := T.rn + 1 }, tk, by rw [hT.len], ⟨rfl, rfl, rfl, rfl⟩, ?_, rfl, ha⟩
    refine trIs_snoc (T := { T with nodes := T.nodes.set k { nd with ch := nd.ch ++ [Value.int T.nodes.length tk], cn := nd.cn + 1 } }) (trIs_set (f := fun n => { n with ch := n.ch ++ [D.length] }) hT hn hk ?_) (isNew_ndIs (par := some k) hn' ⟨t, rfl⟩ h1 h2)
    refine ⟨hnd.kind, hnd.par, ?_, hnd.as, hnd.ss, hnd.loc, hnd.name⟩
    rw [nats_append, ← hT.len]
    exact IntsAre.append hnd.ch (IntsAre.cons _ _ IntsAre.nil)

set_option maxHeartbeats 4000000 in
theorem add_element_doc {rest : List (Addr × Obj)} {T : Tr} {D : List Node} {par : Option Nat} {v v3 v4 v5 : Value} (hap : Ap (trObjs w.params T ++ rest)) (hT : TrIs T D) (hf : Fit D) (hv : ParIs v par) (ho : ParOk D par) :
    Tel prog w (hd.heap_1 w.params) p loose mean mg mb 35 350 (trObjs w.params T ++ rest) (call (.ref 159) [.ref T.t, v, v3, v4, v5]) (Added w.params T D (addNode D par (Str.ofString "element")) rest) := by
  unfold Tel
  intro dp un gd cn cs a ccd cl outer A₀ base h₀ L m s Q E B F X N T0 hkf hd hu hret
  have m1 := tr_t (T := T) (news := trObjs w.params T ++ rest) fun _ h => List.mem_append_left _ h
  have m2 := tr_d (T := T) (news := trObjs w.params T ++ rest) fun _ h => List.mem_append_left _ h
  walk1
  ktr_step
  ktr_call (fun _ h => h) (add_child_doc hap hT hf hv ho (by decide) (by decide))
  intro r n h' tk' F' N' hp
  ktr_step
  rename Fr _ _ _ _ => F3
  rename News _ _ _ _ => N5
  exact hret _ _ _ _ F3 N5 hp

set_option maxHeartbeats 4000000 in
theorem add_text_doc {rest : List (Addr × Obj)} {T : Tr} {D : List Node} {par : Option Nat} {v v3 : Value} (hap : Ap (trObjs w.params T ++ rest)) (hT : TrIs T D) (hf : Fit D) (hv : ParIs v par) (ho : ParOk D par) :
    Tel prog w (hd.heap_1 w.params) p loose mean mg mb 35 350 (trObjs w.params T ++ rest) (call (.ref 166) [.ref T.t, v, v3]) (Added w.params T D (addNode D par (Str.ofString "text")) rest) := by
  unfold Tel
  intro dp un gd cn cs a ccd cl outer A₀ base h₀ L m s Q E B F X N T0 hkf hd hu hret
  have m1 := tr_t (T := T) (news := trObjs w.params T ++ rest) fun _ h => List.mem_append_left _ h
  have m2 := tr_d (T := T) (news := trObjs w.params T ++ rest) fun _ h => List.mem_append_left _ h
  walk1
  ktr_step
  ktr_call (fun _ h => h) (add_child_doc hap hT hf hv ho (by decide) (by decide))
  intro r n h' tk' F' N' hp
  ktr_step
  rename Fr _ _ _ _ => F3
  rename News _ _ _ _ => N5
  exact hret _ _ _ _ F3 N5 hp

set_option maxHeartbeats 4000000 in
theorem add_comment_doc {rest : List (Addr × Obj)} {T : Tr} {D : List Node} {par : Option Nat} {v v3 : Value} (hap : Ap (trObjs w.params T ++ rest)) (hT : TrIs T D) (hf : Fit D) (hv : ParIs v par) (ho : ParOk D par) :
    Tel prog w (hd.heap_1 w.params) p loose mean mg mb 35 350 (trObjs w.params T ++ rest) (call (.ref 173) [.ref T.t, v, v3]) (Added w.params T D (addNode D par (Str.ofString "comment")) rest) := by
  unfold Tel
  intro dp un gd cn cs a ccd cl outer A₀ base h₀ L m s Q E B F X N T0 hkf hd hu hret
  have m1 := tr_t (T := T) (news := trObjs w.params T ++ rest) fun _ h => List.mem_append_left _ h
  have m2 := tr_d (T := T) (news := trObjs w.params T ++ rest) fun _ h => List.mem_append_left _ h
  walk1
  ktr_step
  ktr_call (fun _ h => h) (add_child_doc hap hT hf hv ho (by decide) (by decide))
  intro r n h' tk' F' N' hp
  ktr_step
  rename Fr _ _ _ _ => F3
  rename News _ _ _ _ => N5
  exact hret _ _ _ _ F3 N5 hp

set_option maxHeartbeats 4000000 in
theorem add_instruction_doc {rest : List (Addr × Obj)} {T : Tr} {D : List Node} {par : Option Nat} {v v3 v4 : Value} (hap : Ap (trObjs w.params T ++ rest)) (hT : TrIs T D) (hf : Fit D) (hv : ParIs v par) (ho : ParOk D par) :
    Tel prog w (hd.heap_1 w.params) p loose mean mg mb 35 350 (trObjs w.params T ++ rest) (call (.ref 180) [.ref T.t, v, v3, v4]) (Added w.params T D (addNode D par (Str.ofString "instruction")) rest) := by
  unfold Tel
  intro dp un gd cn cs a ccd cl outer A₀ base h₀ L m s Q E B F X N T0 hkf hd hu hret
  have m1 := tr_t (T := T) (news := trObjs w.params T ++ rest) fun _ h => List.mem_append_left _ h
  have m2 := tr_d (T := T) (news := trObjs w.params T ++ rest) fun _ h => List.mem_append_left _ h
  walk1
  ktr_step
  ktr_call (fun _ h => h) (add_child_doc hap hT hf hv ho (by decide) (by decide))
  intro r n h' tk' F' N' hp
  ktr_step
  rename Fr _ _ _ _ => F3
  rename News _ _ _ _ => N5
  exact hret _ _ _ _ F3 N5 hp
theorem quiet_M5 : True := by
  w_top off
  trivial
set_option maxHeartbeats 4000000 in
theorem element_row_ok {news : List (Addr × Obj)} {T : Tr} {k : Nat} {kt : Tok} {nd : Nd} {tK : Tok} (hT : ∀ q ∈ trObjs w.params T, q ∈ news) (hk : T.nodes[k]? = some nd) (hK : nd.kind = .str (Str.ofString "element") tK) (hsz : T.nodes.length ≤ 1000) :
    Tel prog w (hd.heap_1 w.params) p loose mean mg mb 10 100 news (call (.ref 187) [.ref T.t, .int k kt]) (fun r news' => r = .ref nd.x ∧ news' = news) := by
  unfold Tel
  intro dp un gd cn cs a ccd cl outer A₀ base h₀ L m s Q E B F X N T0 hkf hd hu hret
  have m1 := tr_t hT
  have m2 := tr_d hT
  have hn := nd_mem hk hT
  have m4 := nd_x hn
  have m5 := nd_d hn
  have hh : handedIn nd.kind = true := by rw [hK]; rfl
  walk1
  ktr_step
  ktr_call (fun _ h => h) (row_ok hT hk hsz)
  rintro _ _ h1 tk1 F1 N1 ⟨rfl, rfl⟩
  ktr_step
  rw [hK]
  ktr_step
  exact hret _ _ _ _ (by k_asm) (by k_asm) ⟨rfl, rfl⟩

set_option maxHeartbeats 4000000 in
theorem set_attribute_doc {rest : List (Addr × Obj)} {T : Tr} {D : List Node} {k : Nat} {kt : Tok} {n : Node} {v3 v6 : Value} {u x : Str} {tu tx : Tok} (hap : Ap (trObjs w.params T ++ rest)) (hT : TrIs T D) (hf : Fit D)
    (hn : D[k]? = some n) (hK : n.kind = Str.ofString "element") (hds : ∀ j ∈ n.as, ∃ n', D[j]? = some n' ∧ n'.kind = Str.ofString "attribute" ∧ n'.nm ≠ x) :
    Tel prog w (hd.heap_1 w.params) p loose mean mg mb 35 350 (trObjs w.params T ++ rest) (call (.ref 194) [.ref T.t, .int k kt, v3, .str u tu, .str x tx, v6]) (Added w.params T D (addAttr D k x) rest) := by
  unfold Tel
  intro dp un gd cn cs a ccd cl outer A₀ base h₀ L m s Q E B F X N T0 hkf hd hu hret
  have hsub : ∀ q ∈ trObjs w.params T, q ∈ trObjs w.params T ++ rest := fun q hq => List.mem_append_left _ hq
  obtain ⟨nd, hk, hnd⟩ := hT.nd hn
  obtain ⟨tK, hK'⟩ := hnd.kind
  rw [hK] at hK'
  have m1 := tr_t hsub
  have m2 := tr_d hsub
  have m3 := tr_r hsub
  have hnm := nd_mem hk hsub
  have m4 := nd_x hnm
  have m5 := nd_d hnm
  have m6 := nd_a hnm
  walk1
  ktr_step
  ktr_call (fun _ h => h) (element_row_ok hsub hk hK' (hT.big hf))
  rintro _ _ h1 tk1 F1 N1 ⟨rfl, rfl⟩
  ktr_step
  rename Fr _ _ _ _ => F2
  (with_unfolding_all refine' For_invVF F2 ?k1 ?k2 ?_; (case k1 => exact rfl); (case k2 => exact rfl))
  ktr_step
  rename Fr _ _ _ _ => F3
  rename News _ _ _ _ => N3
  refine for_listY [Str.ofString "known"] (fun _ _ nx => nx = trObjs w.params T ++ rest) rfl F3 N3 m6 rfl ?_ ?_
  · rintro i v m₁ _ h3 tk3 I oI hv rfl hl ho F4 N4
    obtain ⟨j, t, rfl, hj⟩ := nats_get hnd.as hv
    obtain ⟨n', hn', hK2, hne⟩ := hds j (List.mem_of_getElem? hj)
    obtain ⟨nd2, hk2, hnd2⟩ := hT.nd hn'
    obtain ⟨⟨tl, hloc⟩, u2, tu2, huri⟩ := hnd2.loc hK2
    have hx := tr_row hk2
    have hlt := tr_len hk2
    have hbig := hT.big hf
    have hnm2 := nd_mem hk2 hsub
    have m7 := nd_x hnm2
    have m8 := nd_d hnm2
    have hh1 : handedIn nd2.uri = true := by rw [huri]; rfl
    have hh2 : handedIn nd2.loc = true := by rw [hloc]; rfl
    have hnx : (n'.nm == x) = false := by simpa using hne
    ktr_step
    rw [huri]
    ktr_step
    · rw [hloc]
      ktr_step
      rename Fr _ _ _ _ => F5
      rename News _ _ _ _ => N5
      refine turn_next F5 N5 (one_in hl) ho ?_ rfl
      intro z h1 h2; simp only [List.mem_cons, List.not_mem_nil, or_false] at h2; simp [h1, h2]
    · rename Fr _ _ _ _ => F5
      rename News _ _ _ _ => N5
      refine turn_next F5 N5 (one_in hl) ho ?_ rfl
      intro z h1 h2; simp only [List.mem_cons, List.not_mem_nil, or_false] at h2; simp [h1, h2]
  · rintro m₁ _ h3 tk3 rfl hl F4 N4
    ktr_step
    ktr_call (fun _ h => h) (new_row hap (hT.big hf))
    rintro _ _ h5 tk5 F5 N5 ⟨nd', tk', rfl, e1, _, e3, e4, _, e6, e7, e8, e9, rfl, hap'⟩
    clear m1 m2 m3 m4 m5 m6 hnm hsub hl N4 F4 F3 N3
    have hlt := tr_len hk
    have hbig := hT.big hf
    have hk' : (T.nodes ++ [nd'])[k]? = some nd := by rw [List.getElem?_append_left (tr_len hk)]; exact hk
    have hlen : nd.as.length ≤ 1000 := by have h1 := hnd.as.length; rw [nats_length] at h1; have h2 := hf.all _ _ hn; have h3 := hf.small; omega
    have hsub : ∀ q ∈ trObjs w.params { T with nodes := T.nodes ++ [nd'], rn := T.rn + 1 }, q ∈ trObjs w.params { T with nodes := T.nodes ++ [nd'], rn := T.rn + 1 } ++ rest := fun q hq => List.mem_append_left _ hq
    have up := tr_as (T := { T with nodes := T.nodes ++ [nd'], rn := T.rn + 1 }) (nd.as ++ [Value.int T.nodes.length tk']) (nd.an + 1) hk' hap'
    generalize hl1 : trObjs w.params { T with nodes := T.nodes ++ [nd'], rn := T.rn + 1 } ++ rest = news at N5 hsub up
    have hnm := nd_mem hk' hsub
    have m4 := nd_x hnm
    have m5 := nd_d hnm
    have m6 := nd_a hnm
    clear hsub hnm
    ktr_step
    intro h6 F6 N6
    have N7 := N6 _ up.1
    clear N6
    ktr_step
    rename Fr _ _ _ _ => F8
    rename News _ _ _ _ => N8
    refine hret _ _ _ _ F8 N8 ⟨{ T with nodes := T.nodes.set k { nd with as := nd.as ++ [Value.int T.nodes.length tk'], an := nd.an + 1 } ++ [nd'], rn := T.rn + 1 }, tk', by rw [hT.len], ⟨rfl, rfl, rfl, rfl⟩, ?_, ?_, up.2⟩
    · refine trIs_snoc (T := { T with nodes := T.nodes.set k { nd with as := nd.as ++ [Value.int T.nodes.length tk'], an := nd.an + 1 } }) (trIs_set (f := fun n => { n with as := n.as ++ [D.length] }) hT hn hk ?_) ⟨⟨_, e1⟩, ⟨kt, e6⟩, by rw [e7]; exact .nil, by rw [e8]; exact .nil, by rw [e9]; exact .nil, fun _ => ⟨⟨_, e4⟩, _, _, e3⟩, fun e => absurd e (by show ¬ Str.ofString "attribute" = Str.ofString "namespace"; decide)⟩
      refine ⟨hnd.kind, hnd.par, hnd.ch, ?_, hnd.ss, hnd.loc, hnd.name⟩
      rw [nats_append, ← hT.len]
      exact IntsAre.append hnd.as (IntsAre.cons _ _ IntsAre.nil)
    · rw [List.set_append_left _ _ (tr_len hk)]
theorem quiet_M6 : True := by
  w_top off
  trivial
set_option maxHeartbeats 4000000 in
theorem add_namespace_doc {rest : List (Addr × Obj)} {T : Tr} {D : List Node} {k : Nat} {kt : Tok} {n : Node} {v4 : Value} {x : Str} {tx : Tok} (hap : Ap (trObjs w.params T ++ rest)) (hT : TrIs T D) (hf : Fit D)
    (hn : D[k]? = some n) (hK : n.kind = Str.ofString "element") (hds : ∀ j ∈ n.ss, ∃ n', D[j]? = some n' ∧ n'.kind = Str.ofString "namespace" ∧ n'.nm ≠ x) :
    Tel prog w (hd.heap_1 w.params) p loose mean mg mb 35 350 (trObjs w.params T ++ rest) (call (.ref 201) [.ref T.t, .int k kt, .str x tx, v4]) (Added w.params T D (addNs D k x) rest) := by
  unfold Tel
  intro dp un gd cn cs a ccd cl outer A₀ base h₀ L m s Q E B F X N T0 hkf hd hu hret
  have hsub : ∀ q ∈ trObjs w.params T, q ∈ trObjs w.params T ++ rest := fun q hq => List.mem_append_left _ hq
  obtain ⟨nd, hk, hnd⟩ := hT.nd hn
  obtain ⟨tK, hK'⟩ := hnd.kind
  rw [hK] at hK'
  have m1 := tr_t hsub
  have m2 := tr_d hsub
  have m3 := tr_r hsub
  have hnm := nd_mem hk hsub
  have m4 := nd_x hnm
  have m5 := nd_d hnm
  have m6 := nd_s hnm
  walk1
  ktr_step
  ktr_call (fun _ h => h) (element_row_ok hsub hk hK' (hT.big hf))
  rintro _ _ h1 tk1 F1 N1 ⟨rfl, rfl⟩
  ktr_step
  rename Fr _ _ _ _ => F2
  (with_unfolding_all refine' For_invVF F2 ?k1 ?k2 ?_; (case k1 => exact rfl); (case k2 => exact rfl))
  ktr_step
  rename Fr _ _ _ _ => F3
  rename News _ _ _ _ => N3
  refine for_listY [] (fun _ _ nx => nx = trObjs w.params T ++ rest) rfl F3 N3 m6 rfl ?_ ?_
  · rintro i v m₁ _ h3 tk3 I oI hv rfl hl ho F4 N4
    obtain ⟨j, t, rfl, hj⟩ := nats_get hnd.ss hv
    obtain ⟨n', hn', hK2, hne⟩ := hds j (List.mem_of_getElem? hj)
    obtain ⟨nd2, hk2, hnd2⟩ := hT.nd hn'
    obtain ⟨tl, hloc⟩ := hnd2.name hK2
    have hx := tr_row hk2
    have hlt := tr_len hk2
    have hbig := hT.big hf
    have hnm2 := nd_mem hk2 hsub
    have m7 := nd_x hnm2
    have m8 := nd_d hnm2
    have hh2 : handedIn nd2.name = true := by rw [hloc]; rfl
    have hnx : (n'.nm == x) = false := by simpa using hne
    ktr_step
    rw [hloc]
    ktr_step
    rename Fr _ _ _ _ => F5
    rename News _ _ _ _ => N5
    refine turn_next F5 N5 (one_in hl) ho ?_ rfl
    intro z h1 h2; simp only [List.not_mem_nil, if_false, if_neg h1]
  · rintro m₁ _ h3 tk3 rfl hl F4 N4
    ktr_step
    ktr_call (fun _ h => h) (new_row hap (hT.big hf))
    rintro _ _ h5 tk5 F5 N5 ⟨nd', tk', rfl, e1, e2, _, _, _, e6, e7, e8, e9, rfl, hap'⟩
    clear m1 m2 m3 m4 m5 m6 hnm hsub hl N4 F4 F3 N3
    have hlt := tr_len hk
    have hbig := hT.big hf
    have hk' : (T.nodes ++ [nd'])[k]? = some nd := by rw [List.getElem?_append_left (tr_len hk)]; exact hk
    have hlen : nd.ss.length ≤ 1000 := by have h1 := hnd.ss.length; rw [nats_length] at h1; have h2 := hf.all _ _ hn; have h3 := hf.small; omega
    have hsub : ∀ q ∈ trObjs w.params { T with nodes := T.nodes ++ [nd'], rn := T.rn + 1 }, q ∈ trObjs w.params { T with nodes := T.nodes ++ [nd'], rn := T.rn + 1 } ++ rest := fun q hq => List.mem_append_left _ hq
    have up := tr_ss (T := { T with nodes := T.nodes ++ [nd'], rn := T.rn + 1 }) (nd.ss ++ [Value.int T.nodes.length tk']) (nd.sn + 1) hk' hap'
    generalize hl1 : trObjs w.params { T with nodes := T.nodes ++ [nd'], rn := T.rn + 1 } ++ rest = news at N5 hsub up
    have hnm := nd_mem hk' hsub
    have m4 := nd_x hnm
    have m5 := nd_d hnm
    have m6 := nd_s hnm
    clear hsub hnm
    ktr_step
    intro h6 F6 N6
    have N7 := N6 _ up.1
    clear N6
    ktr_step
    rename Fr _ _ _ _ => F8
    rename News _ _ _ _ => N8
    refine hret _ _ _ _ F8 N8 ⟨{ T with nodes := T.nodes.set k { nd with ss := nd.ss ++ [Value.int T.nodes.length tk'], sn := nd.sn + 1 } ++ [nd'], rn := T.rn + 1 }, tk', by rw [hT.len], ⟨rfl, rfl, rfl, rfl⟩, ?_, ?_, up.2⟩
    · refine trIs_snoc (T := { T with nodes := T.nodes.set k { nd with ss := nd.ss ++ [Value.int T.nodes.length tk'], sn := nd.sn + 1 } }) (trIs_set (f := fun n => { n with ss := n.ss ++ [D.length] }) hT hn hk ?_) ⟨⟨_, e1⟩, ⟨kt, e6⟩, by rw [e7]; exact .nil, by rw [e8]; exact .nil, by rw [e9]; exact .nil, fun e => absurd e (by show ¬ Str.ofString "namespace" = Str.ofString "attribute"; decide), fun _ => ⟨_, e2⟩⟩
      refine ⟨hnd.kind, hnd.par, hnd.ch, hnd.as, ?_, hnd.loc, hnd.name⟩
      rw [nats_append, ← hT.len]
      exact IntsAre.append hnd.ss (IntsAre.cons _ _ IntsAre.nil)
    · rw [List.set_append_left _ _ (tr_len hk)]
theorem quiet_M7 : True := by
  w_top off
  trivial
section
variable {A : Around} {E : Value → Shared → Prop} {s : Shared} {h₀ : Heap} {L D : Addr} {m : Str → Option Value} {news : List (Addr × Obj)}
theorem remove_sem {vs : List Value} {ns : List Int} {n j : Nat} {x : Int} {t : Tok} {Q : Value → Shared → Prop} (F : Fr h₀ L s.heap m) (N : News h₀ L s.heap news) (hm : (D, listOf vs.toArray n) ∈ news) (hI : IntsAre vs ns) (hj : ns[j]? = some x) (hno : ∀ i, i < j → ns[i]? ≠ some x) (hsz : vs.length ≤ sizeLine)
    (h : Halt (∀ h', Fr h₀ L h' m → (∀ news', (∀ q ∈ news', q = (D, listOf (vs.eraseIdx j).toArray (n + 1)) ∨ (q ∈ news ∧ q.1 ≠ D)) → News h₀ L h' news') → Q .none { s with heap := h' })) : wpAny (model prog w) A (call (.builtin "list.remove") [.ref D, .int x t]) Q E s := by
  have ho := (N _ hm).1
  have hjl : j < vs.length := by rw [hI.length]; exact lt_of_get hj
  have at' : ∀ i (hi : i < vs.toArray.size) y, ns[i]? = some y → isInt x vs.toArray[i] = (y == x) := by
    intro i hi y hy
    obtain ⟨u, hu⟩ := hI.get i y hy
    have : vs.toArray[i] = .int y u := by
      have e : vs[i]? = some vs[i] := List.getElem?_eq_getElem (by simpa using hi)
      rw [hu] at e
      simpa using (Option.some.inj e).symm
    rw [this]; rfl
  refine call_meets PySem.F.slot_list_remove ⟨_, ho, rfl⟩ PySem.F.entry_list_remove (PySem.F.args_list_remove_2 _ _)
    (MeetsSeq.list_remove D vs.toArray n (.int x t) (isInt x) (fun y hy => eq_isInt x t hI y (by simpa using hy)) j (by simpa using hjl) (by rw [at' j (by simpa using hjl) x hj]; simp) (fun i hi hlt => by
      obtain ⟨y, hy⟩ := get_of_lt (l := ns) (k := i) (by rw [← hI.length]; simpa using hi)
      rw [at' i hi y hy]
      have := hno i hlt
      rw [hy] at this
      simpa using this) (by simpa using hsz)) ⟨ho, ?_⟩
  refine h _ (F.change (Heap.SameBut.update ..) (N _ hm).2.1 (N _ hm).2.2) fun news' hq => news_sem N hm (Heap.SameBut.update ..) ?_ hq
  have q := PySem.IsL.update (l := D) ho fun xs => xs.eraseIdxIfInBounds j
  have e : vs.toArray.eraseIdxIfInBounds j = (vs.eraseIdx j).toArray := by
    rw [Array.eraseIdxIfInBounds, dif_pos (by simpa using hjl)]; simp
  rw [e] at q
  have e2 : ((vs.eraseIdx j).toArray.size == vs.toArray.size) = false := by
    simp only [List.size_toArray, List.length_eraseIdx, if_pos hjl]
    simp only [beq_eq_false_iff_ne, ne_eq]; omega
  simp only [e2, Bool.false_eq_true, if_false] at q
  exact q

theorem upd_of_mem {h : Heap} {o : Obj} (N : News h₀ L h news) (hm : (D, o) ∈ news) (o' : Obj) : ∃ nw nw', News h₀ L h nw ∧ Upd D o o' nw nw' ∧ (∀ q, q ∈ news → q.1 ≠ D → q ∈ nw) ∧
    (∀ h', News h₀ L h' nw' → ∀ news', (∀ q ∈ news', q = (D, o') ∨ (q ∈ news ∧ q.1 ≠ D)) → News h₀ L h' news') := by
  refine ⟨(D, o) :: news.filter (fun q => decide (q.1 ≠ D)), (D, o') :: news.filter (fun q => decide (q.1 ≠ D)), fun q hq => ?_, .head fun q hq => by simpa using (List.mem_filter.mp hq).2, fun q hq hn => .tail _ (List.mem_filter.mpr ⟨hq, by simpa using hn⟩), fun h' N' news' hq q hq' => ?_⟩
  · rcases List.mem_cons.mp hq with rfl | hq
    · exact N _ hm
    · exact N _ (List.mem_filter.mp hq).1
  · rcases hq q hq' with rfl | ⟨h1, h2⟩
    · exact N' _ (.head _)
    · exact N' _ (.tail _ (List.mem_filter.mpr ⟨h1, by simpa using h2⟩))
theorem updF_of_mem {h : Heap} {o : Obj} (N : News h₀ L h news) (hm : (D, o) ∈ news) : ∃ nw g, News h₀ L h nw ∧ UpdF D o nw g ∧ (∀ q, q ∈ news → q.1 ≠ D → q ∈ nw) ∧
    (∀ h' o', News h₀ L h' (g o') → ∀ news', (∀ q ∈ news', q = (D, o') ∨ (q ∈ news ∧ q.1 ≠ D)) → News h₀ L h' news') := by
  refine ⟨(D, o) :: news.filter (fun q => decide (q.1 ≠ D)), fun o' => (D, o') :: news.filter (fun q => decide (q.1 ≠ D)), fun q hq => ?_, .head fun q hq => by simpa using (List.mem_filter.mp hq).2, fun q hq hn => .tail _ (List.mem_filter.mpr ⟨hq, by simpa using hn⟩), fun h' o' N' news' hq q hq' => ?_⟩
  · rcases List.mem_cons.mp hq with rfl | hq
    · exact N _ hm
    · exact N _ (List.mem_filter.mp hq).1
  · rcases hq q hq' with rfl | ⟨h1, h2⟩
    · exact N' _ (.head _)
    · exact N' _ (.tail _ (List.mem_filter.mpr ⟨h1, by simpa using h2⟩))

theorem set_sem {K : Frag} {ox : Obj} {x C dx : Addr} {name : Str} {v : Value} {es es' : List DictEntry} {n n' : Nat} {Q : Unit → Shared → Prop} (F : Fr h₀ L s.heap m) (X₀ : K.In h₀) (N : News h₀ L s.heap news) (I : InstAt s.heap x ox C (some (dictOf es n))) (hm : (dx, dictOf es n) ∈ news) (hd : ox.dict = some dx)
    (hs : findIn K (.ref C) "__setattr__" = some (some (.builtin "object.__setattr__"))) (hp : plainOver K C = true) (ht : takerIn K C name = some none) (hh : hasDictIn K C = true) (hl : (getL name es).isSome = true)
    (e : (putL name (PyData.keyHash w.params name) (.str name (s.toks + 1)) v es, putN name es n) = (es', n')) (hz : es'.length ≤ 1000)
    (h : Halt (∀ h' tk, Fr h₀ L h' m → (∀ news', (∀ q ∈ news', q = (dx, dictOf es' n') ∨ (q ∈ news ∧ q.1 ≠ dx)) → News h₀ L h' news') → Q () { s with heap := h', toks := tk })) :
    wpAny (model prog w) A (setAttr (.ref x) name v) Q E s := by
  obtain ⟨nw, nw', N2, U, _, back⟩ := upd_of_mem N hm (dictOf es' n')
  exact set_dict F X₀ N2 I hd hs hp ht hh hl e U hz fun h' F' N' => h h' _ F' (back h' N')
end
local macro_rules | `(tactic| walk_at "setAttr ref") => `(tactic| (k_here; k_dflt (refine' set_sem ?k1 ?k2 ?k3 ?k4 ?km ?k5 ?k6 ?k7 ?k8 ?k9 ?k10 ?k11 ?k13 ?_; (case k1 => k_asm); (case k2 => k_asm); (case k3 => k_asm); (case k4 => k_inst); (case km => with_reducible assumption); (case k5 => exact rfl); (case k6 => k_is); (case k7 => k_is); (case k8 => k_is); (case k9 => k_is); (case k10 => k_get); (case k11 => k_put); (case k13 => exact Nat.le_of_ble_eq_true rfl))))

/-- a node taken away from its parent -/
def offList (K : Str) (k : Nat) (p : Node) : Node :=
  if K = Str.ofString "attribute" then { p with as := p.as.erase k } else if K = Str.ofString "namespace" then { p with ss := p.ss.erase k } else { p with ch := p.ch.erase k }
def cut (D : List Node) (k j : Nat) (K : Str) : List Node := (D.modify j (offList K k)).modify k fun n => { n with par := none }
def listIn (K : Str) (p : Node) : List Nat := if K = Str.ofString "attribute" then p.as else if K = Str.ofString "namespace" then p.ss else p.ch

/-- the list object that a node stands in -/
def lstAt (K : Str) (nd : Nd) : Addr := if K = Str.ofString "attribute" then nd.at' else if K = Str.ofString "namespace" then nd.ns else nd.c

set_option maxHeartbeats 4000000 in
theorem list_above_ok {news : List (Addr × Obj)} {T : Tr} {k j : Nat} {kt jt : Tok} {nd pd : Nd} {K : Str} {tK : Tok} (hT : ∀ q ∈ trObjs w.params T, q ∈ news) (hk : T.nodes[k]? = some nd) (hp : nd.par = .int (j : Int) jt) (hK : nd.kind = .str K tK) (hj : T.nodes[j]? = some pd) (hsz : T.nodes.length ≤ 1000) :
    Tel prog w (hd.heap_1 w.params) p loose mean mg mb 20 200 news (call (.ref 81) [.ref T.t, .int k kt]) (fun r news' => r = .ref (lstAt K pd) ∧ news' = news) := by
  unfold Tel
  intro dp un gd cn cs a ccd cl outer A₀ base h₀ L m s Q E B F X N T0 hkf hd hu hret
  have m1 := tr_t hT
  have m2 := tr_d hT
  have hn := nd_mem hj hT
  have m4 := nd_x hn
  have m5 := nd_d hn
  have hh : handedIn nd.par = true := by rw [hp]; rfl
  walk1
  ktr_step
  ktr_call (fun _ h => h) (parent_ok hT hk hh hsz)
  rintro _ _ h1 tk1 F1 N1 ⟨rfl, rfl⟩
  rw [hp]
  ktr_step
  ktr_call (fun _ h => h) (row_ok hT hj hsz)
  rintro _ _ h2 tk2 F2 N2 ⟨rfl, rfl⟩
  ktr_step
  ktr_call (fun _ h => h) (kind_ok hT hk hK hsz)
  rintro _ _ h3 tk3 F3 N3 ⟨rfl, rfl⟩
  ktr_step
  all_goals refine hret _ _ _ _ (by k_asm) (by k_asm) ⟨?_, rfl⟩
  all_goals unfold lstAt
  · rename ((K == Str.ofString "attribute") = true) => h1; rw [if_pos (beq_iff_eq.mp h1)]
  · rename ((K == Str.ofString "attribute") = false) => h1; rename ((K == Str.ofString "namespace") = true) => h2
    rw [if_neg (beq_eq_false_iff_ne.mp h1), if_pos (beq_iff_eq.mp h2)]
  · rename ((K == Str.ofString "attribute") = false) => h1; rename ((K == Str.ofString "namespace") = false) => h2
    rw [if_neg (beq_eq_false_iff_ne.mp h1), if_neg (beq_eq_false_iff_ne.mp h2)]

def lstVals (K : Str) (nd : Nd) : List Value := if K = Str.ofString "attribute" then nd.as else if K = Str.ofString "namespace" then nd.ss else nd.ch
def lstN (K : Str) (nd : Nd) : Nat := if K = Str.ofString "attribute" then nd.an else if K = Str.ofString "namespace" then nd.sn else nd.cn
def withLst (K : Str) (nd : Nd) (its : List Value) (e : Nat) : Nd :=
  if K = Str.ofString "attribute" then { nd with as := its, an := e } else if K = Str.ofString "namespace" then { nd with ss := its, sn := e } else { nd with ch := its, cn := e }
theorem lst_mem {P : Params} {nd : Nd} {news : List (Addr × Obj)} (K : Str) (h : ∀ q ∈ ndObjs P nd, q ∈ news) : (lstAt K nd, listOf (lstVals K nd).toArray (lstN K nd)) ∈ news := by
  unfold lstAt lstVals lstN
  split
  · exact nd_a h
  · split
    · exact nd_s h
    · exact nd_c h
theorem tr_lst {P : Params} {T : Tr} {k : Nat} {nd : Nd} {rest : List (Addr × Obj)} (K : Str) (its : List Value) (n : Nat) (hk : T.nodes[k]? = some nd) (hap : Ap (trObjs P T ++ rest)) :
    (∀ q ∈ trObjs P { T with nodes := T.nodes.set k (withLst K nd its n) } ++ rest, q = (lstAt K nd, listOf its.toArray n) ∨ (q ∈ trObjs P T ++ rest ∧ q.1 ≠ lstAt K nd)) ∧ Ap (trObjs P { T with nodes := T.nodes.set k (withLst K nd its n) } ++ rest) := by
  unfold lstAt withLst
  split
  · exact tr_as its n hk hap
  · split
    · exact tr_ss its n hk hap
    · exact tr_ch its n hk hap
theorem withLst_is {K : Str} {nd : Nd} {n : Node} {its : List Value} {e k : Nat} (h : NdIs nd n) (hi : IntsAre its (nats ((listIn K n).erase k))) : NdIs (withLst K nd its e) (offList K k n) := by
  unfold withLst offList
  unfold listIn at hi
  split
  · rename_i h1; rw [if_pos h1] at hi; exact ⟨h.kind, h.par, h.ch, hi, h.ss, h.loc, h.name⟩
  · rename_i h1; rw [if_neg h1] at hi
    split
    · rename_i h2; rw [if_pos h2] at hi; exact ⟨h.kind, h.par, h.ch, h.as, hi, h.loc, h.name⟩
    · rename_i h2; rw [if_neg h2] at hi; exact ⟨h.kind, h.par, hi, h.as, h.ss, h.loc, h.name⟩
theorem lstVals_is {K : Str} {nd : Nd} {n : Node} (h : NdIs nd n) : IntsAre (lstVals K nd) (nats (listIn K n)) := by
  unfold lstVals listIn
  split
  · exact h.as
  · split
    · exact h.ss
    · exact h.ch
theorem listIn_fit {D : List Node} {K : Str} {k : Nat} {n : Node} (hf : Fit D) (h : D[k]? = some n) : (listIn K n).length ≤ 1000 := by
  have h1 := hf.all _ _ h
  have h2 := hf.small
  unfold listIn
  split
  · omega
  · split <;> omega
theorem intsAre_eraseIdx {vs : List Value} {ns : List Int} (h : IntsAre vs ns) (i : Nat) : IntsAre (vs.eraseIdx i) (ns.eraseIdx i) := by
  induction h generalizing i with
  | nil => simp; exact .nil
  | cons n t h ih =>
    cases i with
    | zero => simpa using h
    | succ i => simpa using IntsAre.cons n t (ih i)
theorem nats_eraseIdx (l : List Nat) (i : Nat) : (nats l).eraseIdx i = nats (l.eraseIdx i) := by
  unfold nats
  induction l generalizing i with
  | nil => simp
  | cons a r ih => cases i <;> simp [ih]
theorem idxOf_erase (l : List Nat) (k : Nat) : l.eraseIdx (l.idxOf k) = l.erase k := by
  induction l with
  | nil => simp
  | cons a r ih =>
    by_cases h : a = k
    · subst h; simp
    · have e2 : (a == k) = false := by simpa using h
      rw [List.idxOf_cons, e2, cond_false, List.eraseIdx_cons_succ, ih, List.erase_cons, e2]; simp
theorem idxOf_get {l : List Nat} {k : Nat} (h : k ∈ l) : l[l.idxOf k]? = some k := by
  induction l with
  | nil => cases h
  | cons a r ih =>
    by_cases e : a = k
    · subst e; simp
    · rcases List.mem_cons.mp h with h | h
      · exact absurd h.symm e
      · have e2 : (a == k) = false := by simpa using e
        rw [List.idxOf_cons, e2, cond_false, List.getElem?_cons_succ]; exact ih h
theorem idxOf_first {l : List Nat} {k i : Nat} (h : i < l.idxOf k) : l[i]? ≠ some k := by
  induction l generalizing i with
  | nil => simp
  | cons a r ih =>
    by_cases e : a = k
    · subst e; simp at h
    · cases i with
      | zero => simp [e]
      | succ i =>
        simp only [List.getElem?_cons_succ]
        refine ih ?_
        have e2 : (a == k) = false := by simpa using e
        rw [List.idxOf_cons, e2] at h
        simp only [cond_false] at h
        omega
theorem nats_get? (l : List Nat) (i : Nat) : (nats l)[i]? = (l[i]?).map fun (k : Nat) => (k : Int) := by simp [nats]

set_option maxHeartbeats 4000000 in
theorem remove_doc {rest : List (Addr × Obj)} {T : Tr} {D : List Node} {k j : Nat} {kt : Tok} {n pn : Node} (hap : Ap (trObjs w.params T ++ rest)) (hT : TrIs T D) (hf : Fit D)
    (hn : D[k]? = some n) (hp : n.par = some j) (hpn : D[j]? = some pn) (hkj : k ≠ j) (hin : k ∈ listIn n.kind pn) :
    Tel prog w (hd.heap_1 w.params) p loose mean mg mb 35 350 (trObjs w.params T ++ rest) (call (.ref 88) [.ref T.t, .int k kt]) (fun r news' => ∃ T', r = .none ∧ Same T T' ∧ TrIs T' (cut D k j n.kind) ∧ news' = trObjs w.params T' ++ rest ∧ Ap news') := by
  unfold Tel
  intro dp un gd cn cs a ccd cl outer A₀ base h₀ L m s Q E B F X N T0 hkf hd hu hret
  obtain ⟨nd, hk, hnd⟩ := hT.nd hn
  obtain ⟨pd, hj, hpd⟩ := hT.nd hpn
  obtain ⟨tK, hK⟩ := hnd.kind
  have hpar := hnd.par
  rw [hp] at hpar
  obtain ⟨jt, hpar⟩ := hpar
  have hbig := hT.big hf
  have hsub : ∀ q ∈ trObjs w.params T, q ∈ trObjs w.params T ++ rest := fun q hq => List.mem_append_left _ hq
  have m1 := tr_t hsub
  have m2 := tr_d hsub
  have m3 := lst_mem n.kind (nd_mem hj hsub)
  have hI := lstVals_is (K := n.kind) hpd
  have hsz : (lstVals n.kind pd).length ≤ 1000 := by rw [hI.length, nats_length]; exact listIn_fit hf hpn
  walk1
  ktr_step
  ktr_call (fun _ h => h) (parent_ok hsub hk (by rw [hpar]; rfl) hbig)
  rintro _ _ h1 tk1 F1 N1 ⟨rfl, rfl⟩
  rw [hpar]
  ktr_step
  ktr_call (fun _ h => h) (list_above_ok hsub hk hpar hK hj hbig)
  rintro _ _ h2 tk2 F2 N2 ⟨rfl, rfl⟩
  ktr_step
  refine remove_sem (ns := nats (listIn n.kind pn)) (j := (listIn n.kind pn).idxOf k) F2 N2 m3 hI (by rw [nats_get?, idxOf_get hin]; rfl) (fun i hi e => ?_) (by size_fits) ?_
  · rw [nats_get?, Option.map_eq_some_iff] at e
    obtain ⟨b, hb, hb2⟩ := e
    have : b = k := by omega
    subst this
    exact idxOf_first hi hb
  intro h3 F3 N3
  have up := tr_lst n.kind ((lstVals n.kind pd).eraseIdx ((listIn n.kind pn).idxOf k)) (lstN n.kind pd + 1) hj hap
  have N4 := N3 _ up.1
  have hTi : TrIs { T with nodes := T.nodes.set j (withLst n.kind pd ((lstVals n.kind pd).eraseIdx ((listIn n.kind pn).idxOf k)) (lstN n.kind pd + 1)) } (D.modify j (offList n.kind k)) := by
    refine trIs_set hT hpn hj (withLst_is hpd ?_)
    have := intsAre_eraseIdx hI ((listIn n.kind pn).idxOf k)
    rw [nats_eraseIdx, idxOf_erase] at this
    exact this
  clear N3 m1 m2 m3 hsub
  obtain ⟨T1, e1⟩ : ∃ T1, T1 = { T with nodes := T.nodes.set j (withLst n.kind pd ((lstVals n.kind pd).eraseIdx ((listIn n.kind pn).idxOf k)) (lstN n.kind pd + 1)) } := ⟨_, rfl⟩
  have hk1 : T1.nodes[k]? = some nd := by rw [e1]; dsimp only; rw [List.getElem?_set_ne (Ne.symm hkj)]; exact hk
  have et : T.t = T1.t := by rw [e1]
  have hs1 : Same T T1 := by rw [e1]; exact ⟨rfl, rfl, rfl, rfl⟩
  rw [← e1] at N4 hTi up
  have hap1 := up.2
  clear up
  have hbig1 : T1.nodes.length ≤ 1000 := by rw [e1]; simpa using hbig
  have hsub : ∀ q ∈ trObjs w.params T1, q ∈ trObjs w.params T1 ++ rest := fun q hq => List.mem_append_left _ hq
  have m1 := tr_t hsub
  have m2 := tr_d hsub
  have hnm := nd_mem hk1 hsub
  have m4 := nd_x hnm
  have m5 := nd_d hnm
  rw [← et] at m1
  have C := row_ok (w := w) (prog := prog) (p := p) (loose := loose) (mean := mean) (mg := mg) (mb := mb) (kt := kt) hsub hk1 hbig1
  rw [← et] at C
  clear hnm hsub
  ktr_step
  ktr_call (fun _ h => h) C
  rintro _ _ h4 tk4 F4 N5 ⟨rfl, rfl⟩
  have up := tr_par .none hk1 hap1
  ktr_step
  intro h5 tk5 F5 N6
  have N7 := N6 _ up.1
  clear N6
  ktr_step
  rename Fr _ _ _ _ => F8
  rename News _ _ _ _ => N8
  refine hret _ _ _ _ F8 N8 ⟨{ T1 with nodes := T1.nodes.set k { nd with par := .none } }, rfl, ⟨hs1.t, hs1.d, hs1.r, hs1.tk⟩, ?_, rfl, up.2⟩
  have hn1 : (D.modify j (offList n.kind k))[k]? = some n := by rw [List.getElem?_modify_ne _ _ (Ne.symm hkj)]; exact hn
  exact trIs_set (f := fun n => { n with par := none }) hTi hn1 hk1 ⟨hnd.kind, rfl, hnd.ch, hnd.as, hnd.ss, hnd.loc, hnd.name⟩
theorem quiet_M8 : True := by
  w_top off
  trivial
theorem mid_upd {D : Addr} {o' : Obj} {pre post old : List (Addr × Obj)} (h1 : ∀ p ∈ pre, p.1 ≠ D) (h2 : ∀ p ∈ post, p.1 ≠ D) (hs : ∀ p ∈ pre ++ post, p ∈ old) : ∀ x ∈ pre ++ (D, o') :: post, x = (D, o') ∨ (x ∈ old ∧ x.1 ≠ D) := fun x hx => by
  rcases List.mem_append.mp hx with hx | hx
  · exact .inr ⟨hs _ (List.mem_append_left _ hx), h1 x hx⟩
  · rcases List.mem_cons.mp hx with rfl | hx
    · exact .inl rfl
    · exact .inr ⟨hs _ (List.mem_append_right _ hx), h2 x hx⟩
theorem head_upd {D : Addr} {o o' : Obj} {news : List (Addr × Obj)} (h : ∀ p ∈ news, p.1 < D) : ∀ x ∈ (D, o') :: news, x = (D, o') ∨ (x ∈ (D, o) :: news ∧ x.1 ≠ D) := fun x hx => by
  rcases List.mem_cons.mp hx with rfl | hx
  · exact .inl rfl
  · exact .inr ⟨.tail _ hx, Nat.ne_of_lt (h x hx)⟩
theorem sub_tail {x : Addr × Obj} {pre news : List (Addr × Obj)} (h : ∀ q ∈ pre, q ∈ news) : ∀ q ∈ pre, q ∈ x :: news := fun q hq => List.mem_cons_of_mem _ (h q hq)
theorem sub_right {a pre news : List (Addr × Obj)} (h : ∀ q ∈ pre, q ∈ news) : ∀ q ∈ pre, q ∈ a ++ news := fun q hq => List.mem_append_right _ (h q hq)
theorem sub_left {a pre news : List (Addr × Obj)} (h : ∀ q ∈ pre, q ∈ news) : ∀ q ∈ pre, q ∈ news ++ a := fun q hq => List.mem_append_left _ (h q hq)
theorem sub_self (l : List (Addr × Obj)) : ∀ q ∈ l, q ∈ l := fun _ h => h
section
variable {A : Around} {E : Value → Shared → Prop} {s : Shared} {env : Env} {h₀ : Heap} {x : Str} {body : List Stmt} {Q : Flow → Shared → Prop}
/-- a name whose value is known -/
theorem fr_pin {L : Addr} {h : Heap} {m : Str → Option Value} {x : Str} {v : Value} (F : Fr h₀ L h m) (hx : m x = some v) : Fr h₀ L h (fun y => if y = x then some v else m y) := by
  have e : (fun y => if y = x then some v else m y) = m := by
    funext y
    by_cases h : y = x
    · subst h; simp [hx]
    · simp [h]
  rw [e]; exact F

def WhileEnd (h₀ : Heap) (L : Addr) (s : Shared) (ys : List Str) (m₀ : Str → Option Value) (J : Nat → (Str → Option Value) → List (Addr × Obj) → Prop) (n : Nat) (f : Flow) (s₃ : Shared) : Prop :=
  f = .next ∧ ∃ h' tk m₂ nx n', s₃ = { s with heap := h', toks := tk } ∧ Fr h₀ L h' m₂ ∧ News h₀ L h' nx ∧ n' < n ∧ (∀ z, z ∉ ys → m₂ z = m₀ z) ∧ J n' m₂ nx
theorem while_next {L : Addr} {s₁ : Shared} {ys : List Str} {m₀ m' : Str → Option Value} {J : Nat → (Str → Option Value) → List (Addr × Obj) → Prop} {n n' : Nat} {nx : List (Addr × Obj)} {h' : Heap} {tk : Nat}
    (F : Fr h₀ L h' m') (N : News h₀ L h' nx) (hn : n' < n) (hm : ∀ z, z ∉ ys → m' z = m₀ z) (hJ : J n' m' nx) : WhileEnd h₀ L s₁ ys m₀ J n .next { s₁ with heap := h', toks := tk } := ⟨rfl, h', tk, m', nx, n', rfl, F, N, hn, hm, hJ⟩

theorem while_Y {L : Addr} {test : PySem.Expr} {pos : Pos} {m₀ : Str → Option Value} {news : List (Addr × Obj)} (ys : List Str) (J : Nat → (Str → Option Value) → List (Addr × Obj) → Prop) {n₀ : Nat}
    (F : Fr h₀ L s.heap m₀) (N : News h₀ L s.heap news) (hJ : J n₀ m₀ news)
    (turn : ∀ n m₁ nx h tk, J n m₁ nx → Fr h₀ L h (fun y => if y ∈ ys then m₁ y else m₀ y) → News h₀ L h nx →
      wpAny (model prog w) A (isTrue test env (eval test env)) (fun b s₂ =>
        if b = true then wpAny (model prog w) A (execs body env) (WhileEnd h₀ L s ys m₀ J n) E s₂ else Q .next s₂) E { s with heap := h, toks := tk })
    (hE : PassesOwn (model prog w) A env E := by passes_own) :
    wpAny (model prog w) A (exec (.While test body [] pos) env) Q E s := by
  refine While_inv (fun n m nx => (∀ z, z ∉ ys → m z = m₀ z) ∧ J n m nx) F N ⟨fun _ _ => rfl, hJ⟩ ?_ hE
  rintro n m₁ nx h tk F₁ N₁ ⟨hm, J₁⟩
  have e : (fun y => if y ∈ ys then m₁ y else m₀ y) = m₁ := by
    funext z
    by_cases h2 : z ∈ ys
    · simp only [if_pos h2]
    · simp only [if_neg h2]; exact (hm z h2).symm
  refine wpAny_mono (turn n m₁ nx h tk J₁ (by rw [e]; exact F₁) N₁) (fun b s₂ p => ?_) fun _ _ x => x
  cases b with
  | false => simpa using p
  | true =>
    simp only [if_true] at p ⊢
    refine wpAny_mono p (fun f s₃ q => ?_) fun _ _ x => x
    obtain ⟨rfl, h', tk', m', nx', n', rfl, F', N', hn, hm', J'⟩ := q
    exact ⟨rfl, h', tk', m', nx', n', rfl, F', N', hn, hm', J'⟩
end

section
variable {A : Around} {E : Value → Shared → Prop} {s : Shared} {h₀ : Heap} {L D b : Addr} {m : Str → Option Value} {news : List (Addr × Obj)}
theorem pop_sem {vs : List Value} {y : Value} {n : Nat} {Q : Value → Shared → Prop} (F : Fr h₀ L s.heap m) (N : News h₀ L s.heap news) (hm : (D, listOf (vs ++ [y]).toArray n) ∈ news) (hsz : vs.length < sizeLine)
    (h : Halt (∀ h', Fr h₀ L h' m → (∀ news', (∀ q ∈ news', q = (D, listOf vs.toArray (n + 1)) ∨ (q ∈ news ∧ q.1 ≠ D)) → News h₀ L h' news') → Q y { s with heap := h' })) : wpAny (model prog w) A (call (.builtin "list.pop") [.ref D]) Q E s := by
  have ho := (N _ hm).1
  have hk : (vs ++ [y]).toArray.size - 1 = vs.length := by rw [List.size_toArray, List.length_append]; rfl
  have hy : (vs ++ [y]).toArray[(vs ++ [y]).toArray.size - 1]? = some y := by rw [hk]; simp
  have hz : (vs ++ [y]).toArray.size ≤ sizeLine := by rw [List.size_toArray, List.length_append, List.length_singleton]; omega
  refine call_meets PySem.F.slot_list_pop ⟨_, ho, rfl⟩ PySem.F.entry_list_pop (PySem.F.args_list_pop_1 _) (PySem.MeetsSeq.list_pop_last D _ n y hy hz) ⟨ho, ?_⟩
  refine h _ (F.change (Heap.SameBut.update ..) (N _ hm).2.1 (N _ hm).2.2) fun news' hq => news_sem N hm (Heap.SameBut.update ..) ?_ hq
  have q := PySem.IsL.update (l := D) ho fun xs => xs.eraseIdxIfInBounds ((vs ++ [y]).toArray.size - 1)
  have e : (vs ++ [y]).toArray.eraseIdxIfInBounds ((vs ++ [y]).toArray.size - 1) = vs.toArray := by
    rw [hk, kl_erase, List.append_nil]
  rw [e] at q
  have e2 : (vs.toArray.size == (vs ++ [y]).toArray.size) = false := by simp
  simp only [e2, Bool.false_eq_true, if_false] at q
  exact q
theorem extend_sem {vs ws : List Value} {n n2 : Nat} {Q : Value → Shared → Prop} (F : Fr h₀ L s.heap m) (N : News h₀ L s.heap news) (hm : (D, listOf vs.toArray n) ∈ news) (hb : (b, listOf ws.toArray n2) ∈ news) (hsz : vs.length + ws.length ≤ sizeLine)
    (h : Halt (∀ h' e, Fr h₀ L h' m → (∀ news', (∀ q ∈ news', q = (D, listOf (vs ++ ws).toArray e) ∨ (q ∈ news ∧ q.1 ≠ D)) → News h₀ L h' news') → Q .none { s with heap := h' })) : wpAny (model prog w) A (call (.builtin "list.extend") [.ref D, .ref b]) Q E s := by
  have ho := (N _ hm).1
  refine call_meets PySem.F.slot_list_extend ⟨_, ho, rfl⟩ PySem.F.entry_list_extend (PySem.F.args_list_extend_2 _ _) (PySem.AutoSeq1.list_extend_list_list_0 D vs.toArray n b ws.toArray n2 (extend_door (by simpa using hsz)) (by rw [List.size_toArray]; omega) (by rw [List.size_toArray, List.size_toArray]; omega)) ⟨ho, (N _ hb).1, ?_⟩
  have q := PySem.IsL.update (l := D) ho fun xs => xs ++ ws.toArray
  have e : vs.toArray ++ ws.toArray = (vs ++ ws).toArray := by simp
  rw [e] at q
  exact h _ _ (F.change (Heap.SameBut.update ..) (N _ hm).2.1 (N _ hm).2.2) fun news' hq => news_sem N hm (Heap.SameBut.update ..) q hq
end

section
variable {A : Around} {E : Value → Shared → Prop} {s : Shared} {h₀ : Heap} {L D : Addr} {m : Str → Option Value} {news : List (Addr × Obj)}
theorem setitem_sem {vs : List Value} {n : Nat} {k : Int} {t : Tok} {v : Value} {Q : Unit → Shared → Prop} (F : Fr h₀ L s.heap m) (N : News h₀ L s.heap news) (hm : (D, listOf vs.toArray n) ∈ news) (h0 : 0 ≤ k) (hfit : k < 2 ^ 63) (h1 : k < vs.length)
    (h : Halt (∀ h', Fr h₀ L h' m → (∀ news', (∀ q ∈ news', q = (D, listOf (vs.set k.toNat v).toArray n) ∨ (q ∈ news ∧ q.1 ≠ D)) → News h₀ L h' news') → Q () { s with heap := h' })) : wpAny (model prog w) A (setItem (.ref D) (.int k t) v) Q E s := by
  have ho := (N _ hm).1
  refine ki_setAt ho h0 hfit (by rw [List.size_toArray]; omega) ?_
  refine h _ (F.change (Heap.SameBut.update ..) (N _ hm).2.1 (N _ hm).2.2) fun news' hq => news_sem N hm (Heap.SameBut.update ..) ?_ hq
  have q := PySem.IsL.update (l := D) ho fun xs => xs.setIfInBounds k.toNat v
  have e : vs.toArray.setIfInBounds k.toNat v = (vs.set k.toNat v).toArray := by apply Array.toList_inj.mp; simp
  rw [e] at q
  have e2 : ((vs.set k.toNat v).toArray.size == vs.toArray.size) = true := by simp
  simp only [e2, if_true] at q
  exact q
end
local macro_rules | `(tactic| walk_at "call builtin:list.pop") => `(tactic| (k_here; (with_reducible show wpAny _ _ (call (Value.builtin _) [Value.ref _]) _ _ _); k_dflt (refine' pop_sem ?F ?N ?m ?z ?_; (case F => k_asm); (case N => k_asm); (case m => k_mem); (case z => size_fits))))
local macro_rules | `(tactic| walk_at "call builtin:list.extend") => `(tactic| (k_here; (with_reducible show wpAny _ _ (call (Value.builtin _) [Value.ref _, Value.ref _]) _ _ _); k_dflt (refine' extend_sem ?F ?N ?m ?b ?z ?_; (case F => k_asm); (case N => k_asm); (case m => k_mem); (case b => k_mem); (case z => size_fits))))
local macro_rules | `(tactic| walk_at "call builtin:list.append") => `(tactic| (k_here; (with_reducible show wpAny _ _ (call (Value.builtin _) [Value.ref _, _]) _ _ _); k_dflt (refine' append_sem ?F ?N ?m ?z ?_; (case F => k_asm); (case N => k_asm); (case m => first | with_reducible assumption | ((with_reducible refine List.mem_cons_of_mem _ ?_); with_reducible assumption) | ((with_reducible refine List.mem_cons_of_mem _ (List.mem_cons_of_mem _ ?_)); with_reducible assumption)); (case z => size_fits))))
local macro_rules | `(tactic| walk_at "setItem ref int") => `(tactic| (k_here; (with_reducible show wpAny _ _ (setItem (Value.ref _) (Value.int _ _) _) _ _ _); k_dflt (refine' setitem_sem ?F ?N ?m ?k0 ?kf ?k1 ?_; (case F => k_asm); (case N => k_asm); (case m => k_mem); (case k0 => first | decide | omega); (case kf => first | decide | omega); (case k1 => first | omega | ((simp only [List.length_cons, List.length_nil, List.length_append]); omega)))))
theorem quiet_M9 : True := by
  w_top off
  trivial
/-- the way up -/
inductive Up (D : List Node) : Option Nat → List Nat → Prop
  | nil : Up D none []
  | cons {k : Nat} {n : Node} {l : List Nat} : D[k]? = some n → Up D n.par l → Up D (some k) (k :: l)

set_option maxHeartbeats 4000000 in
theorem ancestors_ok {news : List (Addr × Obj)} {T : Tr} {D : List Node} {k : Nat} {kt : Tok} {n : Node} {l : List Nat} (hsub : ∀ q ∈ trObjs w.params T, q ∈ news) (hT : TrIs T D) (hf : Fit D) (hn : D[k]? = some n) (hup : Up D n.par l) (hl : l.length ≤ 100) :
    Tel prog w (hd.heap_1 w.params) p loose mean mg mb 20 200 news (call (.ref 35) [.ref T.t, .int k kt]) (fun r news' => ∃ q vs e, r = .ref q ∧ IntsAre vs (nats l) ∧ news' = (q, listOf vs.toArray e) :: news ∧ ∀ p ∈ news, p.1 < q) := by
  unfold Tel
  intro dp un gd cn cs a ccd cl outer A₀ base h₀ L m s Q E B F X N T0 hkf hd hu hret
  have hbig := hT.big hf
  obtain ⟨nd, hk, hnd⟩ := hT.nd hn
  have m1 := tr_t hsub
  have m2 := tr_d hsub
  walk1
  ktr_step
  ktr_call (sub_self _) (parent_ok (sub_tail hsub) hk hnd.par.handed hbig)
  rintro _ _ h1 tk1 F1 N1 ⟨rfl, rfl⟩
  ktr_step
  rename Fr _ _ _ _ => F2
  rename News _ _ _ _ => N2
  refine while_Y (news := (_, listOf #[] 0) :: news) [Str.ofString "found", Str.ofString "here"] (fun n m nx => ∃ q vs e v cur fs l', m (Str.ofString "found") = some (.ref q) ∧ m (Str.ofString "here") = some v ∧ ParIs v cur ∧ IntsAre vs (nats fs) ∧ Up D cur l' ∧ fs ++ l' = l ∧ n = l'.length ∧ nx = (q, listOf vs.toArray e) :: news ∧ ∀ p ∈ news, p.1 < q)
    F2 (News.of N2 fun q hq => .tail _ hq) ⟨_, [], 0, _, _, [], l, rfl, rfl, hnd.par, .nil, hup, rfl, rfl, rfl, by assumption⟩ ?_
  clear F2 N2
  rintro c m₁ _ h tk ⟨q, vs, e, v, cur, fs, l', hfo, hhe, hv, hI, hU, hfl, rfl, rfl, hq0⟩ F3 N3
  have F4 := fr_pin (fr_pin F3 (x := Str.ofString "here") (v := v) (by exact hhe)) (x := Str.ofString "found") (v := .ref q) (by exact hfo)
  clear F3
  cases hU with
  | nil =>
    obtain rfl : v = .none := hv
    ktr_step
    rw [List.append_nil] at hfl
    subst hfl
    exact hret _ _ _ _ (by k_asm) (by k_asm) ⟨q, vs, e, rfl, hI, rfl, hq0⟩
  | @cons k2 n2 l2 hn' hU' =>
    obtain ⟨t, rfl⟩ := hv
    obtain ⟨nd', hk', hnd'⟩ := hT.nd hn'
    have hvl : vs.length ≤ 100 := by have e1 := hI.length; rw [nats_length] at e1; rw [← hfl, List.length_append] at hl; omega
    have mq : (q, listOf vs.toArray e) ∈ (q, listOf vs.toArray e) :: news := .head _
    ktr_step
    intro h5 F5 N5
    have N6 := N5 _ (head_upd hq0)
    clear N5 mq
    ktr_step
    ktr_call (sub_self _) (parent_ok (sub_tail hsub) hk' hnd'.par.handed hbig)
    rintro _ _ h7 tk7 F7 N7 ⟨rfl, rfl⟩
    ktr_step
    rename Fr _ _ _ _ => F8
    rename News _ _ _ _ => N8
    refine while_next F8 N8 (n' := l2.length) ?_ ?_ ⟨q, vs ++ [.int (k2 : Int) t], e + 1, nd'.par, n2.par, fs ++ [k2], l2, rfl, rfl, hnd'.par, ?_, hU', ?_, rfl, rfl, hq0⟩
    · simp
    · intro z h2
      simp only [List.mem_cons, List.not_mem_nil, or_false, not_or] at h2
      simp [h2]
    · rw [nats_append]
      exact hI.append (IntsAre.cons _ _ IntsAre.nil)
    · rw [List.append_assoc]; exact hfl
theorem quiet_M10 : True := by
  w_top off
  trivial
theorem nats_cons (k : Nat) (l : List Nat) : nats (k :: l) = (k : Int) :: nats l := rfl
theorem ints_snoc {vs : List Value} {ns : List Int} {k : Int} (h : IntsAre vs (ns ++ [k])) : ∃ vs2 t, vs = vs2 ++ [.int k t] ∧ IntsAre vs2 ns := by
  induction ns generalizing vs with
  | nil => cases h with | cons _ t h' => cases h'; exact ⟨[], t, rfl, .nil⟩
  | cons a r ih =>
    cases h with
    | cons _ t h' =>
      obtain ⟨vs2, t2, rfl, h2⟩ := ih h'
      exact ⟨.int a t :: vs2, t2, rfl, .cons _ _ h2⟩
/-- what lies within, each ahead of what lies within it: out of the nodes that are left -/
inductive Pre (D : List Node) : List Nat → List Nat → Prop
  | nil : Pre D [] []
  | cons {k : Nat} {n : Node} {st out : List Nat} : D[k]? = some n → Pre D (n.ch ++ st) out → Pre D (k :: st) (k :: out)
theorem Pre.le {D : List Node} {st out : List Nat} (h : Pre D st out) : st.length ≤ out.length := by
  induction h with
  | nil => exact Nat.le_refl _
  | cons _ _ ih => simp only [List.length_append, List.length_cons] at ih ⊢; omega

set_option maxHeartbeats 4000000 in
theorem descendants_ok {news : List (Addr × Obj)} {T : Tr} {D : List Node} {k : Nat} {kt : Tok} {n : Node} {l : List Nat} (hsub : ∀ q ∈ trObjs w.params T, q ∈ news) (hT : TrIs T D) (hf : Fit D) (hn : D[k]? = some n) (hpre : Pre D n.ch l) (hl : l.length ≤ 100) :
    Tel prog w (hd.heap_1 w.params) p loose mean mg mb 20 200 news (call (.ref 28) [.ref T.t, .int k kt]) (fun r news' => ∃ q vs e, r = .ref q ∧ IntsAre vs (nats l) ∧ news' = (q, listOf vs.toArray e) :: news ∧ ∀ p ∈ news, p.1 < q) := by
  unfold Tel
  intro dp un gd cn cs a ccd cl outer A₀ base h₀ L m s Q E B F X N T0 hkf hd hu hret
  have hbig := hT.big hf
  obtain ⟨nd, hk, hnd⟩ := hT.nd hn
  have m1 := tr_t hsub
  have m2 := tr_d hsub
  have hI0 := hnd.ch
  have hcl : nd.ch.length ≤ 100 := by have e1 := hnd.ch.length; rw [nats_length] at e1; have := hpre.le; omega
  walk1
  ktr_step
  ktr_call (sub_self _) (children_ok (sub_tail hsub) hk hbig (by omega))
  rintro _ _ h1 tk1 F1 N1 ⟨q1, e1, rfl, rfl, hq1⟩
  ktr_step
  rename Fr _ _ _ _ => F2
  rename News _ _ _ _ => N2
  rename IntsAre _ _ => hI1
  rename (@LT.lt Nat _ _ _ ∧ _) => hlt1
  refine while_Y (news := (_, listOf #[] 0) :: (_, listOf _ 0) :: news) [Str.ofString "found", Str.ofString "left", Str.ofString "here"]
    (fun c m nx => ∃ qf qL vf vl ef el fs st o', m (Str.ofString "found") = some (.ref qf) ∧ m (Str.ofString "left") = some (.ref qL) ∧ IntsAre vf (nats fs) ∧ IntsAre vl (nats st).reverse ∧ Pre D st o' ∧ fs ++ o' = l ∧ c = o'.length ∧
      nx = (qf, listOf vf.toArray ef) :: (qL, listOf vl.toArray el) :: news ∧ (∀ p ∈ news, p.1 < qf) ∧ @LT.lt Nat _ qf qL)
    F2 (News.of N2 ?_) ⟨_, _, [], _, 0, 0, [], n.ch, l, rfl, rfl, .nil, hI1, hpre, rfl, rfl, rfl, by assumption, by omega⟩ ?_
  · intro q hq
    simp only [List.mem_cons] at hq ⊢
    rcases hq with h | h | h
    · exact .inr (.inr (.inr (.inr (.inl h))))
    · exact .inr (.inl h)
    · exact .inr (.inr (.inr (.inr (.inr h))))
  clear F2 N2 hI1 hlt1
  rintro c m₁ _ h tk ⟨qf, qL, vf, vl, ef, el, fs, st, o', hfo, hle, hIf, hIl, hP, hfl, rfl, rfl, hqf, hqL⟩ F3 N3
  have F4 := fr_pin (fr_pin F3 (x := Str.ofString "left") (v := .ref qL) (by exact hle)) (x := Str.ofString "found") (v := .ref qf) (by exact hfo)
  clear F3
  have hlen := hP.le
  have hvl : vl.length ≤ 100 := by have e1 := hIl.length; rw [List.length_reverse, nats_length] at e1; rw [← hfl, List.length_append] at hl; omega
  have hvf : vf.length ≤ 100 := by have e1 := hIf.length; rw [nats_length] at e1; rw [← hfl, List.length_append] at hl; omega
  cases hP with
  | nil =>
    ktr_step
    · rw [List.append_nil] at hfl
      subst hfl
      refine hret _ _ _ _ (by k_asm) (News.of (by k_asm) (l' := (qf, listOf vf.toArray ef) :: news) ?_) ⟨qf, vf, ef, rfl, hIf, rfl, hqf⟩
      intro q hq
      rcases List.mem_cons.mp hq with rfl | hq
      · exact .tail _ (.head _)
      · exact .tail _ (.tail _ (.tail _ hq))
  | @cons k2 n2 st2 o2 hn2 hP2 =>
    have hIl0 := hIl
    rw [nats_cons, List.reverse_cons] at hIl
    obtain ⟨vl2, t2, rfl, hIl2⟩ := ints_snoc hIl
    clear hIl
    obtain ⟨nd2, hk2, hnd2⟩ := hT.nd hn2
    have hle2 := hP2.le
    rw [List.length_append] at hle2
    rw [List.length_append, List.length_singleton] at hvl
    have mf : (qf, listOf vf.toArray ef) ∈ (qf, listOf vf.toArray ef) :: (qL, listOf (vl2 ++ [Value.int (k2 : Int) t2]).toArray el) :: news := .head _
    have mL : (qL, listOf (vl2 ++ [Value.int (k2 : Int) t2]).toArray el) ∈ (qf, listOf vf.toArray ef) :: (qL, listOf (vl2 ++ [Value.int (k2 : Int) t2]).toArray el) :: news := .tail _ (.head _)
    ktr_step
    · rename (decide (_ = []) = true) => hc
      simp [nats_cons] at hc
    clear hIl0
    intro h5 F5 N5
    have hnf : ∀ p ∈ news, p.1 ≠ qf := fun p hp => Nat.ne_of_lt (hqf p hp)
    have hnL : ∀ p ∈ news, p.1 ≠ qL := fun p hp => Nat.ne_of_lt (Nat.lt_trans (hqf p hp) hqL)
    have N6 := N5 ((qf, listOf vf.toArray ef) :: (qL, listOf vl2.toArray (el + 1)) :: news) (mid_upd (pre := [(qf, listOf vf.toArray ef)]) (fun p hp => by rw [List.mem_singleton.mp hp]; exact Nat.ne_of_lt hqL) hnL (fun p hp => by
      rcases List.mem_cons.mp hp with rfl | hp
      · exact .tail _ (.head _)
      · exact .tail _ (.tail _ (.tail _ hp))))
    clear N5 mf mL
    have mf : (qf, listOf vf.toArray ef) ∈ (qf, listOf vf.toArray ef) :: (qL, listOf vl2.toArray (el + 1)) :: news := .head _
    ktr_step
    intro h7 F7 N7
    have N8 := N7 ((qf, listOf (vf ++ [Value.int (k2 : Int) t2]).toArray (ef + 1)) :: (qL, listOf vl2.toArray (el + 1)) :: news) (mid_upd (pre := []) (fun p hp => nomatch hp) (fun p hp => by
      rcases List.mem_cons.mp hp with rfl | hp
      · exact Nat.ne_of_gt hqL
      · exact hnf p hp) (fun p hp => .tail _ hp))
    clear N7 mf
    ktr_step
    ktr_call (sub_self _) (children_ok (sub_tail (sub_tail hsub)) hk2 hbig (by have e1 := hnd2.ch.length; rw [nats_length] at e1; rw [← hfl, List.length_append, List.length_cons] at hl; omega))
    rintro _ _ h9 tk9 F9 N9 ⟨q9, e9, rfl, rfl, hq9⟩
    have hI9 := hnd2.ch
    have hc9 : nd2.ch.length ≤ 100 := by have e1 := hI9.length; rw [nats_length] at e1; rw [← hfl, List.length_append, List.length_cons] at hl; omega
    ktr_step
    rename IntsAre _ _ => hIw
    have hwl := hIw.length
    rw [List.length_reverse, nats_length] at hwl
    have hn2c : n2.ch.length ≤ 100 := by rw [← hfl, List.length_append, List.length_cons] at hl; omega
    walk1
    intro h10 e10 F10 N10
    have N11 := N10 ((qf, listOf (vf ++ [Value.int (k2 : Int) t2]).toArray (ef + 1)) :: (qL, listOf (vl2 ++ _).toArray e10) :: news) (mid_upd (pre := [_]) (fun p hp => by rw [List.mem_singleton.mp hp]; exact Nat.ne_of_lt hqL) hnL (fun p hp => by
      rcases List.mem_cons.mp hp with rfl | hp
      · exact .tail _ (.tail _ (.tail _ (.head _)))
      · exact .tail _ (.tail _ (.tail _ (.tail _ (.tail _ hp))))))
    clear N10
    ktr_step
    rename Fr _ _ _ _ => F12
    rename News _ _ _ _ => N12
    refine while_next F12 N12 (n' := o2.length) ?_ ?_ ⟨qf, qL, vf ++ [.int (k2 : Int) t2], _, ef + 1, e10, fs ++ [k2], n2.ch ++ st2, o2, rfl, rfl, ?_, ?_, hP2, ?_, rfl, rfl, hqf, hqL⟩
    · simp
    · intro z h2
      simp only [List.mem_cons, List.not_mem_nil, or_false, not_or] at h2
      simp [h2]
    · rw [nats_append]
      exact hIf.append (IntsAre.cons _ _ IntsAre.nil)
    · rw [nats_append, List.reverse_append]
      exact hIl2.append hIw
    · rw [List.append_assoc]; exact hfl
theorem quiet_M11 : True := by
  w_top off
  trivial
set_option maxHeartbeats 4000000 in
theorem with_descendants_ok {news : List (Addr × Obj)} {T : Tr} {D : List Node} {l : Addr} {vs : List Value} {e : Nat} {ks : List Nat} {ds : Nat → List Nat} (hsub : ∀ q ∈ trObjs w.params T, q ∈ news) (hT : TrIs T D) (hf : Fit D)
    (hml : (l, listOf vs.toArray e) ∈ news) (hI : IntsAre vs (nats ks)) (hks : ∀ k ∈ ks, ∃ n, D[k]? = some n ∧ Pre D n.ch (ds k) ∧ (ds k).length ≤ 100) (hlen : ks.length ≤ 100) :
    Tel prog w (hd.heap_1 w.params) p loose mean mg mb 30 300 news (call (.ref 42) [.ref T.t, .ref l]) (fun r news' => ∃ q vs e, r = .ref q ∧ IntsAre vs (nats (ks.flatMap fun k => k :: ds k)) ∧ news' = (q, listOf vs.toArray e) :: news ∧ ∀ p ∈ news, p.1 < q) := by
  unfold Tel
  intro dp un gd cn cs a ccd cl outer A₀ base h₀ L m s Q E B F X N T0 hkf hd hu hret
  have hbig := hT.big hf
  have m1 := tr_t hsub
  have m2 := tr_d hsub
  walk1
  ktr_step
  rename Fr _ _ _ _ => F2
  (with_unfolding_all refine' For_invVF F2 ?k1 ?k2 ?_; (case k1 => exact rfl); (case k2 => exact rfl))
  ktr_step
  rename Fr _ _ _ _ => F3
  rename News _ _ _ _ => N3
  refine for_listY [Str.ofString "found"] (fun i m nx => ∃ qf vf ef, m (Str.ofString "found") = some (.ref qf) ∧ IntsAre vf (nats ((ks.take i).flatMap fun k => k :: ds k)) ∧ nx = (qf, listOf vf.toArray ef) :: news ∧ ∀ p ∈ news, p.1 < qf)
    rfl F3 N3 (.tail _ hml) ⟨_, [], 0, rfl, .nil, rfl, by assumption⟩ ?_ ?_
  · rintro i v m₁ nx h tk I oI hv ⟨qf, vf, ef, hfo, hIf, rfl, hqf⟩ hl hoI F4 N4
    have F5 := fr_pin F4 (x := Str.ofString "found") (v := .ref qf) (by exact hfo)
    clear F4
    obtain ⟨k, t, rfl, hk⟩ := nats_get hI hv
    obtain ⟨n, hn, hpre, hdl⟩ := hks k (List.mem_of_getElem? hk)
    have hvf : vf.length ≤ 10100 := by
      have e1 := hIf.length
      rw [nats_length] at e1
      have e2 : ∀ j, ((ks.take j).flatMap fun k => k :: ds k).length ≤ 101 * j := by
        intro j
        induction j with
        | zero => simp
        | succ j ih =>
          rw [List.take_add_one]
          cases hj : ks[j]? with
          | none => simp; simp at ih; omega
          | some x =>
            have := (hks x (List.mem_of_getElem? hj)).elim fun n h => h.2.2
            simp; simp at ih; omega
      have e3 := e2 i
      have e4 := lt_of_get hk
      omega
    have mf : (qf, listOf vf.toArray ef) ∈ (qf, listOf vf.toArray ef) :: news := .head _
    ktr_step
    intro h5 F6 N6
    have hIq : I ≠ qf := Ne.symm (hoI _ (.head _))
    have hnf : ∀ p ∈ news, p.1 ≠ qf := fun p hp => Nat.ne_of_lt (hqf p hp)
    have N7 := N6 ((I, oI) :: (qf, listOf (vf ++ [Value.int (k : Int) t]).toArray (ef + 1)) :: news) (mid_upd (pre := [(I, oI)]) (fun p hp => by rw [List.mem_singleton.mp hp]; exact hIq) hnf (fun p hp => by
      rcases List.mem_cons.mp hp with rfl | hp
      · exact .head _
      · exact .tail _ (.tail _ hp)))
    clear N6 mf
    ktr_step
    ktr_call (sub_self _) (descendants_ok (sub_tail (sub_tail hsub)) hT hf hn hpre hdl)
    rintro _ _ h8 tk8 F8 N8 ⟨q8, ws, e8, rfl, hI8, rfl, hq8⟩
    have hw8 : ws.length ≤ 100 := by rw [hI8.length, nats_length]; exact hdl
    have hvf1 : (vf ++ [Value.int (k : Int) t]).length ≤ 10101 := by simp; omega
    ktr_step
    intro h9 e9 F9 N9
    have N10 := N9 ((I, oI) :: (qf, listOf (vf ++ [Value.int (k : Int) t] ++ ws).toArray e9) :: news) (mid_upd (pre := [(I, oI)]) (fun p hp => by rw [List.mem_singleton.mp hp]; exact hIq) hnf (fun p hp => by
      rcases List.mem_cons.mp hp with rfl | hp
      · exact .tail _ (.head _)
      · exact .tail _ (.tail _ (.tail _ hp))))
    clear N9 N8 N7
    ktr_step
    rename Fr _ _ _ _ => F12
    rename News _ _ _ _ => N12
    refine turn_next F12 N12 (one_in (.tail _ hml)) ?_ ?_ ⟨qf, _, e9, rfl, ?_, rfl, hqf⟩
    · intro q hq
      rcases List.mem_cons.mp hq with rfl | hq
      · exact Ne.symm hIq
      · exact hoI _ (.tail _ hq)
    · intro z h1 h2
      simp only [List.mem_cons, List.not_mem_nil, or_false] at h2
      simp [h1, h2]
    · rw [List.take_add_one, hk, List.flatMap_append, nats_append]
      simp only [List.append_assoc]
      refine hIf.append ?_
      simp only [Option.toList_some, List.flatMap_cons, List.flatMap_nil, List.append_nil]
      exact IntsAre.cons _ _ hI8
  · rintro m₁ nx h tk ⟨qf, vf, ef, hfo, hIf, rfl, hqf⟩ hl F4 N4
    have F5 := fr_pin F4 (x := Str.ofString "found") (v := .ref qf) (by exact hfo)
    clear F4
    rw [hI.length.trans (nats_length ks), List.take_length] at hIf
    ktr_step
    exact hret _ _ _ _ (by k_asm) (by k_asm) ⟨qf, vf, ef, rfl, hIf, rfl, hqf⟩
theorem quiet_M12 : True := by
  w_top off
  trivial
def SrcOk (o : Obj) : Prop := ∃ (a b : Int) (ta tb : Tok) (e : Nat), o = listOf [.int a ta, .int b tb].toArray e ∧ 0 ≤ a ∧ 0 ≤ b ∧ b < 2147483647

theorem int_nat {x : Int} {t : Tok} (h : 0 ≤ x) : Value.int x t = Value.int (x.toNat : Int) t := by rw [Int.toNat_of_nonneg h]

set_option maxHeartbeats 4000000 in
theorem take_ok {rest : List (Addr × Obj)} {src : Addr} {o : Obj} {top : Nat} {tt : Tok} (ho : SrcOk o) (hoff : ∀ q ∈ rest, q.1 ≠ src) (h1 : 0 < top) (h2 : top ≤ 1000) :
    Tel prog w (hd.heap_1 w.params) p loose mean mg mb 10 100 ((src, o) :: rest) (call (.ref 313) [.ref src, .int top tt]) (fun r news' => ∃ (k : Nat) (tk : Tok) (o' : Obj), r = .int k tk ∧ k < top ∧ SrcOk o' ∧ news' = (src, o') :: rest) := by
  unfold Tel
  intro dp un gd cn cs a ccd cl outer A₀ base h₀ L m s Q E B F X N T0 hkf hd hu hret
  obtain ⟨a, b, ta, tb, e, rfl, ha, hb, hb2⟩ := ho
  have hI : IntsAre [.int a ta, .int b tb] [a, b] := .cons _ _ (.cons _ _ .nil)
  walk1
  ktr_step
  · intro h3 F3 N3
    have N4 := N3 ((src, listOf [.int (a.fdiv top) _, .int b tb].toArray e) :: rest) (mid_upd (pre := []) (fun p hp => nomatch hp) hoff (fun p hp => .tail _ hp))
    clear N3
    ktr_step
    rename Fr _ _ _ _ => F5
    rename News _ _ _ _ => N5
    have ha0 : 0 < a := by assumption
    have l1 := fmod_lo a (n := (top : Int)) (by omega)
    have l2 := fmod_hi a (n := (top : Int)) (by omega)
    refine hret _ _ _ _ F5 N5 ⟨(a.fmod top).toNat, _, _, int_nat l1, by omega, ⟨a.fdiv top, b, _, tb, e, rfl, ?_, hb, hb2⟩, rfl⟩
    · rw [Int.fdiv_eq_ediv_of_nonneg _ (by omega)]; exact Int.ediv_nonneg ha (by omega)
  · intro h3 F3 N3
    have N4 := N3 ((src, listOf [.int a ta, .int ((b * 39373 + 7).fmod 2147483647) _].toArray e) :: rest) (mid_upd (pre := []) (fun p hp => nomatch hp) hoff (fun p hp => .tail _ hp))
    clear N3
    have l1 := fmod_lo (b * 39373 + 7) (n := 2147483647) (by decide)
    have l2 := fmod_hi (b * 39373 + 7) (n := 2147483647) (by decide)
    generalize (b * 39373 + 7).fmod 2147483647 = b2 at N4 l1 l2
    clear hI
    have hI : ∀ t, IntsAre [.int a ta, .int b2 t] [a, b2] := fun _ => .cons _ _ (.cons _ _ .nil)
    ktr_step
    rw [show [a, b2].getD (Int.toNat 1) 0 = b2 from rfl]
    ktr_step
    rename Fr _ _ _ _ => F5
    rename News _ _ _ _ => N5
    have q1 := fmod_lo (((b2 * b2).fmod 2147483629).fdiv 32) (n := (top : Int)) (by omega)
    have q2 := fmod_hi (((b2 * b2).fmod 2147483629).fdiv 32) (n := (top : Int)) (by omega)
    exact hret _ _ _ _ F5 N5 ⟨((((b2 * b2).fmod 2147483629).fdiv 32).fmod top).toNat, _, _, int_nat q1, by omega, ⟨a, b2, ta, _, e, rfl, ha, l1, l2⟩, rfl⟩

set_option maxHeartbeats 4000000 in
theorem one_ok {rest : List (Addr × Obj)} {src l : Addr} {o : Obj} {vs : List Value} {e : Nat} (ho : SrcOk o) (hoff : ∀ q ∈ rest, q.1 ≠ src) (hl : (l, listOf vs.toArray e) ∈ rest) (h1 : 0 < vs.length) (h2 : vs.length ≤ 1000) :
    Tel prog w (hd.heap_1 w.params) p loose mean mg mb 15 150 ((src, o) :: rest) (call (.ref 320) [.ref src, .ref l]) (fun r news' => ∃ (k : Nat) (o' : Obj), vs[k]? = some r ∧ SrcOk o' ∧ news' = (src, o') :: rest) := by
  unfold Tel
  intro dp un gd cn cs a ccd cl outer A₀ base h₀ L m s Q E B F X N T0 hkf hd hu hret
  have hl' : ∀ o', (l, listOf vs.toArray e) ∈ (src, o') :: rest := fun _ => .tail _ hl
  walk1
  ktr_step
  ktr_call (sub_self _) (take_ok (top := vs.length) ho hoff h1 h2)
  rintro _ _ h3 tk3 F3 N3 ⟨k, tk, o', rfl, hk, ho', rfl⟩
  obtain ⟨v, hv⟩ := get_of_lt hk
  ktr_step
  rename Fr _ _ _ _ => F5
  rename News _ _ _ _ => N5
  exact hret _ _ _ _ F5 N5 ⟨k, o', hv, ho', rfl⟩
theorem quiet_M13 : True := by
  w_top off
  trivial
open AutoSeq1 (wpAny_loadPart') in
theorem lt_loop (l b : Addr) (items items2 : Array Value) (n n2 : Nat) (k : Nat) :
    ∀ (i : Nat) (ns ms : List Int), i ≤ items.size → i ≤ items2.size → items.size - i = k → IntsAre (items.toList.drop i) ns → IntsAre (items2.toList.drop i) ms → Meets (Builtin.«list.__eq__.loop» ⟨[.ref l, .ref b, rawInt i, rawInt 0], []⟩)
      (fun _ R s => s.heap.get? l = some { cls := .type "list", dict := none, data := .seq items n, slots := #[] } ∧ s.heap.get? b = some { cls := .type "list", dict := none, data := .seq items2 n2, slots := #[] } ∧
        R (.ok (.ret (.bool (decide (ns < ms))))) s) := by
  induction k with
  | zero =>
    intro i ns ms hi0 hj0 hk hx hy prog w A R s h
    obtain ⟨hp, g, d, tk, os⟩ := s; obtain ⟨hl, hb, h⟩ := h
    have hx0 : items.toList.drop i = [] := List.drop_eq_nil_of_le (by simp; omega)
    rw [hx0] at hx
    cases hx
    wp_walk using wpAny_loadPart' hl, wpAny_loadPart' hb
    have hi1 : items[((i : Nat) : Int).toNat]? = none := by simp; omega
    rw [hi1]
    wp_walk using wpAny_loadPart' hl, wpAny_loadPart' hb
    have e : decide (([] : List Int) < ms) = decide (items.size < items2.size) := by
      have e1 := hy.length
      rw [List.length_drop, Array.length_toList] at e1
      have e0 : items.size ≤ i := by have := congrArg List.length hx0; rw [List.length_drop, Array.length_toList] at this; simp at this; omega
      cases ms with
      | nil => simp at e1; simp; omega
      | cons a r => simp at e1; simp; omega
    show R (.ok (.ret (.bool (decide (items.size < items2.size))))) _
    rw [← e]
    exact h
  | succ k ih =>
    intro i ns ms hi0 hj0 hk hx hy prog w A R s h
    obtain ⟨hp, g, d, tk, os⟩ := s; obtain ⟨hl, hb, h⟩ := h
    wp_walk using wpAny_loadPart' hl, wpAny_loadPart' hb
    have hlt : i < items.size := by omega
    have hi1 : items[((i : Nat) : Int).toNat]? = some items[i] := by simp [hlt]
    have hc : ((i : Int) + 1) = ((i + 1 : Nat) : Int) := by push_cast; rfl
    have hx0 : items.toList.drop i = items[i] :: items.toList.drop (i + 1) := by rw [List.drop_eq_getElem_cons (by simpa using hlt)]; simp
    rw [hx0] at hx
    generalize items[i] = x at *
    cases hx with
    | cons a t hx =>
    rename_i ns
    by_cases h2 : i < items2.size
    · have hi2 : items2[((i : Nat) : Int).toNat]? = some items2[i] := by simp [h2]
      have hy0 : items2.toList.drop i = items2[i] :: items2.toList.drop (i + 1) := by rw [List.drop_eq_getElem_cons (by simpa using h2)]; simp
      rw [hy0] at hy
      generalize items2[i] = y at *
      cases hy with
      | cons c u hy =>
      rename_i ms
      rw [hi1, hi2]
      refine wpAny_bind (MeetsSeq.EqGives.int a c t u prog w _ _ _ _ ?_)
      by_cases hac : a = c
      · subst hac
        have hb' : (a == a) = true := by simp
        rw [hb']
        wp_walk
        rw [hc]
        have e : decide (a :: ns < a :: ms) = decide (ns < ms) := by simp
        rw [e] at h
        exact ⟨plainId_quiet MeetsSeq3.plain_eq_loop _, codeAny_builtin MeetsSeq3.entry_eq_loop (by
          rw [Around.under_plainId MeetsSeq3.plain_eq_loop _]
          exact ih (i + 1) ns ms (by omega) (by omega) (by omega) hx hy prog w A R _ ⟨hl, hb, h⟩)⟩
      · have hb' : (a == c) = false := by simp [hac]
        rw [hb']
        wp_walk using wpAny_loadPart' hl, wpAny_loadPart' hb
        rw [hi1, hi2]
        have e : decide (a :: ns < c :: ms) = decide (a < c) := by rw [decide_eq_decide, List.cons_lt_cons_iff]; simp [hac]
        rw [e] at h
        dsimp only
        refine wpAny_bind (show wpAny _ _ (compareOp .Lt (.int a t) (.int c u)) _ _ _ from lt_int (wpAny_pure h))
    · have hi2 : items2[((i : Nat) : Int).toNat]? = none := by simp; omega
      have hy0 : items2.toList.drop i = [] := List.drop_eq_nil_of_le (by simp; omega)
      rw [hy0] at hy
      cases hy
      rw [hi1, hi2]
      wp_walk using wpAny_loadPart' hl, wpAny_loadPart' hb
      show R (.ok (.ret (.bool (decide (items.size < items2.size))))) _
      rw [show decide (items.size < items2.size) = false from decide_eq_false (by omega)]
      simpa using h

open AutoSeq1 (wpAny_loadPart') in
theorem list_lt_meets (l b : Addr) (items items2 : Array Value) (n n2 : Nat) {ns ms : List Int} (hx : IntsAre items.toList ns) (hy : IntsAre items2.toList ms) :
    Meets (Builtin.«list.__lt__» ⟨[.ref l, .ref b], []⟩)
      (fun _ R s => s.heap.get? l = some { cls := .type "list", dict := none, data := .seq items n, slots := #[] } ∧ s.heap.get? b = some { cls := .type "list", dict := none, data := .seq items2 n2, slots := #[] } ∧
        R (.ok (.ret (.bool (decide (ns < ms))))) s) := by
  intro prog w A R s h
  obtain ⟨hp, g, d, tk, os⟩ := s; obtain ⟨hl, hb, h⟩ := h
  have f3 := AutoSeq1.sub_list_list
  wp_walk using wpAny_loadPart' hl, wpAny_loadPart' hb
  exact ⟨plainId_quiet MeetsSeq3.plain_eq_loop _, codeAny_builtin MeetsSeq3.entry_eq_loop (by
    rw [Around.under_plainId MeetsSeq3.plain_eq_loop _]
    exact lt_loop l b items items2 n n2 _ 0 ns ms (Nat.zero_le _) (Nat.zero_le _) rfl hx hy prog w A R _ ⟨hl, hb, h⟩)⟩

section
variable {A : Around} {E : Value → Shared → Prop} {s : Shared}
theorem oneLt_list {a b : Addr} {xs ys : List Value} {ns ms : List Int} {n k : Nat} {Q : Bool → Shared → Prop} (hu : A.units < cLine) (ha : s.heap.get? a = some (listOf xs.toArray n)) (hb : s.heap.get? b = some (listOf ys.toArray k)) (hx : IntsAre xs ns) (hy : IntsAre ys ms)
    (h : Q (decide (ns < ms)) s) : wpAny (model prog w) A (oneLt' true (.ref a) (.ref b)) Q E s := by
  rw [oneLt'_eq]
  simp only [if_true]
  refine wpAny_bind (wpAny_cRoomFor hu ?_)
  have ht : s.TypeIs (.ref a) "list" := ⟨_, ha, rfl⟩
  refine wpAny_bind (wpAny_callSpecialIfBound?_slot (T := "list") (name := "__lt__") ht F.slot_list_lt (call_meets F.slot_list_lt ht F.entry_list_lt (F.args_list_lt_2 _ _)
    (list_lt_meets a b xs.toArray ys.toArray n k (ns := ns) (ms := ms) (by simpa using hx) (by simpa using hy)) ⟨ha, hb, ?_⟩))
  exact wpAny_truthy_bool h
end
theorem quiet_M14 : True := by
  w_top off
  trivial
/-- the questions that a sort asks, answered by o; all within n -/
def Rn (n : Nat) (o : Nat → Nat → Bool) {α : Type} : KasT α → (α → Prop) → Prop
  | .ret a, P => P a
  | .ask i j k, P => i < n ∧ j < n ∧ Rn n o (k (o i j)) P
theorem Rn.bind {n : Nat} {o : Nat → Nat → Bool} {α β : Type} {f : α → KasT β} {P : β → Prop} : ∀ {t : KasT α}, Rn n o t (fun a => Rn n o (f a) P) → Rn n o (t.bind f) P
  | .ret _, h => h
  | .ask _ _ k, h => ⟨h.1, h.2.1, Rn.bind (t := k _) h.2.2⟩
theorem Rn.mono {n : Nat} {o : Nat → Nat → Bool} {α : Type} {P P' : α → Prop} (hP : ∀ a, P a → P' a) : ∀ {t : KasT α}, Rn n o t P → Rn n o t P'
  | .ret _, h => hP _ h
  | .ask _ _ k, h => ⟨h.1, h.2.1, Rn.mono hP (t := k _) h.2.2⟩
theorem Rn.wp {n : Nat} {o : Nat → Nat → Bool} {α : Type} {cmp : Nat → Nat → (Bool → Shared → Prop) → Shared → Prop} {I : Shared → Prop} (hc : ∀ i j C s, i < n → j < n → I s → (∀ s', I s' → C (o i j) s') → cmp i j C s)
    {P : α → Prop} {Q : α → Shared → Prop} (hQ : ∀ a s, P a → I s → Q a s) : ∀ {t : KasT α} {s : Shared}, Rn n o t P → I s → t.kasWp cmp Q s
  | .ret _, _, h, hi => hQ _ _ h hi
  | .ask i j k, s, h, hi => hc i j _ s h.1 h.2.1 hi fun s' hi' => Rn.wp hc hQ (t := k _) h.2.2 hi'

structure Ord (n : Nat) (o : Nat → Nat → Bool) : Prop where
  trans : ∀ i j k, o i j = true → o j k = true → o i k = true
  irr : ∀ i, o i i = false
  total : ∀ i j, i < n → j < n → i ≠ j → o i j = false → o j i = true

abbrev G (p : Array Nat) (i : Nat) : Nat := p.getD i 0
def Pm (n : Nat) (p : Array Nat) : Prop := p.toList.Perm (List.range n)
theorem Pm.size {n : Nat} {p : Array Nat} (h : Pm n p) : p.size = n := by have := h.length_eq; simpa using this
theorem G_eq {p : Array Nat} {i : Nat} (h : i < p.size) : G p i = p[i] := by simp [G, Array.getD, h]
theorem Pm.lt {n : Nat} {p : Array Nat} (h : Pm n p) {i : Nat} (hi : i < n) : G p i < n := by
  rw [G_eq (h.size.symm ▸ hi)]
  have : p[i]'(h.size.symm ▸ hi) ∈ p.toList := by simp
  exact List.mem_range.mp (h.mem_iff.mp this)
theorem Pm.inj {n : Nat} {p : Array Nat} (h : Pm n p) {i j : Nat} (hi : i < n) (hj : j < n) (hne : i ≠ j) : G p i ≠ G p j := by
  have hs := h.size
  rw [G_eq (hs.symm ▸ hi), G_eq (hs.symm ▸ hj)]
  have nd : p.toList.Nodup := h.nodup_iff.mpr List.nodup_range
  intro e
  apply hne
  exact (List.getElem_inj (h₀ := by simpa [hs] using hi) (h₁ := by simpa [hs] using hj) nd).mp (by simpa using e)
def Srt (o : Nat → Nat → Bool) (p : Array Nat) (m : Nat) : Prop := ∀ i j, i < j → j < m → o (G p i) (G p j) = true
def Dsc (o : Nat → Nat → Bool) (p : Array Nat) (m : Nat) : Prop := ∀ i j, i < j → j < m → o (G p j) (G p i) = true

theorem Srt.snoc {o : Nat → Nat → Bool} {N n : Nat} {p : Array Nat} (O : Ord N o) (h : Srt o p n) (hn : 1 ≤ n) (hl : o (G p (n - 1)) (G p n) = true) : Srt o p (n + 1) := by
  intro i j hij hj
  by_cases e : j < n
  · exact h i j hij e
  · obtain rfl : j = n := by omega
    by_cases e2 : i = j - 1
    · rw [e2]; exact hl
    · exact O.trans _ _ _ (h i (j - 1) (by omega) (by omega)) hl
theorem Dsc.snoc {o : Nat → Nat → Bool} {N n : Nat} {p : Array Nat} (O : Ord N o) (h : Dsc o p n) (hn : 1 ≤ n) (hl : o (G p n) (G p (n - 1)) = true) : Dsc o p (n + 1) := by
  intro i j hij hj
  by_cases e : j < n
  · exact h i j hij e
  · obtain rfl : j = n := by omega
    by_cases e2 : i = j - 1
    · rw [e2]; exact hl
    · exact O.trans _ _ _ hl (h i (j - 1) (by omega) (by omega))

section
variable {N : Nat} {o : Nat → Nat → Bool} (O : Ord N o)
include O
theorem asc_ok {p : Array Nat} (hp : Pm N p) : ∀ (f n : Nat), 1 ≤ n → n + f = N → Srt o p n → Rn N o (kas_asc p f n) (fun m => n ≤ m ∧ m ≤ N ∧ Srt o p m ∧ (m < N → o (G p m) (G p (m - 1)) = true))
  | 0, n, h1, hf, hs => ⟨Nat.le_refl _, by omega, hs, fun h => absurd h (by omega)⟩
  | f + 1, n, h1, hf, hs => by
    refine ⟨hp.lt (by omega), hp.lt (by omega), ?_⟩
    cases hc : o (p.getD n 0) (p.getD (n - 1) 0) with
    | true => exact ⟨Nat.le_refl _, by omega, hs, fun _ => hc⟩
    | false =>
      have hl := O.total _ _ (hp.lt (i := n) (by omega)) (hp.lt (i := n - 1) (by omega)) (hp.inj (by omega) (by omega) (by omega)) hc
      exact (asc_ok hp f (n + 1) (by omega) (by omega) (hs.snoc O h1 hl)).mono fun m hm => ⟨by omega, hm.2⟩
theorem desc_ok {p : Array Nat} (hp : Pm N p) : ∀ (f n : Nat), 1 ≤ n → n + f = N → Dsc o p n → Rn N o (kas_desc f p n 0) (fun r => r.1 = p ∧ r.2.2 = 0 ∧ n ≤ r.2.1 ∧ r.2.1 ≤ N ∧ Dsc o p r.2.1)
  | 0, n, h1, hf, hs => ⟨rfl, rfl, Nat.le_refl _, (by omega : n ≤ N), hs⟩
  | f + 1, n, h1, hf, hs => by
    refine ⟨hp.lt (by omega), hp.lt (by omega), ?_⟩
    cases hc : o (p.getD n 0) (p.getD (n - 1) 0) with
    | true => exact (desc_ok hp f (n + 1) (by omega) (by omega) (hs.snoc O h1 hc)).mono fun m hm => ⟨hm.1, hm.2.1, by omega, hm.2.2.2⟩
    | false =>
      have hl := O.total _ _ (hp.lt (i := n) (by omega)) (hp.lt (i := n - 1) (by omega)) (hp.inj (by omega) (by omega) (by omega)) hc
      refine ⟨hp.lt (by omega), hp.lt (by omega), ?_⟩
      rw [hl]
      exact ⟨rfl, rfl, Nat.le_refl _, (by omega : n ≤ N), hs⟩
omit O in
theorem rev_perm {p : Array Nat} (hp : Pm N p) (i j : Nat) : Pm N (kas_rev p i j) := (Array.perm_iff_toList_perm.mp (mirror_perm p i j _)).trans hp
omit O in
theorem G_rev {p : Array Nat} {n : Nat} (hn : n ≤ p.size) {i : Nat} (hi : i < n) : G (kas_rev p 0 n) i = G p (n - 1 - i) := by
  have e := getElem?_mirror_all (xs := p) (i := 0) (j := n) hn i
  rw [if_pos ⟨Nat.zero_le _, hi⟩] at e
  have e1 : ∀ (q : Array Nat) (k : Nat), G q k = (q[k]?).getD 0 := fun q k => by simp [G]
  rw [e1, e1]
  show ((mirror p 0 n ((n - 0) / 2))[i]?).getD 0 = _
  rw [e]; congr 2; omega
theorem tail3_ok {p : Array Nat} (hp : Pm N p) {n : Nat} (h1 : 1 ≤ n) (hn : n ≤ N) (hd : Dsc o p n) : Rn N o (kas_tail3 n N p) (fun r => Pm N r.2 ∧ Srt o r.2 r.1 ∧ 1 ≤ r.1 ∧ r.1 ≤ N) := by
  have hr := rev_perm hp 0 n
  have hs : Srt o (kas_rev p 0 n) n := by
    intro i j hij hj
    rw [G_rev (by rw [hp.size]; exact hn) (by omega), G_rev (by rw [hp.size]; exact hn) hj]
    exact hd _ _ (by omega) (by omega)
  exact Rn.bind ((asc_ok O hr (N - n) n h1 (by omega) hs).mono fun m hm => ⟨hr, hm.2.2.1, by omega, hm.2.1⟩)
theorem count_ok {p : Array Nat} (hp : Pm N p) (h2 : 2 ≤ N) : Rn N o (kas_count N p) (fun r => Pm N r.2 ∧ Srt o r.2 r.1 ∧ 1 ≤ r.1 ∧ r.1 ≤ N) := by
  refine Rn.bind ((asc_ok O hp (N - 1) 1 (Nat.le_refl _) (by omega) (fun i j h1 h2 => by omega)).mono fun m hm => ?_)
  obtain ⟨m1, m2, m3, m4⟩ := hm
  by_cases e : m = N
  · rw [if_pos (by simpa using e)]
    exact ⟨hp, m3, m1, m2⟩
  · rw [if_neg (by simpa using e)]
    by_cases e1 : m > 1
    · rw [if_pos e1]
      refine ⟨hp.lt (by omega), hp.lt (by omega), ?_⟩
      rw [m3 0 (m - 1) (by omega) (by omega)]
      exact ⟨hp, m3, m1, m2⟩
    · rw [if_neg e1]
      obtain rfl : m = 1 := by omega
      have h10 := m4 (by omega)
      refine Rn.bind ((desc_ok O hp (N - 2) 2 (by omega) (by omega) (fun i j h1 h2 => ?_)).mono fun r hr => ?_)
      · obtain rfl : i = 0 := by omega
        obtain rfl : j = 1 := by omega
        exact h10
      · obtain ⟨p', n', q'⟩ := r
        obtain ⟨rfl, rfl, r3, r4, r5⟩ := hr
        exact tail3_ok O hp (by omega) r4 r5
theorem place_ok {p : Array Nat} (hp : Pm N p) {k : Nat} (hk : k < N) (hs : Srt o p k) : ∀ (f l r : Nat), l ≤ r → r ≤ k → r ≤ l + f → (∀ i, i < l → o (G p i) (G p k) = true) → (∀ i, r ≤ i → i < k → o (G p k) (G p i) = true) →
    Rn N o (kas_place p k f l r) (fun l => l ≤ k ∧ (∀ i, i < l → o (G p i) (G p k) = true) ∧ ∀ i, l ≤ i → i < k → o (G p k) (G p i) = true)
  | 0, l, r, h1, h2, h3, a, b => ⟨by omega, a, fun i hi => b i (by omega)⟩
  | f + 1, l, r, h1, h2, h3, a, b => by
    unfold kas_place
    by_cases e : l ≥ r
    · rw [if_pos e]; exact ⟨by omega, a, fun i hi => b i (by omega)⟩
    · rw [if_neg e]
      have hm : (l + r) / 2 < k := by omega
      refine ⟨hp.lt hk, hp.lt (by omega), ?_⟩
      cases hc : o (p.getD k 0) (p.getD ((l + r) / 2) 0) with
      | true =>
        refine place_ok hp hk hs f l ((l + r) / 2) (by omega) (by omega) (by omega) a fun i hi hik => ?_
        by_cases e2 : i = (l + r) / 2
        · rw [e2]; exact hc
        · exact O.trans _ _ _ hc (hs _ _ (by omega) hik)
      | false =>
        have hl := O.total _ _ (hp.lt (i := k) hk) (hp.lt (i := (l + r) / 2) (by omega)) (hp.inj hk (by omega) (by omega)) hc
        refine place_ok hp hk hs f ((l + r) / 2 + 1) r (by omega) (by omega) (by omega) (fun i hi => ?_) b
        by_cases e2 : i = (l + r) / 2
        · rw [e2]; exact hl
        · exact O.trans _ _ _ (hs _ _ (by omega) hm) hl
omit O in
theorem bub_perm {p : Array Nat} (hp : Pm N p) (k d : Nat) : Pm N (bubble p k d) := (Array.perm_iff_toList_perm.mp (bubble_perm p k d)).trans hp
omit O in
theorem G_bub {p : Array Nat} {k l : Nat} (hk : k < p.size) (hl : l ≤ k) (i : Nat) : G (bubble p k (k - l)) i = if i = l then G p k else if l < i ∧ i ≤ k then G p (i - 1) else G p i := by
  have e := getElem?_bubble hk (k - l) (by omega) i
  have e1 : ∀ (q : Array Nat) (k : Nat), G q k = (q[k]?).getD 0 := fun q k => by simp [G]
  simp only [e1]
  rw [e, show k - (k - l) = l by omega]
  repeat' split
  all_goals rfl
theorem bin_ok : ∀ (f : Nat) (p : Array Nat) (k : Nat), Pm N p → 1 ≤ k → k + f = N → Srt o p k → Rn N o (kas_bin f p k) (fun p' => Pm N p' ∧ Srt o p' N)
  | 0, p, k, hp, h1, hf, hs => ⟨hp, by rw [← hf]; exact hs⟩
  | f + 1, p, k, hp, h1, hf, hs => by
    have hk : k < N := by omega
    refine Rn.bind ((place_ok O hp hk hs k 0 k (Nat.zero_le _) (Nat.le_refl _) (by omega) (fun i hi => by omega) (fun i hi hk => by omega)).mono fun l hl => ?_)
    obtain ⟨l1, l2, l3⟩ := hl
    refine bin_ok f _ (k + 1) (bub_perm hp _ _) (by omega) (by omega) ?_
    intro i j hij hj
    have hks : k < p.size := by rw [hp.size]; exact hk
    rw [G_bub hks l1, G_bub hks l1]
    by_cases a1 : j = l
    · rw [if_neg (by omega), if_neg (by omega), if_pos a1]
      exact l2 i (by omega)
    · rw [if_neg a1]
      by_cases a2 : l < j ∧ j ≤ k
      · rw [if_pos a2]
        by_cases a3 : i = l
        · rw [if_pos a3]; exact l3 _ (by omega) (by omega)
        · rw [if_neg a3]
          by_cases a4 : l < i ∧ i ≤ k
          · rw [if_pos a4]; exact hs _ _ (by omega) (by omega)
          · rw [if_neg a4]; exact hs _ _ (by omega) (by omega)
      · rw [if_neg a2, if_neg (by omega), if_neg (by omega)]
        exact hs _ _ hij (by omega)
theorem sort_ok (h2 : 2 ≤ N) : Rn N o (kas_sort N) (fun p => Pm N p ∧ Srt o p N) := by
  have h0 : Pm N (List.toArray (List.range N)) := by unfold Pm; simp
  refine Rn.bind ((count_ok O h0 h2).mono fun r hr => ?_)
  obtain ⟨r1, r2, r3, r4⟩ := hr
  by_cases e : r.1 < N
  · rw [if_pos e]
    have hm : max r.1 1 = r.1 := by omega
    rw [hm]
    exact bin_ok O _ _ _ r1 r3 (by omega) r2
  · rw [if_neg e]
    exact ⟨r1, by rw [show N = r.1 by omega]; exact r2⟩
end
theorem quiet_M15 : True := by
  w_top off
  trivial
section
variable {A : Around} {E : Value → Shared → Prop} {s : Shared} {h₀ : Heap} {L : Addr} {m : Str → Option Value} {news : List (Addr × Obj)} {vs : List Value}
theorem sort_short {a : Addr} {n : Nat} {P : PySem.Fin → Shared → Prop} (F : Fr h₀ L s.heap m) (N : News h₀ L s.heap news) (ho : s.heap.get? a = some (seqObj "list" vs.toArray n)) (haL : a ≠ L) (ha0 : h₀.get? a = none) (hna : ∀ p ∈ news, p.1 ≠ a) (h1 : vs.length < 2)
    (h : ∀ h' c, Fr h₀ L h' m → News h₀ L h' ((a, listOf vs.toArray c) :: news) → P (.done (.ret .none)) { s with heap := h' }) : wpAny (model prog w) A (Builtin.«list.sort» ⟨[.ref a], []⟩) P E s := by
  have s1 := Heap.SameBut.update s.heap a (Obj.mapSeq fun _ => (#[] : Array Value))
  obtain ⟨e1, ho1⟩ : ∃ e1, (s.heap.update a (Obj.mapSeq fun _ => (#[] : Array Value))).get? a = some (seqObj "list" #[] e1) := ⟨_, get?_update_seq ho fun _ => #[]⟩
  have F3 : Fr h₀ L (((s.heap.update a (Obj.mapSeq fun _ => (#[] : Array Value))).push (seqObj "tuple" vs.toArray 0)).push (seqObj "list" #[] 0)) m := ((kas_fr F s1 haL ha0).push _).push _
  have N2 : News h₀ L (((s.heap.update a (Obj.mapSeq fun _ => (#[] : Array Value))).push (seqObj "tuple" vs.toArray 0)).push (seqObj "list" #[] 0)) news :=
    (kas_news N s1 hna).grown fun b x e => Heap.get?_push_of_some _ (Heap.get?_push_of_some _ e)
  have ho6 : (((s.heap.update a (Obj.mapSeq fun _ => (#[] : Array Value))).push (seqObj "tuple" vs.toArray 0)).push (seqObj "list" #[] 0)).get? a = some (seqObj "list" #[] e1) := Heap.get?_push_of_some _ (Heap.get?_push_of_some _ ho1)
  have h2 : vs.toArray.size < 2 := by rw [List.size_toArray]; exact h1
  rw [list_sort_plain]
  refine wpAny_bind (listItems_at ho rfl ?_)
  refine wpAny_bind (listUpdate_at ho rfl ?_ (by rw [List.size_toArray, sizeLine_eq]; omega) (Nat.zero_le _))
  refine wpAny_bind (seqEpoch_at ho1 rfl ?_)
  refine wpAny_bind (wpAny_newTuple ?_ (by show vs.length ≤ _; rw [sizeLine_eq]; omega))
  refine wpAny_bind (wpAny_newList ?_ (Nat.zero_le _))
  refine wpAny_holding ?_
  show wpAny (model prog w) A _ P E { s with heap := ((s.heap.update a (Obj.mapSeq fun _ => (#[] : Array Value))).push (seqObj "tuple" vs.toArray 0)).push (seqObj "list" #[] 0) }
  dsimp only
  rw [if_pos h2, if_pos h2]
  refine wpAny_bind (wpAny_pure ?_)
  rw [StateT.run_pure]
  refine wpAny_bind (wpAny_pure ?_)
  dsimp only
  have hout : (arrOf (SortSt.mk' general' (vs.toArray.zip vs.toArray) #[] 7 none)).map (·.2) = vs.toArray := by
    show (vs.toArray.zip vs.toArray).map (·.2) = vs.toArray
    apply Array.toList_inj.mp
    simp only [Array.toList_map, Array.toList_zip]
    exact List.map_snd_zip (Nat.le_refl _)
  rw [hout]
  have s2 := Heap.SameBut.update (((s.heap.update a (Obj.mapSeq fun _ => (#[] : Array Value))).push (seqObj "tuple" vs.toArray 0)).push (seqObj "list" #[] 0)) a (Obj.mapSeq fun _ => vs.toArray)
  obtain ⟨c, hc⟩ : ∃ c, ((((s.heap.update a (Obj.mapSeq fun _ => (#[] : Array Value))).push (seqObj "tuple" vs.toArray 0)).push (seqObj "list" #[] 0)).update a (Obj.mapSeq fun _ => vs.toArray)).get? a = some (seqObj "list" vs.toArray c) := ⟨_, get?_update_seq ho6 fun _ => vs.toArray⟩
  refine wpAny_bind (seqEpoch_at ho6 rfl ?_)
  refine wpAny_bind (listUpdate_at ho6 rfl ?_ (Nat.zero_le _) (by rw [List.size_toArray, sizeLine_eq]; omega))
  simp only [bne_self_eq_false, Bool.false_eq_true, if_false]
  refine wpAny_pure (h _ c (kas_fr F3 s2 haL ha0) ?_)
  intro q hq
  rcases List.mem_cons.mp hq with rfl | hq
  · exact ⟨hc, haL, ha0⟩
  · exact kas_news N2 s2 hna q hq

theorem sorted_short {l : Addr} {Q : Value → Shared → Prop} (F : Fr h₀ L s.heap m) (N : News h₀ L s.heap news) (hl : s.heap.IsList l vs.toArray) (h1 : vs.length < 2)
    (h : ∀ D c h', Fr h₀ L h' m → News h₀ L h' ((D, listOf vs.toArray c) :: news) → (∀ q ∈ news, q.1 < D) → Q (.ref D) { s with heap := h' }) :
    wpAny (model prog w) A (call (.builtin "sorted") [.ref l]) Q E s := by
  refine Calls.call_function_entry kind_sorted plain_sorted entry_sorted (args_sorted1 _) ?_
  unfold Builtin.«sorted»
  refine wpAny_bind (m := checkCount "sorted" 1 1 _) (wpAny_pure ?_)
  refine wpAny_bind (collect_list hl ?_ (by rw [sizeLine_eq]; omega))
  refine wpAny_bind (wpAny_newList ?_ (by rw [sizeLine_eq]; omega))
  have hsz : ((s.heap.push (seqObj "list" #[] 0)).update s.heap.objs.size (Obj.mapSeq (· ++ vs.toArray))).objs.size = s.heap.objs.size + 1 := by
    rw [Heap.size_update, size_push']
  have hoL : (((s.heap.push (seqObj "list" #[] 0)).update s.heap.objs.size (Obj.mapSeq (· ++ vs.toArray))).push (seqObj "list" vs.toArray 0)).get? (s.heap.objs.size + 1) = some (seqObj "list" vs.toArray 0) := by
    rw [← hsz]; exact Heap.get?_push_size _ rfl
  have keep : ∀ b o, s.heap.get? b = some o → (((s.heap.push (seqObj "list" #[] 0)).update s.heap.objs.size (Obj.mapSeq (· ++ vs.toArray))).push (seqObj "list" vs.toArray 0)).get? b = some o := fun b o q => by
    have hlt : b < s.heap.objs.size := Heap.lt_size q
    rw [Heap.get?_push_ne _ _ _ (by rw [hsz]; exact Nat.ne_of_lt (Nat.lt_succ_of_lt hlt)), Heap.get?_update_ne _ _ _ _ (Nat.ne_of_lt hlt), Heap.get?_push_ne _ _ _ (Nat.ne_of_lt hlt)]
    exact q
  have hL : L < s.heap.objs.size := F.ns.lt
  show wpAny _ _ _ _ _ { s with heap := ((s.heap.push (seqObj "list" #[] 0)).update s.heap.objs.size (Obj.mapSeq (· ++ vs.toArray))).push (seqObj "list" vs.toArray 0) }
  rw [hsz]
  refine wpAny_bind (wpAny_holding (wpAny_call_entry slot_list_sort ⟨_, hoL, rfl⟩ entry_list_sort ?body (args_list_sort _)))
  case body =>
    refine sort_short (s := { s with heap := ((s.heap.push (seqObj "list" #[] 0)).update s.heap.objs.size (Obj.mapSeq (· ++ vs.toArray))).push (seqObj "list" vs.toArray 0) })
      (F.kept keep) (N.grown keep) hoL (Nat.ne_of_gt (Nat.lt_succ_of_lt hL)) (Heap.get?_none_of_le (Nat.le_trans F.above (Nat.le_succ_of_le (Nat.le_of_lt hL))))
      (fun p hp => Nat.ne_of_lt (Nat.lt_succ_of_lt (Heap.lt_size (N p hp).1))) h1 fun h' c F' N' => ?_
    exact ⟨_, rfl, wpAny_pure ⟨_, rfl, h _ c h' F' N' fun q hq => Nat.lt_succ_of_lt (Heap.lt_size (N q hq).1)⟩⟩

/-- rows of lists of numbers -/
structure PathsAre (news : List (Addr × Obj)) (vs : List Value) (ps : List (List Nat)) : Prop where
  len : vs.length = ps.length
  at' : ∀ (i : Nat) (p : List Nat), ps[i]? = some p → ∃ a xs n, vs[i]? = some (.ref a) ∧ (a, listOf xs.toArray n) ∈ news ∧ IntsAre xs (nats p)

def lexo (ps : List (List Nat)) (i j : Nat) : Bool := decide (nats (ps.getD i []) < nats (ps.getD j []))
theorem nats_inj {a b : List Nat} (h : nats a = nats b) : a = b := by
  induction a generalizing b with
  | nil => cases b with
    | nil => rfl
    | cons _ _ => simp [nats] at h
  | cons x r ih => cases b with
    | nil => simp [nats] at h
    | cons y t =>
      have h' : (x : Int) :: nats r = (y : Int) :: nats t := h
      injection h' with e1 e2
      rw [ih e2, Int.ofNat.inj e1]
theorem lexo_ord {ps : List (List Nat)} (hn : ps.Nodup) : Ord ps.length (lexo ps) := by
  refine ⟨fun i j k h1 h2 => ?_, fun i => ?_, fun i j hi hj hij h => ?_⟩
  · simp only [lexo, decide_eq_true_eq] at *
    exact List.lt_trans h1 h2
  · simp [lexo, List.lt_irrefl]
  · simp only [lexo, decide_eq_true_eq, decide_eq_false_iff_not] at *
    have hle := List.not_lt.mp h
    by_cases h1 : nats (ps.getD j []) < nats (ps.getD i [])
    · exact h1
    · exfalso
      have e := nats_inj (List.le_antisymm hle (List.not_lt.mp h1))
      have e1 : ps.getD i [] = ps[i] := by simp [hi]
      have e2 : ps.getD j [] = ps[j] := by simp [hj]
      rw [e1, e2] at e
      exact hij ((List.getElem_inj hn).mp e).symm

theorem PathsAre.inc {news news' : List (Addr × Obj)} {vs : List Value} {ps : List (List Nat)} (h : PathsAre news vs ps) (hs : ∀ q ∈ news, q ∈ news') : PathsAre news' vs ps :=
  ⟨h.len, fun i p hp => let ⟨a, xs, n, h1, h2, h3⟩ := h.at' i p hp; ⟨a, xs, n, h1, hs _ h2, h3⟩⟩

theorem sorted_paths {l : Addr} {e : Nat} {ps : List (List Nat)} {Q : Value → Shared → Prop} (F : Fr h₀ L s.heap m) (N : News h₀ L s.heap news) (hl : (l, listOf vs.toArray e) ∈ news) (hp : PathsAre news vs ps) (hn : ps.Nodup) (h64 : vs.length < 64) (hu : A.units + 64 < cLine)
    (h : ∀ D c h' vs' ps', Fr h₀ L h' m → News h₀ L h' ((D, listOf vs'.toArray c) :: news) → (∀ q ∈ news, q.1 < D) → PathsAre news vs' ps' → ps'.Perm ps → ps'.Pairwise (fun a b => nats a < nats b) → Q (.ref D) { s with heap := h' }) :
    wpAny (model prog w) A (call (.builtin "sorted") [.ref l]) Q E s := by
  have hls : s.heap.IsList l vs.toArray := ⟨_, (N _ hl).1, rfl, e, rfl⟩
  by_cases h1 : vs.length < 2
  · refine sorted_short F N hls h1 fun D c h' F' N' hlt => h D c h' vs ps F' N' hlt hp (List.Perm.refl _) ?_
    have := hp.len
    match ps, this with
    | [], _ => exact .nil
    | [p], _ => exact List.pairwise_singleton _ _
    | _ :: _ :: _, this => simp at this; omega
  · have hT : ∀ h, Fr h₀ L h m → News h₀ L h news → ∀ v ∈ vs, Looks (model prog w) h (typeOf v) (.type "list") := by
      intro h' _ N' v hv
      obtain ⟨i, hi, rfl⟩ := List.getElem_of_mem hv
      obtain ⟨a, xs, n, e1, e2, e3⟩ := hp.at' i (ps[i]'(hp.len ▸ hi)) (List.getElem?_eq_getElem _)
      rw [List.getElem?_eq_getElem hi] at e1
      rw [Option.some.inj e1]
      exact (Looks.ld (N' _ e2).1).andThen .now
    refine kas_sorted F N hls (by omega) h64 hT (by rfl) fun D e1 h' F' N' hlt => ?_
    have hN : ∀ q ∈ news, q ∈ (D, seqObj "list" #[] e1) :: news := fun q hq => .tail _ hq
    refine Rn.wp (n := vs.length) (o := lexo ps) (I := fun s' => s' = { s with heap := h' }) ?_ ?_ (sort_ok (hp.len ▸ lexo_ord hn) (by omega)) rfl
    · rintro i j C s' hi hj rfl hC
      obtain ⟨a, xs, n, a1, a2, a3⟩ := hp.at' i (ps[i]'(hp.len ▸ hi)) (List.getElem?_eq_getElem _)
      obtain ⟨b, ys, k, b1, b2, b3⟩ := hp.at' j (ps[j]'(hp.len ▸ hj)) (List.getElem?_eq_getElem _)
      unfold kas_ask
      have c1 : vs.getD i Value.none = .ref a := by simp [a1]
      have c2 : vs.getD j Value.none = .ref b := by simp [b1]
      rw [c1, c2, keyLt'_oneType]
      refine oneLt_list (by show A.units + 1 + 1 < cLine; omega) (N' _ (hN _ a2)).1 (N' _ (hN _ b2)).1 a3 b3 ?_
      have := hC { s with heap := h' } rfl
      have d1 : ps.getD i [] = ps[i]'(hp.len ▸ hi) := by simp [hp.len ▸ hi]
      have d2 : ps.getD j [] = ps[j]'(hp.len ▸ hj) := by simp [hp.len ▸ hj]
      unfold lexo at this
      rw [d1, d2] at this
      exact this
    · rintro p s' ⟨hpm, hsr⟩ rfl
      refine KasFin.intro F' N' (g := fun o => (D, o) :: news) ?_ fun h2 c F2 N2 => ?_
      · exact .head fun q hq => Nat.ne_of_lt (hlt q hq)
      · refine h D c h2 _ (p.toList.map fun i => ps.getD i []) F2 N2 hlt ⟨by simp, fun i q hq => ?_⟩ ?_ ?_
        · rw [List.getElem?_map] at hq ⊢
          cases hk : p.toList[i]? with
          | none => rw [hk] at hq; cases hq
          | some k =>
            rw [hk] at hq
            have hk2 : k < vs.length := List.mem_range.mp (hpm.mem_iff.mp (List.mem_of_getElem? hk))
            have d1 : ps.getD k [] = ps[k]'(hp.len ▸ hk2) := by simp [hp.len ▸ hk2]
            obtain ⟨a, xs, n, a1, a2, a3⟩ := hp.at' k (ps[k]'(hp.len ▸ hk2)) (List.getElem?_eq_getElem _)
            simp only [Option.map_some, Option.some.injEq] at hq ⊢
            refine ⟨a, xs, n, by simp [a1], a2, ?_⟩
            rw [← hq, d1]; exact a3
        · have e2 : (List.range vs.length).map (fun i => ps.getD i []) = ps := by
            apply List.ext_getElem
            · simp [hp.len]
            · intro i h1 h2
              simp [h2]
          exact (hpm.map _).trans (by rw [e2])
        · rw [List.pairwise_map, List.pairwise_iff_getElem]
          intro i j hi hj hij
          have hs := hpm.size
          have hi' : i < p.size := by simpa using hi
          have hj' : j < p.size := by simpa using hj
          have := hsr i j hij (by omega)
          rw [G_eq hi', G_eq hj'] at this
          simp only [lexo, decide_eq_true_eq] at this
          simpa using this
end
theorem quiet_M16 : True := by
  w_top off
  trivial
section
variable {A : Around} {E : Value → Shared → Prop} {s : Shared} {h₀ : Heap} {L : Addr} {m : Str → Option Value} {env : Env}
open LCg LCt in
theorem rest_ind {elt : PySem.Expr} {x : Str} {scope : Scope} {cl : List (Str × Addr)} {S : List (Addr × Obj) → Prop} {P : Nat → Value → Prop} {Fin : List Value → List (Addr × Obj) → Prop} {n : Nat} (J : Nat → List Value → List (Addr × Obj) → Prop)
    (turn : ∀ i ys nx v I oI C oC D m₂ h tk (E' : Value → Shared → Prop), i < n → J i ys nx → P i v → NsObj oC m₂ → m₂ x = some v → Fr h₀ L h m → News h₀ L h ((I, oI) :: (C, oC) :: (D, lst ys) :: nx) → Off3 I C D nx → ((@Ne Nat I C) ∧ (@Ne Nat I D) ∧ (@Ne Nat C D)) →
      wpAny (model prog w) A (eval elt (compEnvC scope cl C env)) (CompEnd h₀ L m { s with heap := h, toks := tk } I oI C oC D (lst ys) S (fun y nx' => J (i + 1) (ys ++ [y]) nx')) E' { s with heap := h, toks := tk })
    (fin : ∀ ys nx, J n ys nx → Fin ys nx) : ∀ (k i : Nat) (ys : List Value) (nx : List (Addr × Obj)), i + k = n → J i ys nx → CompRest prog w A h₀ L m env elt x scope cl s S P Fin k i ys nx
  | 0, i, ys, nx, hk, hj => fin ys nx (by rw [← hk]; exact hj)
  | k + 1, i, ys, nx, hk, hj => fun v I oI C oC D m₂ h tk E' hP hC hx F N off ne =>
    wpAny_mono (turn i ys nx v I oI C oC D m₂ h tk E' (by omega) hj hP hC hx F N off ne) (fun y s₂ q => by
      obtain ⟨h', tk', nx', rfl, F', N', o', hS, hj'⟩ := q
      exact ⟨h', tk', nx', rfl, F', N', o', hS, rest_ind J turn fin k (i + 1) _ _ (by omega) hj'⟩) fun _ _ e => e
open LCg LCt in
theorem restT_ind {ct elt : PySem.Expr} {x : Str} {scope : Scope} {cl : List (Str × Addr)} {S : List (Addr × Obj) → Prop} {P : Nat → Value → Prop} {Fin : List Value → List (Addr × Obj) → Prop} {n : Nat} (J : Nat → List Value → List (Addr × Obj) → Prop)
    (turn : ∀ i ys nx v I oI C oC D m₂ h tk (E' : Value → Shared → Prop), i < n → J i ys nx → P i v → NsObj oC m₂ → m₂ x = some v → Fr h₀ L h m → News h₀ L h ((I, oI) :: (C, oC) :: (D, lst ys) :: nx) → Off3 I C D nx → ((@Ne Nat I C) ∧ (@Ne Nat I D) ∧ (@Ne Nat C D)) →
      wpAny (model prog w) A (isTrue ct (compEnvC scope cl C env) (eval ct (compEnvC scope cl C env))) (fun ok s' => if ok = true then
        wpAny (model prog w) A (eval elt (compEnvC scope cl C env)) (CompEnd h₀ L m { s with heap := h, toks := tk } I oI C oC D (lst ys) S (fun y nx' => J (i + 1) (ys ++ [y]) nx')) E' s'
        else CompEnd h₀ L m { s with heap := h, toks := tk } I oI C oC D (lst ys) S (fun _ nx' => J (i + 1) ys nx') Value.none s') E' { s with heap := h, toks := tk })
    (fin : ∀ ys nx, J n ys nx → Fin ys nx) : ∀ (k i : Nat) (ys : List Value) (nx : List (Addr × Obj)), i + k = n → J i ys nx → CompRestT prog w A h₀ L m env ct elt x scope cl s S P Fin k i ys nx
  | 0, i, ys, nx, hk, hj => fin ys nx (by rw [← hk]; exact hj)
  | k + 1, i, ys, nx, hk, hj => fun v I oI C oC D m₂ h tk E' hP hC hx F N off ne =>
    wpAny_mono (turn i ys nx v I oI C oC D m₂ h tk E' (by omega) hj hP hC hx F N off ne) (fun ok s₁ q => by
      cases ok with
      | true =>
        simp only [if_true] at q ⊢
        refine wpAny_mono q (fun y s₂ q => ?_) fun _ _ e => e
        obtain ⟨h', tk', nx', rfl, F', N', o', hS, hj'⟩ := q
        exact ⟨h', tk', nx', rfl, F', N', o', hS, restT_ind J turn fin k (i + 1) _ _ (by omega) hj'⟩
      | false =>
        simp only [Bool.false_eq_true, if_false] at q ⊢
        obtain ⟨h', tk', nx', rfl, F', N', o', hS, hj'⟩ := q
        exact ⟨h', tk', nx', rfl, F', N', o', hS, restT_ind J turn fin k (i + 1) _ _ (by omega) hj'⟩) fun _ _ e => e

/-- a dict's keys as the source of a comprehension -/
def DictSrc (prog : Program) (w : World) (A : Around) (h₀ : Heap) (L : Addr) (m : Str → Option Value) (env : Env) (ct elt : PySem.Expr) (x : Str) (scope : Scope) (cl : List (Str × Addr)) (Fin : Shared → List Value → List (Addr × Obj) → Prop) (xv : Value) (s₁ : Shared) : Prop :=
  ∃ (d : Addr) (o : Obj) (kvs : List (Int × Value)) (news : List (Addr × Obj)), xv = .ref d ∧ A.handled = none ∧ Fr h₀ L s₁.heap m ∧ News h₀ L s₁.heap news ∧ (d, o) ∈ news ∧ o.IsDictOf (PySem.intKind prog w) kvs ∧ (d == sysModules) = false ∧ kvs.length ≤ sizeLine ∧
    ∀ g, LCt.CompRestT prog w A h₀ L m env ct elt x scope cl { s₁ with heap := g } (fun nx => (d, o) ∈ nx) (fun i v => ∃ k y, kvs[i]? = some (k, y) ∧ (PySem.intKind prog w).is k v = true) (Fin { s₁ with heap := g }) kvs.length 0 [] news

open LCg LCt in
theorem Assign_Comp_dict {ct elt iter : PySem.Expr} {x y : Str} {px py : Pos} {scope : Scope} {cl : List (Str × Addr)} {pos spos : Pos} {Q : Flow → Shared → Prop} (F₀ : Fr h₀ L s.heap m) (hLe : env.locals = L)
    (hsw : swapsWith (.ListComp elt [⟨.Name x px, iter, [ct], 0⟩] scope pos) (some (.Name y py)) spos.line env = pure true)
    (hclos : closureFor scope env = pure cl) (hcell : ∀ z ∈ scope.names, z.2 ≠ .cell) (hkind : scope.kind = .function)
    (hnames : ∀ z ∈ scope.names, z.2 = .local → scope.names.lookup z.1 = some .local) (hx : scope.names.lookup x = some .local)
    (hy : env.kindOf y = some .local) (hp : (env.scope.kind == .class || (env.scope.kind == .module && env.locals != env.globals)) = false)
    (h : wpAny (model prog w) A (eval iter env) (DictSrc prog w A h₀ L m env ct elt x scope cl (fun s₂ => FinA h₀ L m s₂ y Q)) E s)
    (hs : ∀ x, foldedSetIterable iter env x = pure x := by intro _; rfl) :
    wpAny (model prog w) A (exec (.Assign [.Name y py] (.ListComp elt [⟨.Name x px, iter, [ct], 0⟩] scope pos) spos) env) Q E s := by
  subst hLe
  rw [exec_Assign_Name_used _ _ _ _ hsw]
  refine wpAny_bind (wpAny_standAt (wpAny_bind ?_))
  show wpAny _ A (do let _ ← comprehension (.ListComp elt [⟨.Name x px, iter, [ct], 0⟩] scope pos) scope env _ (newList []) false (eval iter env) (some (assign (.Name y py) env))) _ _ s
  refine wpAny_bind (wpAny_mono (wpAny_comprehension_free (use := some (assign (.Name y py) env)) (Q := fun _ s' => Q .next s') rfl hs hclos hkind hnames
    (wpAny_mono h (fun xv s₁ h₁ => ?_) fun _ _ e => e)) (fun _ s' hq => wpAny_pure (wpAny_pure hq)) fun _ _ e => e)
  obtain ⟨d, o, kvs, news, rfl, hh, F, N, hl, hd, lo, hsz, R⟩ := h₁
  obtain ⟨ep, ha⟩ := KdkAt.of hd
  have hod : s₁.heap.get? d = some o := (N _ hl).1
  have hD := ha.dictAt hod
  have hlt : d < s₁.heap.objs.size := Heap.lt_size hod
  have hne : d ≠ s₁.heap.objs.size := Nat.ne_of_lt hlt
  refine wpAny_pyIter_dict lo hD ?_
  refine block_T (Walks.dictKeys (prog := prog) (w := w) (knd := PySem.intKind prog w) hh s₁.heap.objs.size d hne kvs ep) hsz (fun i h st => let ⟨o, ho, _⟩ := st.1; ⟨o, ho⟩) ?_ hcell hkind hx
    ⟨⟨_, Heap.get?_push_size _ rfl, rfl, rfl⟩, hD.push _⟩ (fun b hb => ?_)
    (F.push _) (fun p hp => ⟨Heap.get?_push_of_some _ (N p hp).1, (N p hp).2⟩) (Nat.ne_of_lt F.ns.lt) (next_is_new F) (fun p hp => Nat.ne_of_lt (Heap.lt_size (N p hp).1)) hl (R _) ?_
  · intro i h h' oI nw st e e' k N' S
    obtain ⟨oi, q, r⟩ := st.1
    rw [e] at q; cases q
    exact ⟨⟨_, e', r⟩, ha.dictAt (N' _ S).1⟩
  · show b < (s₁.heap.push _).objs.size
    rw [Heap.size_push]
    rcases List.mem_cons.mp hb with rfl | hb
    · exact Nat.lt_succ_self _
    · rw [List.mem_singleton.mp hb]; exact Nat.lt_succ_of_lt hlt
  · intro D C h' tk m' ys news' F' N' o1 hn hC₀ hD₀ hCL hDL hCD offC fin
    show wpAny _ A (assign (.Name y py) env (.ref D)) _ _ _
    refine wpAny_assign_Name (wpAny_storeName_local hy F'.ns (fun h₂ hn₂ hs₂ => ?_) hp)
    have hL₀ : h₀.get? env.locals = none := Heap.get?_none_of_le F'.above
    have F₂ : Fr h₀ env.locals h₂ (fun z => if z = y then some (.ref D) else m z) := ⟨hn₂, fun b o e => hs₂.extBut b o (fun q => by rw [q, hL₀] at e; cases e) (F'.keep b o e), F'.above⟩
    refine ⟨m', hn.sameBut hs₂ hCL, fun h'' hs'' => fin D h'' _ (F₂.change hs'' hCL hC₀) (fun p hp => ?_) o1⟩
    have z : h₂.get? p.1 = some p.2 := hs₂.extBut _ _ (N' p hp).2.1 (N' p hp).1
    refine ⟨hs''.extBut _ _ ?_ z, (N' p hp).2⟩
    rcases List.mem_cons.mp hp with rfl | hp
    · exact Ne.symm hCD
    · exact offC p hp
end

theorem nat_in {A : Around} {E : Value → Shared → Prop} {s : Shared} {h₀ : Heap} {L l : Addr} {news : List (Addr × Obj)} {vs : List Value} {ns : List Nat} {k e : Nat} {t : Tok} {Q : Value → Shared → Prop} (N : News h₀ L s.heap news) (hl : (l, listOf vs.toArray e) ∈ news) (hI : IntsAre vs (nats ns))
    (h : Q (.bool (decide (k ∈ ns))) s) : wpAny (model prog w) A (compareOp .In (.int (k : Int) t) (.ref l)) Q E s := by
  refine in_list_ints ⟨_, (N _ hl).1, rfl, e, rfl⟩ hI ?_
  have e : (nats ns).any (· == (k : Int)) = decide (k ∈ ns) := by
    rw [Bool.eq_iff_iff]
    simp only [nats, List.any_map, List.any_eq_true, Function.comp_apply, beq_iff_eq, decide_eq_true_eq]
    exact ⟨fun ⟨x, hx, e⟩ => Int.ofNat.inj e ▸ hx, fun h => ⟨k, h, rfl⟩⟩
  rw [e]; exact h

theorem my_last {A : Around} {E : Value → Shared → Prop} {s : Shared} {h₀ : Heap} {L : Addr} {news : List (Addr × Obj)} {value slice : PySem.Expr} {l : Addr} {vs : List Value} {ns : List Nat} {n : Nat} {u : Tok} {Q : Value → Shared → Prop} (N : News h₀ L s.heap news) (hm : (l, listOf vs.toArray n) ∈ news) (hI : IntsAre vs (nats ns)) (hne : ns ≠ [])
    (h : ∀ t, Q (.int (ns.getLastD 0 : Nat) t) s) (hs : subscripted slice false (.ref l) (.int (-1) u) = operate [.ref l, .int (-1) u] (getItem (.ref l) (.int (-1) u)) := by with_unfolding_all rfl) :
    wpAny (model prog w) A (subscriptTail value slice (.ref l) (.int (-1) u)) Q E s := by
  have hl : s.heap.IsList l vs.toArray := ⟨_, (N _ hm).1, rfl, n, rfl⟩
  have hlen : vs.length = ns.length := by have := hI.length; rwa [nats_length] at this
  have hpos : 0 < ns.length := List.length_pos_iff.mpr hne
  obtain ⟨t, ht⟩ := hI.get (vs.length - 1) (ns.getLastD 0 : Nat) (by
    rw [hlen]
    have e : ns[ns.length - 1]? = some (ns.getLastD 0) := by
      rw [← List.getLast?_eq_getElem?, List.getLast?_eq_some_getLast hne, List.getLastD_eq_getLast?, List.getLast?_eq_some_getLast hne]; rfl
    simp [nats, e])
  refine tail_any hl.typeIs slot_list_getitem.lookup (wpAny_getItem_list_neg hl (by decide) (by simp; omega) (by decide) ?_ (h t)) hs
  rw [← ht]
  simp
  congr 1
  omega
local macro_rules | `(tactic| walk_at "subscriptTail") => `(tactic| (k_here; (with_reducible show wpAny _ _ (subscriptTail (PySem.Expr.Name _ _) _ (Value.ref _) (Value.int _ _)) _ _ _); k_dflt (refine kda_item (knd := PySem.intKind _ _) (by k_asm) (by k_mem) (by with_reducible assumption) (intKind_is _ _ _ _) (by with_reducible assumption) ?_)))
local macro_rules | `(tactic| walk_at "compareOp In str ref") => `(tactic| (k_here; (with_reducible show wpAny _ _ (compareOp CmpOp.In (Value.str _ _) (Value.ref _)) _ _ _); (with_unfolding_all refine' in_tuple_strs ?k1 ?k2 ?_; (case k1 => exact News.isTup (by k_asm) (by k_mem)); (case k2 => kde_strs); k_whole)))
local macro_rules | `(tactic| k_enter) => `(tactic| (refine' code_defC ?k1 ?k2 ?k3 ?k4 ?k5 ?kA ?kF ?kK ?k6 ?k7 ?k8 ?k9 ?kB ?kD ?_ ?c2 ?c3 ?c4; (case kA => exact rfl); (case kF => exact rfl); (case kK => first | exact rfl | assumption); (case k1 => k_asm); (case k2 => k_asm); (case k3 => k_asm); (case k4 => k_asm); (case k5 => k_asm); (case k6 => k_is); (case k7 => k_is); (case k8 => k_room); (case k9 => first | exact BindsTo.of_eq rfl | exact binds_K (by k_in) rfl (by k_is) rfl rfl rfl | fail "k_enter: no rule for these arguments"); (case kB => exact rfl); (case kD => decide +kernel); (case c2 => exact rfl); (case c3 => exact rfl); (case c4 => exact rfl); k_whole; intro g' L' h' tk' cells' FG' F' N' Y' B' X' T' l1; (try k_lt l1); k_cells Y'; (try simp only [List.cons_append, List.nil_append] at N'); (try dsimp only); (try k_lift B'); (try k_fold)))
local macro_rules | `(tactic| ktr_step) => `(tactic| (repeat' (first | (k_unfold; (try dsimp only)) | (k_end; wrow_close) | ((fail_if_success (with_reducible (first | show wpAny _ _ (PySem.call (Value.ref _) _ _) _ _ _ | show wpAny _ _ (pyIter _) _ _ _ | show wpAny _ _ (PySem.call (Value.builtin "sorted") _ _) _ _ _ | show wpAny _ _ (exec (Stmt.Raise _ _ _) _) _ _ _ | show wpAny _ _ (exec (Stmt.For _ _ _ _ _) _) _ _ _ | show wpAny _ _ (exec (Stmt.While _ _ _ _) _) _ _ _ | show wpAny _ _ (eval (PySem.Expr.ListComp _ _ _ _) _) _ _ _ | show wpAny _ _ (exec (Stmt.Assign [_] (PySem.Expr.ListComp _ _ _ _) _) _) _ _ _))); first | walk1 | (dsimp only; walk1)) | (leave1; walk_say "STEP leave1"; try dsimp only) | fail "no step")))
local macro_rules | `(tactic| walk_at "compareOp In int ref") => `(tactic| (k_here; (with_reducible show wpAny _ _ (compareOp CmpOp.In (Value.int _ _) (Value.ref _)) _ _ _); k_dflt (refine nat_in (by k_asm) (by k_mem) (by with_reducible assumption) ?_)))
local macro_rules | `(tactic| walk_at "subscriptTail") => `(tactic| (k_here; (with_reducible show wpAny _ _ (subscriptTail _ _ (Value.ref _) (Value.int (-1) _)) _ _ _); (with_unfolding_all refine' my_last ?N ?m ?I ?ne ?_ ?hs; (case N => k_asm); (case m => k_mem); (case I => with_reducible assumption); (case ne => with_reducible assumption); (case hs => with_unfolding_all rfl); k_whole); intro t'))
theorem quiet_M17 : True := by
  w_top off
  trivial
/-- a row of the law's own book -/
structure Rw where
  e : Addr
  p : Addr
  kind : Str
  kt : Tok
  ws : List Value
  path : List Nat
  ce : Nat
  cp : Nat
def rwObjs (r : Rw) : List (Addr × Obj) := [(r.e, listOf [.str r.kind r.kt, .ref r.p].toArray r.ce), (r.p, listOf r.ws.toArray r.cp)]
structure Rs where
  d : Addr
  o : Obj
  rs : List Rw
def rsObjs (R : Rs) : List (Addr × Obj) := (R.d, R.o) :: R.rs.flatMap rwObjs
def kvsFrom : Nat → List Rw → List (Int × Value)
  | _, [] => []
  | i, r :: t => ((i : Int), .ref r.e) :: kvsFrom (i + 1) t
structure RsIs (prog : Program) (w : World) (R : Rs) : Prop where
  dict : R.o.IsDictOf (PySem.intKind prog w) (kvsFrom 0 R.rs)
  low : (R.d == sysModules) = false
  paths : ∀ r ∈ R.rs, IntsAre r.ws (nats r.path)

theorem kvsFrom_length (i : Nat) (rs : List Rw) : (kvsFrom i rs).length = rs.length := by
  induction rs generalizing i with
  | nil => rfl
  | cons _ _ ih => simp [kvsFrom, ih]
theorem kvsFrom_get {i k : Nat} {rs : List Rw} {r : Rw} (h : rs[k]? = some r) : (kvsFrom i rs)[k]? = some (((i + k : Nat) : Int), .ref r.e) := by
  induction rs generalizing i k with
  | nil => simp at h
  | cons a t ih =>
    cases k with
    | zero => simp at h; simp [kvsFrom, h]
    | succ k =>
      simp only [List.getElem?_cons_succ, kvsFrom] at h ⊢
      rw [ih h]; congr 3; omega
theorem kvsFrom_value {i k : Nat} {rs : List Rw} {r : Rw} (h : rs[k]? = some r) : valueAt (kvsFrom i rs) ((i + k : Nat) : Int) = some (.ref r.e) := by
  induction rs generalizing i k with
  | nil => simp at h
  | cons a t ih =>
    cases k with
    | zero => simp at h; simp [kvsFrom, valueAt, h]
    | succ k =>
      simp only [List.getElem?_cons_succ] at h
      have := ih (i := i + 1) h
      have hne : ¬ ((i : Int) = ((i + (k + 1) : Nat) : Int)) := by omega
      rw [show i + 1 + k = i + (k + 1) by omega] at this
      unfold kvsFrom
      rw [← this]
      unfold valueAt
      rw [List.find?_cons_of_neg (by simpa using hne)]
theorem RsIs.value {R : Rs} (h : RsIs prog w R) {k : Nat} {r : Rw} (hk : R.rs[k]? = some r) : valueAt (kvsFrom 0 R.rs) (k : Int) = some (.ref r.e) := by
  have := kvsFrom_value (i := 0) hk
  simpa using this

theorem rs_d {R : Rs} {news : List (Addr × Obj)} (hs : ∀ q ∈ rsObjs R, q ∈ news) : (R.d, R.o) ∈ news := hs _ (.head _)
theorem rs_e {R : Rs} {news : List (Addr × Obj)} (hs : ∀ q ∈ rsObjs R, q ∈ news) {k : Nat} {r : Rw} (hk : R.rs[k]? = some r) : (r.e, listOf [.str r.kind r.kt, .ref r.p].toArray r.ce) ∈ news :=
  hs _ (.tail _ (List.mem_flatMap.mpr ⟨r, List.mem_of_getElem? hk, .head _⟩))
theorem rs_p {R : Rs} {news : List (Addr × Obj)} (hs : ∀ q ∈ rsObjs R, q ∈ news) {k : Nat} {r : Rw} (hk : R.rs[k]? = some r) : (r.p, listOf r.ws.toArray r.cp) ∈ news :=
  hs _ (.tail _ (List.mem_flatMap.mpr ⟨r, List.mem_of_getElem? hk, .tail _ (.head _)⟩))

def childKinds : List Str := [Str.ofString "element", Str.ofString "text", Str.ofString "comment", Str.ofString "instruction"]
def isChild (K : Str) : Bool := childKinds.any fun x => x == K

set_option maxHeartbeats 4000000 in
theorem is_child_ok {news : List (Addr × Obj)} {R : Rs} {k : Nat} {kt : Tok} {r : Rw} (hsub : ∀ q ∈ rsObjs R, q ∈ news) (hR : RsIs prog w R) (hk : R.rs[k]? = some r) :
    Tel prog w (hd.heap_1 w.params) p loose mean mg mb 10 100 news (call (.ref 339) [.ref R.d, .int k kt]) (fun v news' => v = .bool (isChild r.kind) ∧ news' = news) := by
  unfold Tel
  intro dp un gd cn cs a ccd cl outer A₀ base h₀ L m s Q E B F X N T0 hkf hd hu hret
  have md := rs_d hsub
  have me := rs_e hsub hk
  have hdict := hR.dict
  have hv := hR.value hk
  walk1
  ktr_step
  rename Fr h₀ _ _ _ => F2
  rename News h₀ _ _ _ => N2
  exact hret _ _ _ _ F2 (News.of N2 fun q hq => .tail _ hq) ⟨rfl, rfl⟩

theorem key_int {rs : List Rw} {i : Nat} {r : Rw} {key : Int} {y v : Value} (hr : rs[i]? = some r) (hk : (kvsFrom 0 rs)[i]? = some (key, y)) (his : (PySem.intKind prog w).is key v = true) : ∃ t, v = .int (i : Int) t := by
  have e := kvsFrom_get (i := 0) hr
  rw [hk] at e
  simp only [Nat.zero_add, Option.some.injEq, Prod.mk.injEq] at e
  obtain ⟨t, rfl⟩ := Value.isInt_shape his
  exact ⟨t, by rw [e.1]⟩
/-- lies within node k -/
def within (k : Nat) (q : Rw × Nat) : Bool := decide (q.2 ≠ k) && decide (k ∈ q.1.path) && isChild q.1.kind
theorem take_within {rs : List Rw} {i k : Nat} {ri : Rw} (h : rs[i]? = some ri) : (rs.take (i + 1)).zipIdx.filter (within k) = (rs.take i).zipIdx.filter (within k) ++ (if within k (ri, i) then [(ri, i)] else []) := by
  have hi := lt_of_get h
  have e : rs.take (i + 1) = rs.take i ++ [ri] := by
    rw [List.take_add_one, h]; rfl
  rw [e, List.zipIdx_append, List.filter_append]
  simp only [List.length_take, Nat.min_eq_left (Nat.le_of_lt hi), List.zipIdx_cons, List.zipIdx_nil, Nat.zero_add, List.filter_cons, List.filter_nil]

def withinPaths (R : Rs) (k : Nat) : List (List Nat) := (R.rs.zipIdx.filter (within k)).map fun q => q.1.path
/-- l: the last ones of the sorted ps -/
def Lasts (ps : List (List Nat)) (l : List Nat) : Prop := ∀ ps' : List (List Nat), ps'.Perm ps → ps'.Pairwise (fun a b => nats a < nats b) → (ps'.map fun p => p.getLastD 0) = l
theorem within_paths {R : Rs} {k : Nat} {news : List (Addr × Obj)} (hR : RsIs prog w R) (hsub : ∀ q ∈ rsObjs R, q ∈ news) : PathsAre news ((R.rs.zipIdx.filter (within k)).map fun q => .ref q.1.p) (withinPaths R k) := by
  refine ⟨by simp [withinPaths], fun i p hp => ?_⟩
  unfold withinPaths at hp
  rw [List.getElem?_map] at hp ⊢
  cases hq : (R.rs.zipIdx.filter (within k))[i]? with
  | none => rw [hq] at hp; cases hp
  | some q =>
    rw [hq] at hp
    have hm := List.mem_of_getElem? hq
    have hm2 := (List.mem_filter.mp hm).1
    obtain ⟨r, j⟩ := q
    have hj : R.rs[j]? = some r := by
      have := List.mem_zipIdx_iff_getElem?.mp hm2
      simpa using this
    simp only [Option.map_some, Option.some.injEq] at hp ⊢
    refine ⟨r.p, r.ws, r.cp, rfl, rs_p hsub hj, ?_⟩
    rw [← hp]
    exact hR.paths _ (List.mem_of_getElem? hj)
theorem within_nodup {R : Rs} {k : Nat} (h : (R.rs.map (·.path)).Nodup) : (withinPaths R k).Nodup := by
  have e : R.rs.map (·.path) = R.rs.zipIdx.map fun q => q.1.path := by
    have := congrArg (List.map (·.path)) (List.zipIdx_map_fst 0 R.rs)
    rw [List.map_map] at this
    rw [← this]; rfl
  rw [e] at h
  exact h.sublist (List.filter_sublist.map _)
theorem within_ne {R : Rs} {k : Nat} (h : ∀ r ∈ R.rs, r.path ≠ []) {p : List Nat} (hp : p ∈ withinPaths R k) : p ≠ [] := by
  obtain ⟨q, hq, rfl⟩ := List.mem_map.mp hp
  obtain ⟨r, j⟩ := q
  have := List.mem_zipIdx_iff_getElem?.mp (List.mem_filter.mp hq).1
  exact h r (List.mem_of_getElem? (by simpa using this))
theorem off1_mem {D : Addr} {l : List (Addr × Obj)} (x : LCg.Off1 D l) : ∀ p ∈ l, p.1 ≠ D := by
  induction l with
  | nil => intro p h; cases h
  | cons a r ih =>
    intro p h
    rcases List.mem_cons.mp h with rfl | h
    · exact x.1
    · exact ih x.2 p h
theorem within_len60 {R : Rs} {k : Nat} (h : R.rs.length ≤ 60) : ((R.rs.zipIdx.filter (within k)).map fun q => Value.ref q.1.p).length ≤ 60 := by
  rw [List.length_map]
  exact Nat.le_trans (List.length_filter_le _ _) (by simpa using h)
theorem within_len {R : Rs} {k : Nat} (h : R.rs.length ≤ 60) : ((R.rs.zipIdx.filter (within k)).map fun q => Value.ref q.1.p).length < 64 := Nat.lt_of_le_of_lt (within_len60 h) (by decide)

set_option maxHeartbeats 4000000 in
theorem within_ok {news : List (Addr × Obj)} {R : Rs} {k : Nat} {kt : Tok} (hsub : ∀ q ∈ rsObjs R, q ∈ news) (hR : RsIs prog w R) (hnd : (R.rs.map (·.path)).Nodup) (hlen : R.rs.length ≤ 60) (hne : ∀ r ∈ R.rs, r.path ≠ []) {l : List Nat} (hl : Lasts (withinPaths R k) l) :
    Tel prog w (hd.heap_1 w.params) p loose mean mg mb 30 300 news (call (.ref 344) [.ref R.d, .int k kt]) (fun v news' => ∃ q vs e, v = .ref q ∧ IntsAre vs (nats l) ∧ news' = (q, listOf vs.toArray e) :: news ∧ ∀ p ∈ news, p.1 ≠ q) := by
  unfold Tel
  intro dp un gd cn cs a ccd cl outer A₀ base h₀ L m s Q E B F X N T0 hkf hd hu hret
  have md := rs_d hsub
  have hdict := hR.dict
  walk1
  rename _ = Data.cell _ => d2
  have e2 : _ = Data.cell (some (.ref R.d)) := d2
  clear d2
  revert e2
  rename _ = Data.cell _ => d1
  have e1 : _ = Data.cell (some (.int (k : Int) kt)) := d1
  clear d1
  intro e2
  ktr_step
  rename Fr _ _ _ _ => F2
  rename News _ _ _ _ => N2
  k_dflt (refine Assign_Comp_dict F2 rfl (by with_unfolding_all rfl) (by with_unfolding_all rfl) (by decide) rfl (by decide) rfl rfl rfl ?_)
  ktr_step
  refine ⟨R.d, R.o, kvsFrom 0 R.rs, _, rfl, rfl, F2, N2, .tail _ (.tail _ md), hdict, hR.low, ?_, fun g => ?_⟩
  · rw [kvsFrom_length, sizeLine_eq]; omega
  refine restT_ind (fun i ys nx => nx = (_, _) :: (_, _) :: news ∧ ys = ((R.rs.take i).zipIdx.filter (within k)).map fun q => .ref q.1.p) ?_ ?_ _ 0 [] _ (Nat.zero_add _) ⟨rfl, by simp⟩
  · rintro i ys _ v I oI C oC D m₂ h tk E' hi ⟨rfl, rfl⟩ ⟨key, y, hkv, his⟩ hC hx F3 N3 off ne
    obtain ⟨ri, hri⟩ := get_of_lt (l := R.rs) (k := i) (by rw [kvsFrom_length] at hi; exact hi)
    obtain ⟨t, rfl⟩ := key_int hri hkv his
    have vi := hR.value hri
    have me := rs_e hsub hri
    have mp := rs_p hsub hri
    have hI := hR.paths _ (List.mem_of_getElem? hri)
    clear hkv his
    ktr_step
    · ktr_call (sub_self _) (is_child_ok (sub_tail (sub_tail (sub_tail (sub_tail (sub_tail hsub))))) hR hri)
      rintro _ _ h4 tk4 F4 N4 ⟨rfl, rfl⟩
      cases hch : isChild ri.kind with
      | true =>
        ktr_step
        exact ⟨_, _, _, rfl, F4, N4, off, .tail _ (.tail _ md), rfl, by rw [take_within hri, if_pos (by simp [within, hch]; exact ⟨by omega, by assumption⟩), List.map_append]; rfl⟩
      | false =>
        ktr_step
        exact ⟨_, _, _, rfl, F4, N4, off, .tail _ (.tail _ md), rfl, by rw [take_within hri, if_neg (by simp [within, hch]), List.append_nil]⟩
    · exact ⟨_, _, _, rfl, F3, N3, off, .tail _ (.tail _ md), rfl, by rw [take_within hri, if_neg (by simp [within]; intro _ h; exact absurd h (by assumption)), List.append_nil]⟩
    · exact ⟨_, _, _, rfl, F3, N3, off, .tail _ (.tail _ md), rfl, by rw [take_within hri, if_neg (by simp [within]; intro h; omega), List.append_nil]⟩
  · rintro ys _ ⟨rfl, rfl⟩ D h3 tk3 F3 N3 o3
    have htk : R.rs.take (kvsFrom 0 R.rs).length = R.rs := by rw [kvsFrom_length]; exact List.take_length
    rw [htk] at N3
    ktr_step
    k_dflt (refine LCg.ListComp_U (F₀ := by k_asm) (by with_unfolding_all rfl) (by decide) rfl (by decide) rfl ?_)
    ktr_step
    have hsel := within_paths (k := k) hR hsub
    refine sorted_paths (F := by k_asm) (N := N3) (.head _) (ps := withinPaths R k) ?_ ?_ ?_ ?_ ?_
    · exact hsel.inc fun q hq => .tail _ (.tail _ (.tail _ hq))
    · exact within_nodup hnd
    · exact within_len hlen
    · ktr_units
    intro D2 c2 h4 vs' ps' F4 N4 lt4 hP4 hperm hsort
    have hz : vs'.length ≤ 60 := by rw [hP4.len, hperm.length_eq, ← hsel.len]; exact within_len60 hlen
    refine LCg.CompSrc.ledger rfl F4 N4 (.head _) (by size_fits) fun g => ?_
    refine rest_ind (fun i ys nx => nx = (D2, _) :: (D, _) :: (_, _) :: (_, _) :: news ∧ IntsAre ys (nats ((ps'.take i).map fun p => p.getLastD 0))) ?_ ?_ _ 0 [] _ (Nat.zero_add _) ⟨rfl, by simp [nats]; exact .nil⟩
    · rintro i ys _ v I oI C oC D3 m₂ h tk E' hi ⟨rfl, hys⟩ hv hC hx F5 N5 off ne
      obtain ⟨pi, hpi⟩ := get_of_lt (l := ps') (k := i) (by rw [← hP4.len]; simpa using hi)
      obtain ⟨ai, xi, ni, q1, q2, q3⟩ := hP4.at' i pi hpi
      obtain rfl : v = .ref ai := by simpa [q1] using hv.symm
      have hpne : pi ≠ [] := within_ne hne (hperm.mem_iff.mp (List.mem_of_getElem? hpi))
      ktr_step
      refine ⟨_, _, _, rfl, F5, N5, off, .inr ⟨_, .head _, rfl, _, rfl⟩, rfl, ?_⟩
      rw [List.take_add_one, hpi, List.map_append, nats_append]
      exact hys.append (.cons _ _ .nil)
    · rintro ys _ ⟨rfl, hys⟩ D3 h5 tk5 F5 N5 o5
      have hlt : ps'.take vs'.toArray.size = ps' := by rw [List.size_toArray, hP4.len]; exact List.take_length
      rw [hlt, hl ps' hperm hsort] at hys
      ktr_step
      rename Fr h₀ _ _ _ => F6
      rename News h₀ _ _ _ => N6
      refine hret _ _ _ _ F6 (News.of N6 (l' := (D3, listOf ys.toArray ys.length) :: news) ?_) ⟨D3, ys, _, rfl, hys, rfl, ?_⟩
      · intro q hq
        rcases List.mem_cons.mp hq with rfl | hq
        · exact .head _
        · exact .tail _ (.tail _ (.tail _ (.tail _ (.tail _ hq))))
      · intro q hq
        exact off1_mem o5 q (.tail _ (.tail _ (.tail _ (.tail _ hq))))
theorem quiet_M18 : True := by
  w_top off
  trivial
set_option maxHeartbeats 4000000 in
theorem pool_ok {pre : List (Addr × Obj)} {dp un : Nat} {gd : Option (List Code)} {cn : Str} {cs : Scope} {a : Addr} {ccd : Value} {cl : List (Str × Addr)} {outer : List Env} {A₀ : Around} {base h₀ : Heap} {L : Addr} {m : Str → Option Value} {s : Shared} {Q E : Value → Shared → Prop} {l : Addr} {vs : List Value} {ns : List Int}
    (B : Below A₀ base outer h₀) (F : Fr h₀ L s.heap m) (X : (hd.heap_1 w.params).In h₀) (N : News h₀ L s.heap pre) (T0 : Top p loose mean mg mb h₀) (hkf : cs.kind = .function) (hd : dp + 20 < recursionLimit) (hu : un + 200 < cLine)
    (hl : h₀.IsList l vs.toArray) (hI : IntsAre vs ns) (hlen : ns.length ≤ 63)
    (hret : ∀ q o h' tk', SrcOk o → (∀ p ∈ pre, p.1 ≠ q) → Fr h₀ L h' m → News h₀ L h' ((q, o) :: pre) → Q (.ref q) { s with heap := h', toks := tk' }) :
    wpAny (model prog w) (ktrTop dp un gd cn cs L a ccd cl outer) (call (.ref 306) [.ref l]) Q E s := by
  have hvl := hI.length
  walk1
  rename Fr h₀ _ _ _ => FG
  have hlg := hl.at fun o e => FG.keep _ o e
  ktr_step
  all_goals
    rename Fr h₀ _ _ _ => F6
    rename News h₀ _ _ _ => N6
    refine hret _ _ _ _ ⟨_, _, _, _, _, rfl, ?_, fmod_lo _ (by decide), fmod_hi _ (by decide)⟩ (fun p hp => Nat.ne_of_lt ((by assumption : ∀ p ∈ pre, p.1 < _) p hp)) F6 N6
    first | assumption | exact Int.le_refl 0 | omega
theorem quiet_M19 : True := by
  w_top off
  trivial
/-- the members of TreeFault's row of ancestors -/
abbrev faultUp : List Value := [.ref 59, .type "Exception", .type "BaseException", .type "object"]
theorem fault_obj {P : Params} : (hd.heap_1 P).lookup 72 = some (excClassObj "TreeFault" "TreeFault" 72 71 [.ref 59] faultUp true [] [] false none none (some (.ref 63)) none (some (.str "TreeFault" 258)) (some (.str "TreeFault" 266)) (some (.bool true)) "Exception.__new__") := by
  with_unfolding_all rfl

section
variable {A : Around} {R : Result → Shared → Prop} {E : Value → Shared → Prop} {h : Heap} {g : Array GenState} {d : Drawn} {t : Nat} {os : OsState}
variable {nm q : Str} {C N : Addr} {bs : List Value} {hdct : Bool} {sn : List Str} {sub : List Value} {ab : Bool} {col : Option Bool} {dd : Option Addr} {k0 k1 k2 k3 k5 : Option Value}
theorem fault_check {M : Model} {rest : List Value} {Q : Unit → Shared → Prop} (hC : h.get? C = some (excClassObj nm q C N bs faultUp hdct sn sub ab col dd k0 k1 k2 k3 k5 "Exception.__new__"))
    (hq : Q () ⟨h, g, d, t, os⟩) : wpAny M A (checkBuiltinCall "Exception.__new__" ⟨.ref C :: rest, []⟩) Q E ⟨h, g, d, t, os⟩ := by
  have F := PySem.F.excBase_Exception
  have hcont : (Value.ref C :: faultUp).contains (.type "Exception") = true := by rw [List.contains_cons, show faultUp.contains (.type "Exception") = true by decide, Bool.or_true]
  have hstar := F.noStar
  simp only [checkBuiltinCall, F.newKind, F.newSplit, F.newRow]
  repeat (first | refine wpAny_loadPart_at hC ?_ | (refine wpAny_isSubtype_exc hC ?_; rw [hcont]) | refine wpAny_staticBase_exc hC ?_ | refine wpAny_madeBy_exc hC ?_ | simp only [bne_self_eq_false, Bool.false_eq_true, if_false] | wp_step)
  exact hq
theorem fault_new {rest : List Value} (hC : h.get? C = some (excClassObj nm q C N bs faultUp hdct sn sub ab col dd k0 k1 k2 k3 k5 "Exception.__new__"))
    (hq : R (.ok (.ret (.ref (h.objs.size + 1)))) ⟨(h.push { cls := .type "tuple", data := .seq rest.toArray }).push
      { cls := .ref C, data := .fields #[.ref h.objs.size, .none, .none, .none, .bool false, .none] }, g, d, t, os⟩) (hrest : rest.length ≤ sizeLine) :
    codeAny (model prog w) A (.builtin "Exception.__new__" ⟨.ref C :: rest, []⟩) R ⟨h, g, d, t, os⟩ := by
  have F := PySem.F.excBase_Exception
  have hends := F.ends
  have hcB : (Value.ref C :: faultUp).contains (.type "Exception") = true := by rw [List.contains_cons, show faultUp.contains (.type "Exception") = true by decide, Bool.or_true]
  have hcA : (Value.ref C :: faultUp).contains (.type "AttributeError") = false := by rw [List.contains_cons, show faultUp.contains (.type "AttributeError") = false by decide]; rfl
  have hcN : (Value.ref C :: faultUp).contains (.type "NameError") = false := by rw [List.contains_cons, show faultUp.contains (.type "NameError") = false by decide]; rfl
  refine codeAny_builtinAt F.entry ?_
  unfold Builtin.«BaseException.__new__»
  refine PySem.wpAt_bind ?_
  show PySem.wpAt _ _ _ (stack >>= _) _ _ _
  refine PySem.wpAt_bind (PySem.wpAt_stack fun p below => PySem.wpAt_of_wpAny ?_)
  wp_walk
  refine PySem.wpAt_of_wpAny ?_
  rw [F.owner]
  repeat (first | with_reducible refine wpAny_madeHere_exc F.canon hC ?_ | with_reducible refine wpAny_loadPart_at hC ?_ | (with_reducible refine wpAny_isSubtype_exc hC ?_; first | rw [hcB] | rw [hcA] | rw [hcN]) | wp_step)
  show R _ _
  rw [Heap.size_push]
  exact hq
end
section
variable {A : Around} {R : Result → Shared → Prop} {h : Heap} {g : Array GenState} {d : Drawn} {t : Nat} {os : OsState}
abbrev excTup (rest : List Value) : Obj := { cls := .type "tuple", data := .seq rest.toArray }
abbrev excRaw (C tp : Addr) : Obj := { cls := .ref C, data := .fields #[.ref tp, .none, .none, .none, .bool false, .none] }
theorem fault_call {rest : List Value} (X : (hd.heap_1 w.params).In h) (hrest : rest.length ≤ sizeLine)
    (hq : codeAny (model prog w) (A.under (.builtin "type.__call__" ⟨.ref 72 :: rest, []⟩)) (.call (.ref 56) ⟨.ref (h.objs.size + 1) :: rest, []⟩) (InitBack (h.objs.size + 1) R) ⟨(h.push (excTup rest)).push (excRaw 72 h.objs.size), g, d, t, os⟩) :
    codeAny (model prog w) A (.call (.ref 72) ⟨rest, []⟩) R ⟨h, g, d, t, os⟩ := by
  have f1 := tc_lookup
  have f2 := tc_bind (.ref 72)
  have hC := X _ _ fault_obj
  have hT : (⟨h, g, d, t, os⟩ : Shared).TypeIs (.ref 72) "type" := ⟨_, hC, rfl⟩
  refine codeAny_of_tree ?_
  show wpAny _ _ (callAny (.ref 72) _) _ _ _
  repeat (any_goals (first | assumption | with_reducible refine wpAny_loadPart_at hC ?_ | wp_step))
  refine ⟨rfl, ?_⟩
  refine codeAny_call_builtin_at (Code.quiet_builtin _ (by decide +kernel)) entry_typeCall (wpAny_check_type_call_sub hC ?_)
  repeat (first | with_reducible refine wpAny_loadPart_at hC ?_ | with_reducible refine wpAny_madeBy_exc hC ?_ | wp_step)
  refine codeAny_call_builtin_code (Code.quiet_builtin _ PySem.F.excBase_Exception.quiet) (fault_check hC ?_)
  refine fault_new hC ?_ hrest
  show wpAny _ _ _ _ _ ⟨(h.push (excTup rest)).push (excRaw 72 h.objs.size), g, d, t, os⟩
  have hk : ∀ b o, h.get? b = some o → ((h.push (excTup rest)).push (excRaw 72 h.objs.size)).get? b = some o := fun b o e => Heap.get?_push_of_some _ (Heap.get?_push_of_some _ e)
  have hC₁ := hk _ _ hC
  have X₁ := X.keeps hk
  have hget : ((h.push (excTup rest)).push (excRaw 72 h.objs.size)).get? (h.objs.size + 1) = some (excRaw 72 h.objs.size) := by heap_get
  have hcC : (Value.ref 72 :: faultUp).contains (.ref 72) = true := by decide
  unfold isInstance
  have hsub : ∀ (A : Around) (Q : Bool → Shared → Prop) (E : Value → Shared → Prop), Q true ⟨(h.push (excTup rest)).push (excRaw 72 h.objs.size), g, d, t, os⟩ → wpAny (model prog w) A (isSubtype (excRaw 72 h.objs.size).cls (.ref 72)) Q E ⟨(h.push (excTup rest)).push (excRaw 72 h.objs.size), g, d, t, os⟩ :=
    fun A Q E hQ => wpAny_isSubtype_exc hC₁ (by rw [hcC]; exact hQ)
  have hlook : Looks (model prog w) ((h.push (excTup rest)).push (excRaw 72 h.objs.size)) (typeLookup (.ref 72) "__init__") (some (.ref 56)) := looks_findIn X₁ (by k_is)
  have hbind : Looks (model prog w) ((h.push (excTup rest)).push (excRaw 72 h.objs.size)) (bindSpecial (.ref 56) (.ref (h.objs.size + 1))) (.ref 56, [.ref (h.objs.size + 1)]) := bind_fn X₁ _ (by k_is)
  repeat (first | with_reducible refine wpAny_loadPart_at hget ?_ | (with_reducible refine hsub _ _ _ ?_) | wp_step)
  refine hlook.here ?_
  dsimp only
  refine wpAny_holding (wpAny_bind (hbind.here ?_))
  dsimp only
  refine wpAny_bind (wpAny_call (codeAny_mono hq fun r s' z => ?_))
  rcases r with e | (v | _ | _ | _) <;> first | exact z | exact z.elim | skip
  obtain ⟨rfl, z⟩ := z
  exact wpAny_pure (wpAny_pure z)
end

section
variable {A : Around} {E : Value → Shared → Prop} {s : Shared} {h₀ : Heap} {L : Addr} {m : Str → Option Value} {news : List (Addr × Obj)}
theorem exc_init {e tp : Addr} {rest : List Value} {Q : Value → Shared → Prop} (F : Fr h₀ L s.heap m) (X₀ : (hd.heap_1 w.params).In h₀) (N : News h₀ L s.heap news) (hm : (e, excRaw 72 tp) ∈ news) (hrest : rest.length ≤ sizeLine)
    (h : ∀ h' tp', Fr h₀ L h' m → (∀ news', (∀ q ∈ news', q = (e, excRaw 72 tp') ∨ q = (tp', excTup rest) ∨ (q ∈ news ∧ q.1 ≠ e)) → News h₀ L h' news') → (∀ q ∈ news, q.1 < tp') → Q .none { s with heap := h' }) :
    wpAny (model prog w) A (call (.builtin "Exception.__init__") (.ref e :: rest)) Q E s := by
  have B := PySem.F.excBase_Exception
  have hC := (X₀.keeps F.keep) _ _ fault_obj
  have he := (N _ hm).1
  obtain ⟨hp, g, d, t, os⟩ := s
  have hcB : (Value.ref 72 :: faultUp).contains (.type "Exception") = true := by decide
  have hshort := B.noStar
  refine wpAny_call (codeAny_call_builtin B.init.plain B.initEntry ?_)
  simp only [checkBuiltinCall, B.initKind, B.initSplit, B.initRow]
  repeat (first | (with_reducible refine wpAny_loadPart_at he ?_) | with_reducible refine wpAny_loadPart_at hC ?_ | (with_reducible refine wpAny_isSubtype_exc hC ?_; rw [hcB]) | wp_step)
  refine wpAny_onRaise ?_
  rw [show ∀ (a b : String) (n : Nat), Bind.check ⟨.positional, "*", "Exception", .self, [⟨"args", .varPos, false⟩]⟩ a b n (List.map (fun x => x.fst) ({ pos := Value.ref e :: rest } : Args).kw) = pure () from
    fun a b n => check_star_args _ _ _ _ _ _]
  refine wpAny_pure ?_
  wp_walk
  have hne : ∀ q ∈ news, q.1 < hp.objs.size := fun q hq => Heap.lt_size (N q hq).1
  have hes : e ≠ hp.objs.size := Nat.ne_of_lt (hne _ hm)
  refine h ((hp.push (excTup rest)).update e (Obj.mapFields fun x => x.setIfInBounds 0 (Value.ref hp.objs.size))) hp.objs.size ((F.push _).change (Heap.SameBut.update ..) (N _ hm).2.1 (N _ hm).2.2) (fun news' hq q hq' => ?_) hne
  rcases hq q hq' with rfl | rfl | ⟨h1, h2⟩
  · refine ⟨?_, (N _ hm).2⟩
    show Heap.get? _ e = _
    rw [Heap.get?_update_self _ (Heap.get?_push_of_some _ he) rfl]
    rfl
  · refine ⟨?_, Nat.ne_of_gt F.ns.lt, none_at_size F⟩
    show Heap.get? _ hp.objs.size = _
    rw [Heap.get?_update_other _ _ hes]
    exact Heap.get?_push_size _ rfl
  · refine ⟨?_, (N q h1).2⟩
    rw [Heap.get?_update_other _ _ (Ne.symm h2)]
    exact Heap.get?_push_of_some _ (N q h1).1
end

theorem quiet_M20 : True := by
  w_top off
  trivial
section
variable {A : Around} {E : Value → Shared → Prop} {s : Shared} {h₀ : Heap} {L : Addr} {m : Str → Option Value} {news : List (Addr × Obj)}
theorem fault_refuse (e : Value) : refuseLoop e "__setattr__" (.ref 72 :: faultUp) = pure () := by
  rw [refuseLoop_ref, refuseLoop_ref]
  kernel_rfl
set_option maxHeartbeats 4000000 in
theorem exc_osa {e tp : Addr} {v : Value} {tk : Tok} {R : Result → Shared → Prop} (F : Fr h₀ L s.heap m) (X₀ : (hd.heap_1 w.params).In h₀) (N : News h₀ L s.heap news) (hm : (e, excRaw 72 tp) ∈ news)
    (h : ∀ h' d tk', Fr h₀ L h' m → (∀ news', (∀ q ∈ news', q = (e, { excRaw 72 tp with dict := some d }) ∨ (q ∈ news ∧ q.1 ≠ e)) → News h₀ L h' news') → R (.ok (.ret .none)) { s with heap := h', toks := tk' }) :
    codeAny (model prog w) A (.call (.builtin "object.__setattr__") ⟨[.ref e, .str "message" tk, v], []⟩) R s := by
  have X := X₀.keeps F.keep
  have he := (N _ hm).1
  have I : InstAt s.heap e (excRaw 72 tp) 72 none := ⟨he, rfl, rfl, trivial⟩
  have hC := X _ _ fault_obj
  have SF := PySem.F.store_object
  have hsub : Looks (model prog w) s.heap (isInstance (.ref e) (.type "object")) true := I.type.andThen (looks_mroIn X (by k_is))
  refine codeAny_call_builtin SF.slot.plain SF.entry (@check_slot (model prog w) _ _ s "object.__setattr__" "object" "__setattr__" (.ref e) [.str "message" tk, v] [] _ SF.kind SF.split hsub (SF.args _ _ _) ?_)
  have hm' : Looks (model prog w) s.heap (mroOf (.ref 72)) (.ref 72 :: faultUp) := ((Looks.ld (part := none) hC).andThen .now).andThen .now
  have hlk : Looks (model prog w) s.heap (typeLookup (.ref 72) "message") none := looks_findIn X (by k_is)
  rw [osa_eq, refuse_eq]
  refine wpAny_bind (wpAny_bind (I.type.here (wpAny_bind (hm'.here ?_))))
  rw [fault_refuse]
  refine wpAny_pure (wpAny_bind (I.type.here (wpAny_bind (hlk.here (wpAny_bind (wpAny_pure ?_))))))
  dsimp only
  obtain ⟨hp, g, d, t, os⟩ := s
  wp_walk using wpAny_loadPart_at he, wpAny_loadPart_at hC
  have hes : e ≠ hp.objs.size := Nat.ne_of_lt (Heap.lt_size he)
  generalize hH : (hp.push { cls := Value.type "dict", data := Data.dict #[] }).update e _ = H
  have hD : H.get? hp.objs.size = some { cls := Value.type "dict", data := Data.dict #[] } := by
    rw [← hH, Heap.get?_update_other _ _ hes]; exact Heap.get?_push_size _ rfl
  have hE : H.get? e = some { excRaw 72 tp with dict := some hp.objs.size } := by
    rw [← hH, Heap.get?_update_self _ (Heap.get?_push_of_some _ he) rfl]
  refine wpAny_askSetting (wpAny_pure (wpAny_bind (wpAny_mkText (wpAny_bind (wpAny_loadPart hD ?_)))))
  have hno : aRefKeyMayBeTheName "message" #[] = false := rfl
  dsimp only
  rw [hno]
  refine wpAny_updatePart hD ?_
  have hFH : Fr h₀ L H m := hH ▸ (F.push _).change (Heap.SameBut.update ..) (N _ hm).2.1 (N _ hm).2.2
  have hDL : hp.objs.size ≠ L := Nat.ne_of_gt F.ns.lt
  have hD0 : h₀.get? hp.objs.size = none := none_at_size F
  refine wpAny_bind (wpAny_lookBehind (Heap.get?_update_self _ hD rfl) ?_ ?_)
  · exact pastItsLine_dict (by rw [sizeLine_eq]; exact Nat.le_of_ble_eq_true rfl)
  refine wpAny_pure (h _ hp.objs.size _ (hFH.change (Heap.SameBut.update ..) hDL hD0) fun news' hq q hq' => ?_)
  rcases hq q hq' with rfl | ⟨h1, h2⟩
  · refine ⟨?_, (N _ hm).2⟩
    rw [Heap.get?_update_other _ _ (Ne.symm hes)]
    exact hE
  · refine ⟨?_, (N q h1).2⟩
    have hqs : q.1 ≠ hp.objs.size := Nat.ne_of_lt (Heap.lt_size (N q h1).1)
    rw [Heap.get?_update_other _ _ (Ne.symm hqs), ← hH, Heap.get?_update_other _ _ (Ne.symm h2)]
    exact Heap.get?_push_of_some _ (N q h1).1
theorem exc_set {e tp : Addr} {v : Value} {Q : Unit → Shared → Prop} (F : Fr h₀ L s.heap m) (X₀ : (hd.heap_1 w.params).In h₀) (N : News h₀ L s.heap news) (hm : (e, excRaw 72 tp) ∈ news)
    (h : ∀ h' d tk', Fr h₀ L h' m → (∀ news', (∀ q ∈ news', q = (e, { excRaw 72 tp with dict := some d }) ∨ (q ∈ news ∧ q.1 ≠ e)) → News h₀ L h' news') → Q () { s with heap := h', toks := tk' }) :
    wpAny (model prog w) A (setAttr (.ref e) "message" v) Q E s :=
  set_plain (X₀.keeps F.keep) (od := none) ⟨(N _ hm).1, rfl, rfl, trivial⟩ (by k_is) (exc_osa (s := { s with toks := s.toks + 1 }) F X₀ N hm h)
end

set_option maxHeartbeats 4000000 in
theorem fault_made {pre : List (Addr × Obj)} {dp un : Nat} {gd : Option (List Code)} {cn : Str} {cs : Scope} {a : Addr} {ccd : Value} {cl : List (Str × Addr)} {outer : List Env} {A₀ : Around} {base h₀ : Heap} {L : Addr} {m : Str → Option Value} {s : Shared} {Q E : Value → Shared → Prop} {msg : Str} {tm : Tok}
    (B : Below A₀ base outer h₀) (F : Fr h₀ L s.heap m) (X : (hd.heap_1 w.params).In h₀) (N : News h₀ L s.heap pre) (T0 : Top p loose mean mg mb h₀) (hkf : cs.kind = .function) (hd : dp + 20 < recursionLimit) (hu : un + 200 < cLine)
    (hret : ∀ e o h' tk', (∃ d tp, o = { excRaw 72 tp with dict := d }) → (∀ q ∈ pre, q.1 ≠ e) → Fr h₀ L h' m → News h₀ L h' ((e, o) :: pre) → Q (.ref e) { s with heap := h', toks := tk' }) :
    wpAny (model prog w) (ktrTop dp un gd cn cs L a ccd cl outer) (call (.ref 72) [.str msg tm]) Q E s := by
  obtain ⟨h, g, d, t, os⟩ := s
  refine wpAny_call (fault_call (X.keeps F.keep) (by rw [sizeLine_eq]; exact Nat.le_of_ble_eq_true rfl) ?_)
  have F1 := (F.push (excTup [.str msg tm])).push (excRaw 72 h.objs.size)
  have N1 := (N.push F (excTup [.str msg tm])).push (F.push _) (excRaw 72 h.objs.size)
  rw [Heap.size_push] at N1
  have l1 : ∀ q ∈ pre, q.1 < h.objs.size := fun q hq => Heap.lt_size (N q hq).1
  clear N F
  generalize hH : (h.push (excTup [.str msg tm])).push (excRaw 72 h.objs.size) = H at F1 N1
  generalize h.objs.size = tp at *
  k_enter
  ktr_step
  k_dflt (refine' method_type (v := .builtin "Exception.__init__") ?F ?X ?t ?s ?e ?h ?_; (case F => k_asm); (case X => k_asm); (case t => first | rfl | kernel_rfl); (case s => decide +kernel); (case e => k_is); (case h => rfl))
  ktr_step
  refine exc_init (by k_asm) (by k_asm) (by k_asm) (.head _) (by rw [sizeLine_eq]; exact Nat.le_of_ble_eq_true rfl) fun h3 tp3 F3 N3 l3 => ?_
  have N4 := N3 ((tp + 1, excRaw 72 tp3) :: pre) (fun q hq => by
    rcases List.mem_cons.mp hq with rfl | hq
    · exact .inl rfl
    · exact .inr (.inr ⟨.tail _ (.tail _ hq), Nat.ne_of_lt (Nat.lt_succ_of_lt (l1 q hq))⟩))
  clear N3
  ktr_step
  refine exc_set (by k_asm) (by k_asm) N4 (.head _) fun h5 d5 tk5 F5 N5 => ?_
  have N6 := N5 ((tp + 1, { excRaw 72 tp3 with dict := some d5 }) :: pre) (fun q hq => by
    rcases List.mem_cons.mp hq with rfl | hq
    · exact .inl rfl
    · exact .inr ⟨.tail _ hq, Nat.ne_of_lt (Nat.lt_succ_of_lt (l1 q hq))⟩)
  clear N5
  ktr_step
  rename Fr h₀ _ _ _ => F7
  rename News h₀ _ _ _ => N7
  exact hret _ _ _ _ ⟨some d5, tp3, rfl⟩ (fun q hq => Nat.ne_of_lt (Nat.lt_succ_of_lt (l1 q hq))) F7 N7
theorem quiet_M21 : True := by
  w_top off
  trivial
/-- a call that raises -/
def TelX (prog : Program) (w : World) (K : Frag) (p : Program) (loose : List Str) (mean : ExcName → Option Value) (mg mb : Str → Option Value) (dep uni : Nat) (C : Addr) (pre : List (Addr × Obj)) (tree : Sem Value) : Prop :=
  ∀ (dp un : Nat) (gd : Option (List Code)) (cn : Str) (cs : Scope) (a : Addr) (ccd : Value) (cl : List (Str × Addr)) (outer : List Env) (A₀ : Around) (base h₀ : Heap) (L : Addr) (m : Str → Option Value) (s : Shared)
    (Q E : Value → Shared → Prop),
    Below A₀ base outer h₀ → Fr h₀ L s.heap m → K.In h₀ → News h₀ L s.heap pre → Top p loose mean mg mb h₀ → cs.kind = .function → dp + dep < recursionLimit → un + uni < cLine →
    (∀ e h' tk' G, Fr h₀ L G m → RaisedSN base G (envX cn cs L a ccd cl :: outer) e (.ref C) pre h' → G.UpToSlots h' → E (.ref e) { s with heap := h', toks := tk' }) →
    wpAny (model prog w) (ktrTop dp un gd cn cs L a ccd cl outer) tree Q E s
abbrev excObj (tp : Addr) (d : Option Addr) : Obj := { excRaw 72 tp with dict := d }
section
variable {A : Around} {E : Value → Shared → Prop} {s : Shared} {env : Env}
theorem raise_fault {x : Sem Value} {Q : Flow → Shared → Prop} (hh : A.handled = none)
    (h : wpAny (model prog w) A x (fun v s₁ => ∃ e tp d, v = .ref e ∧ (hd.heap_1 w.params).In s₁.heap ∧ s₁.heap.get? e = some (excObj tp d) ∧ E (.ref e) s₁) E s) :
    wpAny (model prog w) A (raiseStmt env (some x) none) Q E s := by
  have hcB : (Value.ref 72 :: faultUp).contains (.type "BaseException") = true := by decide
  unfold raiseStmt
  refine wpAny_bind (wpAny_mono h (fun v s₁ h₁ => ?_) fun _ _ x => x)
  obtain ⟨e, tp, dd, rfl, X, he, hE⟩ := h₁
  have hC := X _ _ fault_obj
  obtain ⟨hp, g, d, tk, os⟩ := s₁
  repeat (first | with_reducible refine wpAny_loadPart_at he ?_ | with_reducible refine wpAny_loadPart_at hC ?_ | (with_reducible refine wpAny_isSubtype_exc hC ?_; rw [hcB]) | wp_step)
  exact wpAny_raiseNew_none hh hE
end
section
variable {M : Model} {A : Around} {E : Value → Shared → Prop} {s' : Shared} {base g g₂ h : Heap} {outer : List Env} {L a e tp : Addr} {d : Option Addr} {m : Str → Option Value} {name : Str} {scope : Scope} {cd : Value} {Q : Unit → Shared → Prop} {news : List (Addr × Obj)}
theorem leave_fault (K : Below A base outer g) (F' : Fr g L s'.heap m) (N' : News g L s'.heap ((e, excObj tp d) :: news)) (hne : ∀ q ∈ news, q.1 ≠ e)
    (hQ : ∀ h', RaisedSN base g outer e (.ref 72) news h' → g.UpToSlots h' → Q () { s' with heap := h' }) (hk : scope.kind = .function) :
    wpAny M (A.deeper (envOf name scope L a cd)) (leaving (envOf name scope L a cd) (.ref e)) Q E s' := by
  have ne : (e, excObj tp d) ∈ (e, excObj tp d) :: news := .head _
  have he := (N' _ ne).1
  have heL : e ≠ L := (N' _ ne).2.1
  have he0 : g.get? e = none := (N' _ ne).2.2
  generalize hh : hideAll s'.heap [e] = h
  have keeps : ∀ b o, h.get? b = some o → s'.heap.get? b = some o := fun b o q => by rw [← hh] at q; exact of_hideAll _ q
  have stay : ∀ b o, b ≠ e → s'.heap.get? b = some o → h.get? b = some o := fun b o hb q => by rw [← hh]; exact hideAll_get _ q (by simpa using hb)
  have hnew : h.get? e = none := by rw [← hh]; exact hideAll_none _ (by simp)
  have F : Fr g L h m := by
    obtain ⟨oL, es, ep, hL, hLd, hLk, hLf⟩ := F'.ns
    refine ⟨⟨oL, es, ep, stay _ _ (Ne.symm heL) hL, hLd, hLk, hLf⟩, fun b o q => stay b o (fun z => ?_) (F'.keep b o q), F'.above⟩
    rw [z, he0] at q; cases q
  have N : News g L h news := fun q hq => ⟨stay _ _ (hne q hq) (N' q (.tail _ hq)).1, (N' q (.tail _ hq)).2⟩
  have K' := K.push (name := name) (a := a) (cd := cd) F hk
  have hin : ∀ env ∈ (envOf name scope L a cd :: outer), ∀ b, env.frame = some b → b ∈ (envOf name scope L a cd :: outer).filterMap (·.frame) := fun env he b hb => List.mem_filterMap.mpr ⟨env, he, hb⟩
  have st : base.StaysIn (hideAll h ((envOf name scope L a cd :: outer).filterMap (·.frame))) := fun b o q => hideAll_get _ (K'.stays b o q) fun hm => by
    rw [(K'.frames.mem hm).1] at q; cases q
  have sg : ∀ b o, g.get? b = some o → b ∉ outer.filterMap (·.frame) → (hideAll h ((envOf name scope L a cd :: outer).filterMap (·.frame))).get? b = some o := fun b o q nm => hideAll_get _ (F.keep b o q) fun hm => by
    rcases kts_mem hm with z | z
    · rw [z, kts_self F] at q
      cases q
    · exact nm z
  have hl : ∀ q ∈ news, (hideAll h ((envOf name scope L a cd :: outer).filterMap (·.frame))).get? q.1 = some q.2 ∧ g.get? q.1 = none ∧ base.get? q.1 = none := fun q hq => by
    refine ⟨hideAll_get _ (N q hq).1 fun hm => ?_, (N q hq).2.2, fresh_of_stays K.stays (N q hq).2.2⟩
    obtain ⟨env, he, hf⟩ := List.mem_filterMap.mp hm
    rcases List.mem_cons.mp he with rfl | he
    · exact (N q hq).2.1 (Option.some.inj hf).symm
    · obtain ⟨o, ho, _⟩ := (K.frames.mem (List.mem_filterMap.mpr ⟨env, he, hf⟩)).2
      rw [(N q hq).2.2] at ho; cases ho
  have hen : (hideAll h ((envOf name scope L a cd :: outer).filterMap (·.frame))).get? e = none := by
    cases q : (hideAll h ((envOf name scope L a cd :: outer).filterMap (·.frame))).get? e with
    | none => rfl
    | some o => have := of_hideAll _ q; rw [hnew] at this; cases this
  refine wpAny_leaving_firstW (a0 := .ref tp) K'.stack ((funFrames_hide K'.frames hin).of_keeps fun b o hb _ => ⟨o, keeps b o hb, rfl⟩) rfl he (fun b o hb => keeps b o (of_hideAll _ hb)) hen rfl rfl rfl fun h' hL => ?_
  obtain ⟨k1, ⟨_, _, k2⟩, k3, k4⟩ := hL
  exact hQ h' ⟨_, .ref tp, st, sg, hl, k1, hen, k2, k3⟩ (((Heap.UpToSlots.of_keeps F.keep).trans (Heap.UpToSlots.of_keeps keeps)).trans k4)
end

theorem leave_pass {M : Model} {A : Around} {E : Value → Shared → Prop} {s' : Shared} {base g g₂ : Heap} {outer : List Env} {L a e : Addr} {m : Str → Option Value} {name : Str} {scope : Scope} {cd : Value} {Q : Unit → Shared → Prop} {news : List (Addr × Obj)} {cls : Value}
    (K : Below A base outer g) (F : Fr g L g₂ m) (R : RaisedSN base g₂ (envOf name scope L a cd :: outer) e cls news s'.heap) (hsm : g₂.UpToSlots s'.heap)
    (hQ : ∀ h', RaisedSN base g outer e cls news h' → g.UpToSlots h' → Q () { s' with heap := h' }) :
    wpAny M (A.deeper (envOf name scope L a cd)) (leaving (envOf name scope L a cd) (.ref e)) Q E s' := leave_onSN K F R hsm fun h' R' _ U' => hQ h' R' U'
theorem raised_sub {base G h : Heap} {l : List Env} {e : Addr} {cls : Value} {news news' : List (Addr × Obj)} (R : RaisedSN base G l e cls news h) (hs : ∀ q ∈ news', q ∈ news) : RaisedSN base G l e cls news' h := by
  obtain ⟨B, a0, hB, hBG, hl, hfl⟩ := R
  exact ⟨B, a0, hB, hBG, fun q hq => hl q (hs q hq), hfl⟩

set_option maxHeartbeats 4000000 in
theorem row_raise {news : List (Addr × Obj)} {T : Tr} {x : Int} {t : Tok} (hsub : ∀ q ∈ trObjs w.params T, q ∈ news) (hbig : T.nodes.length ≤ 1000) (hx : ¬ (0 ≤ x ∧ x < T.nodes.length)) :
    TelX prog w (hd.heap_1 w.params) p loose mean mg mb 40 400 72 news (call (.ref 138) [.ref T.t, .int x t]) := by
  unfold TelX
  intro dp un gd cn cs a ccd cl outer A₀ base h₀ L m s Q E B F X N T0 hkf hd hu hret
  have m1 := tr_t hsub
  have m2 := tr_d hsub
  have m3 := tr_r hsub
  walk1
  ktr_step
  all_goals
    rw [arm_exec_Raise]
    refine wpAny_bind (wpAny_standAt (raise_fault rfl ?_))
    refine wpAny_bind ?_
    ktr_step
    k_dflt (refine' fault_made ?B ?F ?X ?N ?T ?hk ?hd ?hu ?_; (case B => k_asm); (case F => k_asm); (case X => k_asm); (case N => k_asm); (case T => k_asm); (case hk => rfl); (case hd => ktr_room); (case hu => ktr_units))
    rintro e o h4 tk4 ⟨d, tp, rfl⟩ hne F4 N4
    refine wpAny_bind (wpAny_standAt (wpAny_pure ?_))
    refine ⟨e, tp, d, rfl, by rename Frag.In _ _ => X5; exact X5.keeps F4.keep, (N4 _ (.head _)).1, ?_⟩
    ktr_step
    rename Below _ _ _ _ => B5
    rename Fr h₀ _ _ _ => FG
    exact leave_fault B5 F4 N4 hne (fun h6 R6 U6 => hret _ _ _ _ FG R6 U6) rfl

theorem telx_use {K : Frag} {dep uni : Nat} {pre : List (Addr × Obj)} {tree : Sem Value}
    {dp un : Nat} {gd : Option (List Code)} {cn : Str} {cs : Scope} {a : Addr} {ccd : Value} {cl : List (Str × Addr)} {outer : List Env} {A₀ : Around} {base h₀ : Heap} {L : Addr} {m : Str → Option Value} {s : Shared} {Q E : Value → Shared → Prop} {C : Addr}
    (T1 : TelX prog w K p loose mean mg mb dep uni C pre tree) (B : Below A₀ base outer h₀) (F : Fr h₀ L s.heap m) (X : K.In h₀) (N : News h₀ L s.heap pre) (T : Top p loose mean mg mb h₀) (hk : cs.kind = .function)
    (hd : dp + dep < recursionLimit) (hu : un + uni < cLine)
    (ret : ∀ e h' tk' G, Fr h₀ L G m → RaisedSN base G (envX cn cs L a ccd cl :: outer) e (.ref C) pre h' → G.UpToSlots h' → E (.ref e) { s with heap := h', toks := tk' }) :
    wpAny (model prog w) (ktrTop dp un gd cn cs L a ccd cl outer) tree Q E s := T1 _ _ _ _ _ _ _ _ _ _ _ _ _ _ _ _ _ B F X N T hk hd hu ret

set_option maxHeartbeats 4000000 in
theorem parent_raise {news : List (Addr × Obj)} {T : Tr} {x : Int} {t : Tok} (hsub : ∀ q ∈ trObjs w.params T, q ∈ news) (hbig : T.nodes.length ≤ 1000) (hx : ¬ (0 ≤ x ∧ x < T.nodes.length)) :
    TelX prog w (hd.heap_1 w.params) p loose mean mg mb 50 500 72 news (call (.ref 250) [.ref T.t, .int x t]) := by
  unfold TelX
  intro dp un gd cn cs a ccd cl outer A₀ base h₀ L m s Q E B F X N T0 hkf hd hu hret
  have m1 := tr_t hsub
  have m2 := tr_d hsub
  have m3 := tr_r hsub
  walk1
  ktr_step
  k_dflt (refine' telx_use (row_raise hsub hbig hx) ?B ?F ?X ?N ?T ?hk ?hd ?hu ?_; (case B => k_asm); (case F => k_asm); (case X => k_asm); (case N => k_asm); (case T => k_asm); (case hk => rfl); (case hd => ktr_room); (case hu => ktr_units))
  intro e h4 tk4 G4 FG4 R4 U4
  ktr_step
  rename Below _ _ _ _ => B5
  rename Fr h₀ _ _ _ => FG
  exact leave_pass B5 FG4 R4 U4 fun h6 R6 U6 => hret _ _ _ _ FG R6 U6

set_option maxHeartbeats 4000000 in
theorem children_raise {news : List (Addr × Obj)} {T : Tr} {x : Int} {t : Tok} (hsub : ∀ q ∈ trObjs w.params T, q ∈ news) (hbig : T.nodes.length ≤ 1000) (hx : ¬ (0 ≤ x ∧ x < T.nodes.length)) :
    TelX prog w (hd.heap_1 w.params) p loose mean mg mb 50 500 72 news (call (.ref 257) [.ref T.t, .int x t]) := by
  unfold TelX
  intro dp un gd cn cs a ccd cl outer A₀ base h₀ L m s Q E B F X N T0 hkf hd hu hret
  have m1 := tr_t hsub
  have m2 := tr_d hsub
  have m3 := tr_r hsub
  walk1
  ktr_step
  k_dflt (refine' telx_use (row_raise hsub hbig hx) ?B ?F ?X ?N ?T ?hk ?hd ?hu ?_; (case B => k_asm); (case F => k_asm); (case X => k_asm); (case N => k_asm); (case T => k_asm); (case hk => rfl); (case hd => ktr_room); (case hu => ktr_units))
  intro e h4 tk4 G4 FG4 R4 U4
  ktr_step
  rename Below _ _ _ _ => B5
  rename Fr h₀ _ _ _ => FG
  exact leave_pass B5 FG4 R4 U4 fun h6 R6 U6 => hret _ _ _ _ FG R6 U6

set_option maxHeartbeats 4000000 in
theorem ancestors_raise {news : List (Addr × Obj)} {T : Tr} {x : Int} {t : Tok} (hsub : ∀ q ∈ trObjs w.params T, q ∈ news) (hbig : T.nodes.length ≤ 1000) (hx : ¬ (0 ≤ x ∧ x < T.nodes.length)) :
    TelX prog w (hd.heap_1 w.params) p loose mean mg mb 60 600 72 news (call (.ref 35) [.ref T.t, .int x t]) := by
  unfold TelX
  intro dp un gd cn cs a ccd cl outer A₀ base h₀ L m s Q E B F X N T0 hkf hd hu hret
  have m1 := tr_t hsub
  have m2 := tr_d hsub
  have m3 := tr_r hsub
  walk1
  ktr_step
  k_dflt (refine' telx_use (parent_raise (sub_tail hsub) hbig hx) ?B ?F ?X ?N ?T ?hk ?hd ?hu ?_; (case B => k_asm); (case F => k_asm); (case X => k_asm); (case N => k_asm); (case T => k_asm); (case hk => rfl); (case hd => ktr_room); (case hu => ktr_units))
  intro e h4 tk4 G4 FG4 R4 U4
  ktr_step
  rename Below _ _ _ _ => B5
  rename Fr h₀ _ _ _ => FG
  exact leave_pass B5 FG4 (raised_sub R4 fun q hq => .tail _ hq) U4 fun h6 R6 U6 => hret _ _ _ _ FG R6 U6

set_option maxHeartbeats 4000000 in
theorem descendants_raise {news : List (Addr × Obj)} {T : Tr} {x : Int} {t : Tok} (hsub : ∀ q ∈ trObjs w.params T, q ∈ news) (hbig : T.nodes.length ≤ 1000) (hx : ¬ (0 ≤ x ∧ x < T.nodes.length)) :
    TelX prog w (hd.heap_1 w.params) p loose mean mg mb 60 600 72 news (call (.ref 28) [.ref T.t, .int x t]) := by
  unfold TelX
  intro dp un gd cn cs a ccd cl outer A₀ base h₀ L m s Q E B F X N T0 hkf hd hu hret
  have m1 := tr_t hsub
  have m2 := tr_d hsub
  have m3 := tr_r hsub
  walk1
  ktr_step
  k_dflt (refine' telx_use (children_raise (sub_tail hsub) hbig hx) ?B ?F ?X ?N ?T ?hk ?hd ?hu ?_; (case B => k_asm); (case F => k_asm); (case X => k_asm); (case N => k_asm); (case T => k_asm); (case hk => rfl); (case hd => ktr_room); (case hu => ktr_units))
  intro e h4 tk4 G4 FG4 R4 U4
  ktr_step
  rename Below _ _ _ _ => B5
  rename Fr h₀ _ _ _ => FG
  exact leave_pass B5 FG4 (raised_sub R4 fun q hq => .tail _ hq) U4 fun h6 R6 U6 => hret _ _ _ _ FG R6 U6
theorem quiet_M22 : True := by
  w_top off
  trivial
set_option maxHeartbeats 4000000 in
theorem with_descendants_raise {news : List (Addr × Obj)} {T : Tr} {D : List Node} {l : Addr} {vs : List Value} {e b : Nat} {ks : List Nat} {ds : Nat → List Nat} (hsub : ∀ q ∈ trObjs w.params T, q ∈ news) (hT : TrIs T D) (hf : Fit D)
    (hml : (l, listOf vs.toArray e) ∈ news) (hI : IntsAre vs (nats (ks ++ [b]))) (hb : T.nodes.length ≤ b) (hks : ∀ k ∈ ks, ∃ n, D[k]? = some n ∧ Pre D n.ch (ds k) ∧ (ds k).length ≤ 100) (hlen : ks.length ≤ 99) :
    TelX prog w (hd.heap_1 w.params) p loose mean mg mb 70 700 72 news (call (.ref 42) [.ref T.t, .ref l]) := by
  unfold TelX
  intro dp un gd cn cs a ccd cl outer A₀ base h₀ L m s Q E B F X N T0 hkf hd hu hret
  have hbig := hT.big hf
  have m1 := tr_t hsub
  have m2 := tr_d hsub
  walk1
  ktr_step
  rename Fr _ _ _ _ => F2
  (with_unfolding_all refine' For_invVF F2 ?k1 ?k2 ?_; (case k1 => exact rfl); (case k2 => exact rfl))
  ktr_step
  rename Fr _ _ _ _ => F3
  rename News _ _ _ _ => N3
  refine for_listY [Str.ofString "found"] (fun i m nx => i ≤ ks.length ∧ ∃ qf vf ef, m (Str.ofString "found") = some (.ref qf) ∧ IntsAre vf (nats ((ks.take i).flatMap fun k => k :: ds k)) ∧ nx = (qf, listOf vf.toArray ef) :: news ∧ ∀ p ∈ news, p.1 < qf)
    rfl F3 N3 (.tail _ hml) ⟨Nat.zero_le _, _, [], 0, rfl, .nil, rfl, by assumption⟩ ?_ ?_
  · rintro i v m₁ nx h tk I oI hv ⟨hile, qf, vf, ef, hfo, hIf, rfl, hqf⟩ hl hoI F4 N4
    have F5 := fr_pin F4 (x := Str.ofString "found") (v := .ref qf) (by exact hfo)
    clear F4
    obtain ⟨k, t, rfl, hk⟩ := nats_get hI hv
    have hvf : vf.length ≤ 10100 := by
      have e1 := hIf.length
      rw [nats_length] at e1
      have e2 : ∀ j, ((ks.take j).flatMap fun k => k :: ds k).length ≤ 101 * j := by
        intro j
        induction j with
        | zero => simp
        | succ j ih =>
          rw [List.take_add_one]
          cases hj : ks[j]? with
          | none => simp; simp at ih; omega
          | some x =>
            have := (hks x (List.mem_of_getElem? hj)).elim fun n h => h.2.2
            simp; simp at ih; omega
      have e3 := e2 i
      have e4 := lt_of_get hk
      rw [List.length_append, List.length_singleton] at e4
      omega
    have mf : (qf, listOf vf.toArray ef) ∈ (qf, listOf vf.toArray ef) :: news := .head _
    ktr_step
    intro h5 F6 N6
    have hIq : I ≠ qf := Ne.symm (hoI _ (.head _))
    have hnf : ∀ p ∈ news, p.1 ≠ qf := fun p hp => Nat.ne_of_lt (hqf p hp)
    have N7 := N6 ((I, oI) :: (qf, listOf (vf ++ [Value.int (k : Int) t]).toArray (ef + 1)) :: news) (mid_upd (pre := [(I, oI)]) (fun p hp => by rw [List.mem_singleton.mp hp]; exact hIq) hnf (fun p hp => by
      rcases List.mem_cons.mp hp with rfl | hp
      · exact .head _
      · exact .tail _ (.tail _ hp)))
    clear N6 mf
    ktr_step
    by_cases hik : i = ks.length
    · obtain rfl : k = b := by
        rw [hik, List.getElem?_append_right (Nat.le_refl _)] at hk
        simpa using hk.symm
      k_dflt (refine' telx_use (descendants_raise (sub_tail (sub_tail hsub)) hbig ?x0) ?B ?F ?X ?N ?T ?hk ?hd ?hu ?_; (case x0 => omega); (case B => k_asm); (case F => k_asm); (case X => k_asm); (case N => k_asm); (case T => k_asm); (case hk => rfl); (case hd => ktr_room); (case hu => ktr_units))
      intro e6 h6 tk6 G6 FG6 R6 U6
      ktr_step
      rename Below _ _ _ _ => B5
      rename Fr h₀ _ _ _ => FG
      exact leave_pass B5 FG6 (raised_sub R6 fun q hq => .tail _ (.tail _ hq)) U6 fun h7 R7 U7 => hret _ _ _ _ FG R7 U7
    have hilt : i < ks.length := by omega
    rw [List.getElem?_append_left hilt] at hk
    obtain ⟨n, hn, hpre, hdl⟩ := hks k (List.mem_of_getElem? hk)
    ktr_call (sub_self _) (descendants_ok (sub_tail (sub_tail hsub)) hT hf hn hpre hdl)
    rintro _ _ h8 tk8 F8 N8 ⟨q8, ws, e8, rfl, hI8, rfl, hq8⟩
    have hw8 : ws.length ≤ 100 := by rw [hI8.length, nats_length]; exact hdl
    have hvf1 : (vf ++ [Value.int (k : Int) t]).length ≤ 10101 := by simp; omega
    ktr_step
    intro h9 e9 F9 N9
    have N10 := N9 ((I, oI) :: (qf, listOf (vf ++ [Value.int (k : Int) t] ++ ws).toArray e9) :: news) (mid_upd (pre := [(I, oI)]) (fun p hp => by rw [List.mem_singleton.mp hp]; exact hIq) hnf (fun p hp => by
      rcases List.mem_cons.mp hp with rfl | hp
      · exact .tail _ (.head _)
      · exact .tail _ (.tail _ (.tail _ hp))))
    clear N9 N8 N7
    ktr_step
    rename Fr _ _ _ _ => F12
    rename News _ _ _ _ => N12
    refine turn_next F12 N12 (one_in (.tail _ hml)) ?_ ?_ ⟨hilt, qf, _, e9, rfl, ?_, rfl, hqf⟩
    · intro q hq
      rcases List.mem_cons.mp hq with rfl | hq
      · exact Ne.symm hIq
      · exact hoI _ (.tail _ hq)
    · intro z h1 h2
      simp only [List.mem_cons, List.not_mem_nil, or_false] at h2
      simp [h1, h2]
    · rw [List.take_add_one, hk, List.flatMap_append, nats_append]
      simp only [List.append_assoc]
      refine hIf.append ?_
      simp only [Option.toList_some, List.flatMap_cons, List.flatMap_nil, List.append_nil]
      exact IntsAre.cons _ _ hI8
  · rintro m₁ nx h tk ⟨hle, -⟩
    rw [hI.length, nats_length, List.length_append, List.length_singleton] at hle
    omega
theorem quiet_M23 : True := by
  w_top off
  trivial
section
variable {A₀ A : Around} {s s' : Shared} {base h₀ g g₀ G : Heap} {outer : List Env} {L a e : Addr} {m : Str → Option Value} {news : List (Addr × Obj)} {K : Frag} {cn : Str} {cs : Scope} {ccd : Value} {cl : List (Str × Addr)}
/-- the ground of a call from a frame that is the only one -/
theorem ground_one (B : Below A₀ base [] h₀) (F : Fr h₀ L s.heap m) (N : News h₀ L s.heap news) (hA : A.frames = some [envX cn cs L a ccd cl]) (hck : cs.kind = .function) :
    ∃ oL es ep, (hideAll s.heap (news.map (·.1))).get? L = some oL ∧ oL.data = .dict es ep ∧ (∀ h', h'.get? L = some oL → Heap.Ns h' L m) ∧ (∀ (sl : Array (Option Value)) h', h'.get? L = some { oL with slots := sl } → Heap.Ns h' L m) ∧
      h₀.StaysIn (hideAll s.heap (news.map (·.1))) ∧ Below A base [envX cn cs L a ccd cl] (hideAll s.heap (news.map (·.1))) := by
  obtain ⟨FG, BG, st, -⟩ := groundX (R := fun _ _ => True) (A := A) (env := envX cn cs L a ccd cl) B F N hA rfl hck
  obtain ⟨oL, es, ep, hL, hLd, hLk, hLf⟩ := FG.ns
  exact ⟨oL, es, ep, hL, hLd, fun h' e => ⟨oL, es, ep, e, hLd, hLk, hLf⟩, fun sl h' e => ⟨_, es, ep, e, hLd, hLk, hLf⟩, st, BG⟩

theorem one_frame {b : Addr} (hm : b ∈ [envX cn cs L a ccd cl].filterMap (·.frame)) : b = L := by
  obtain ⟨env, he, hf⟩ := List.mem_filterMap.mp hm
  rw [List.mem_singleton.mp he] at hf
  exact (Option.some.inj hf).symm

variable {R : Result → Shared → Prop} {name qual : Str} {params : Arguments} {body : List Stmt} {scope : Scope} {dV kV doc pm cdv ct oc : Value} {an od : Option Addr} {osl : Array (Option Value)} {f : Addr} {args : Args} {binds : List (Str × Value)}
theorem code_one (B : Below A₀ base [] h₀) (F : Fr h₀ L s.heap m) (X₀ : K.In h₀) (N : News h₀ L s.heap news) (T : Top p loose mean mg mb h₀) (hA : A.frames = some [envX cn cs L a ccd cl])
    (ho : K.lookup f = some ⟨oc, od, .func (fnOf name qual params body scope dV kV doc pm an cdv ct), osl⟩) (hcd : codeIn K cdv qual = true) (hroom : A.depth < recursionLimit)
    (hbind : BindsTo s (fnOf name qual params body scope dV kV doc pm an cdv ct) args binds) (hloc : ∀ y ∈ binds, scope.names.lookup y.1 = some .local)
    (h : ∀ g L' h₁, Fr h₀ L g m → Fr g L' h₁ (fun y => binds.reverse.lookup y) → News g L' h₁ news → Below A base [envX cn cs L a ccd cl] g → K.In g → Top p loose mean mg mb g → KtsDicts ([envX cn cs L a ccd cl].filterMap (·.frame)) g →
      wpAny (model prog w) (A.deeper (envOf qual scope L' f cdv)) (execs body (envOf qual scope L' f cdv))
        (fun fl s' => LeaveS0 ([envX cn cs L a ccd cl].filterMap (·.frame)) h₀ L m g R (match fl with | .ret v => v | _ => .none) s')
        (fun e s' => wpAny (model prog w) (A.deeper (envOf qual scope L' f cdv)) (leaving (envOf qual scope L' f cdv) e) (fun _ s'' => R (.error e) s'') (fun e' s'' => R (.error e') s'') s')
        { s with heap := h₁, toks := s.toks + binds.length })
    (hck : cs.kind = .function) (hco : scope.isCoroutine = false) (hgen : scope.isGenerator = false) (hk : scope.kind = .function)
    (hcell : ∀ x ∈ scope.names, x.2 ≠ .cell) : codeAny (model prog w) A (.call (.ref f) args) R s := by
  have X := X₀.keeps F.keep
  refine codeAny_call_def (fd := fnOf name qual params body scope dV kV doc pm an cdv ct) (body := body) (binds := binds) hroom (X _ _ ho) rfl (T.nolimit.keeps F.keep) (codeRec_of X hcd) rfl hbind hcell hloc (fun h₁ hns hk₁ => ?_) hco hgen hk
  obtain ⟨oL, es, ep, hLg, hLd, hN, hNs, st, B₂⟩ := ground_one B F N hA hck
  refine wpAny_mono (h _ s.heap.objs.size h₁ ⟨hN _ hLg, st, F.above⟩ ⟨hns, fun b o e => hk₁ b o (of_hideAll _ e), Nat.le_of_eq (hideAll_size _ _)⟩
    (fun p hp => ⟨hk₁ _ _ (N p hp).1, Nat.ne_of_lt (Heap.lt_size (N p hp).1), hideAll_none _ (List.mem_map_of_mem hp)⟩) B₂ (X₀.keeps st) (T.keeps st) (fun b hb => by
      rw [one_frame hb]
      exact ⟨oL, es, ep, hLg, hLd⟩)) (fun fl s' hl => ?_) fun _ _ y => y
  obtain ⟨g', L', m', news', T', F', N', k⟩ := hl
  have nL₀ : h₀.get? L = none := kts_self F
  obtain ⟨sl, hs⟩ := T'.up hLg
  refine k ⟨hNs sl _ (F'.keep _ _ hs), fun b o e => F'.keep b o (T'.other b o (st b o e) (fun q => by
    rw [one_frame q, nL₀] at e
    cases e)), F.above⟩ fun p hp => ⟨(N' p hp).1, fun q => ?_, ?_⟩
  · have := (N' p hp).2.2; rw [q, hs] at this; cases this
  · cases q : h₀.get? p.1 with
    | none => rfl
    | some o =>
      obtain ⟨sl', hs'⟩ := T'.up (st _ _ q)
      have := (N' p hp).2.2
      rw [hs'] at this
      cases this
end
section
variable {A₀ : Around} {E : Value → Shared → Prop} {s' : Shared} {base g g₀ G : Heap} {outer : List Env} {L a e : Addr} {m : Str → Option Value} {name : Str} {scope : Scope} {cd : Value}
  {n : Str} {b₀ : Stmt} {suite : List Stmt} {pos np : Pos} {rest : List ExceptHandler} {Q : Flow → Shared → Prop} {news : List (Addr × Obj)} {x : Str}
theorem caught_fault (R : RaisedSN base G (envOf name scope L a cd :: outer) e (.ref 72) news s'.heap) (F : Fr g L G m) (K : Below A₀ base outer g) (hsm : G.UpToSlots s'.heap) (XB : (hd.heap_1 w.params).In base) (TB : Top p loose mean mg mb base)
    (D : KtsDicts (outer.filterMap (·.frame)) g) (T0 : KtsTurn (outer.filterMap (·.frame)) g₀ g)
    (ex : nsIn (hd.heap_1 w.params) mainGlobals x = some (some (.ref 72)))
    (k : ∀ h' g', KtsTurn (outer.filterMap (·.frame)) g₀ g' → Fr g' L h' m → News g' L h' news → Below A₀ base outer g' → (hd.heap_1 w.params).In g' → Top p loose mean mg mb g' → KtsDicts (outer.filterMap (·.frame)) g' →
      wpAny (model prog w) ((A₀.deeper (envOf name scope L a cd)).mark (some (.ref e))) (execs (b₀ :: suite) (envOf name scope L a cd)) Q E { s' with heap := h' })
    (hk : scope.kind = .function) (hx : (envOf name scope L a cd).kindOf x = some .globalImplicit) (hdb : (x == ("__debug__" : Str)) = false)
    (hE : PassesOwnAt (model prog w) ((A₀.deeper (envOf name scope L a cd)).mark (some (.ref e))) (A₀.deeper (envOf name scope L a cd)) (envOf name scope L a cd) E) :
    wpAny (model prog w) (A₀.deeper (envOf name scope L a cd)) (noteFrame (.ref e) (envOf name scope L a cd))
      (fun _ s₂ => wpAny (model prog w) (A₀.deeper (envOf name scope L a cd)) (setFlight (.ref e) none) (fun _ s₃ =>
        wpAny (model prog w) (A₀.deeper (envOf name scope L a cd)) (handleBy (.ref e) (envOf name scope L a cd) (.ExceptHandler (some (.Name x np)) none (b₀ :: suite) pos :: rest)) Q E s₃) E s₂) E s' := by
  obtain ⟨B, a0, hB, hBG, hl, hfl⟩ := R
  have hL : B.get? L = none := by
    obtain ⟨_, ⟨L', _, hf, hn', _⟩, _⟩ := hfl.2.2.1
    obtain rfl : L = L' := Option.some.inj hf
    exact hn'
  refine wpAny_looks_onW (Around.frames_deeper K.stack) rfl hfl fun h₄ hheld₄ hsm₄ => ?_
  refine wpAny_landsW hheld₄ fun h₅ hheld hsm₅' => ?_
  have hsm₅ := hsm₄.trans hsm₅'
  obtain ⟨g₅, T₅, F₅, K₅⟩ := kts_ground K F hBG hheld.1 (hsm.trans hsm₅)
  have X₅ := XB.keeps K₅.stays
  have P₅ : TopRead p loose mg mb g₅ := topRead_of (TB.keeps K₅.stays)
  obtain ⟨ob, hob, hobc⟩ := hheld.there
  have hC₅ := F₅.keep _ _ (X₅ _ _ fault_obj)
  refine wpAny_handleBy_cons (codeAny_handlers_test (name_K F₅ X₅ P₅ ex ?_ hk hx hdb)) (by intro q; cases q)
  refine wpAny_excMatches_sub_self hC₅ hob hobc (by decide) (codeAny_handlers_suite ?_)
  refine lands_againW hheld fun h₆ hfl₆ hsm₆ => ?_
  obtain ⟨g₆, T₆, F₆, K₆⟩ := kts_ground K F hBG hfl₆.1 ((hsm.trans hsm₅).trans hsm₆)
  have Nl : News g₆ L h₆ news := fun q hq => ⟨hfl₆.1 _ _ (hl q hq).1, (fun z => by have := (hl q hq).1; rw [z, hL] at this; cases this), T₆.none_ _ (kts_none F.keep (hl q hq).2.1)⟩
  exact wpAny_passesOwnAt hE (k h₆ g₆ (T0.trans T₆) F₆ Nl K₆ (XB.keeps K₆.stays) (TB.keeps K₆.stays) (D.turn T₆))
end
theorem quiet_M24 : True := by
  w_top off
  trivial
set_option maxHeartbeats 4000000 in
theorem refused_35 {pre : List (Addr × Obj)} {T : Tr} {v : Value} {dp un : Nat} {gd : Option (List Code)} {cn : Str} {cs : Scope} {a : Addr} {ccd : Value} {cl : List (Str × Addr)} {A₀ : Around} {base h₀ : Heap} {L : Addr} {m : Str → Option Value} {s : Shared} {Q E : Value → Shared → Prop}
    (hx : TelX prog w (hd.heap_1 w.params) p loose mean mg mb 70 700 72 pre (call (.ref 35) [.ref T.t, v]))
    (B : Below A₀ base [] h₀) (F : Fr h₀ L s.heap m) (X : (hd.heap_1 w.params).In h₀) (N : News h₀ L s.heap pre) (T0 : Top p loose mean mg mb h₀) (XB : (hd.heap_1 w.params).In base) (TB : Top p loose mean mg mb base) (hkf : cs.kind = .function) (hd : dp + 90 < recursionLimit) (hu : un + 900 < cLine)
    (hret : ∀ h' tk', Fr h₀ L h' m → News h₀ L h' pre → Q (.bool true) { s with heap := h', toks := tk' }) :
    wpAny (model prog w) (ktrTop dp un gd cn cs L a ccd cl []) (call (.ref 351) [.ref 35, .ref T.t, v]) Q E s := by
  refine wpAny_call ?_
  refine' code_one B F X N T0 ?k4 ?k6 ?k7 ?k8 ?k9 ?kB ?_ hkf ?c2 ?c3 ?c4 ?c5
  case k4 => rfl
  case k6 => k_is
  case k7 => k_is
  case k8 => ktr_room
  case k9 => exact BindsTo.of_eq rfl
  case kB => exact locs rfl
  case c2 => exact rfl
  case c3 => exact rfl
  case c4 => exact rfl
  case c5 => decide
  intro g L' h₁ FG F' N' B' X' T' D'
  try dsimp only
  ktr_step
  k_dflt (refine' telx_use hx ?B ?F ?X ?N ?T ?hk ?hd ?hu ?_; (case B => k_asm); (case F => k_asm); (case X => k_asm); (case N => k_asm); (case T => k_asm); (case hk => rfl); (case hd => ktr_room); (case hu => ktr_units))
  intro e h4 tk4 G4 FG4 R4 U4
  dsimp only
  refine caught_fault R4 FG4 B' U4 XB TB D' .refl (by k_is) (fun h5 g5 T5 F5 N5 B5 X5 P5 D5 => ?_) rfl rfl (by decide) (by passes_own)
  ktr_step
  rename Fr h₀ _ _ _ => F7
  rename News h₀ _ _ _ => N7
  exact hret _ _ F7 N7

set_option maxHeartbeats 4000000 in
theorem refused_28 {pre : List (Addr × Obj)} {T : Tr} {v : Value} {dp un : Nat} {gd : Option (List Code)} {cn : Str} {cs : Scope} {a : Addr} {ccd : Value} {cl : List (Str × Addr)} {A₀ : Around} {base h₀ : Heap} {L : Addr} {m : Str → Option Value} {s : Shared} {Q E : Value → Shared → Prop}
    (hx : TelX prog w (hd.heap_1 w.params) p loose mean mg mb 70 700 72 pre (call (.ref 28) [.ref T.t, v]))
    (B : Below A₀ base [] h₀) (F : Fr h₀ L s.heap m) (X : (hd.heap_1 w.params).In h₀) (N : News h₀ L s.heap pre) (T0 : Top p loose mean mg mb h₀) (XB : (hd.heap_1 w.params).In base) (TB : Top p loose mean mg mb base) (hkf : cs.kind = .function) (hd : dp + 90 < recursionLimit) (hu : un + 900 < cLine)
    (hret : ∀ h' tk', Fr h₀ L h' m → News h₀ L h' pre → Q (.bool true) { s with heap := h', toks := tk' }) :
    wpAny (model prog w) (ktrTop dp un gd cn cs L a ccd cl []) (call (.ref 351) [.ref 28, .ref T.t, v]) Q E s := by
  refine wpAny_call ?_
  refine' code_one B F X N T0 ?k4 ?k6 ?k7 ?k8 ?k9 ?kB ?_ hkf ?c2 ?c3 ?c4 ?c5
  case k4 => rfl
  case k6 => k_is
  case k7 => k_is
  case k8 => ktr_room
  case k9 => exact BindsTo.of_eq rfl
  case kB => exact locs rfl
  case c2 => exact rfl
  case c3 => exact rfl
  case c4 => exact rfl
  case c5 => decide
  intro g L' h₁ FG F' N' B' X' T' D'
  try dsimp only
  ktr_step
  k_dflt (refine' telx_use hx ?B ?F ?X ?N ?T ?hk ?hd ?hu ?_; (case B => k_asm); (case F => k_asm); (case X => k_asm); (case N => k_asm); (case T => k_asm); (case hk => rfl); (case hd => ktr_room); (case hu => ktr_units))
  intro e h4 tk4 G4 FG4 R4 U4
  dsimp only
  refine caught_fault R4 FG4 B' U4 XB TB D' .refl (by k_is) (fun h5 g5 T5 F5 N5 B5 X5 P5 D5 => ?_) rfl rfl (by decide) (by passes_own)
  ktr_step
  rename Fr h₀ _ _ _ => F7
  rename News h₀ _ _ _ => N7
  exact hret _ _ F7 N7

set_option maxHeartbeats 4000000 in
theorem refused_42 {pre : List (Addr × Obj)} {T : Tr} {v : Value} {dp un : Nat} {gd : Option (List Code)} {cn : Str} {cs : Scope} {a : Addr} {ccd : Value} {cl : List (Str × Addr)} {A₀ : Around} {base h₀ : Heap} {L : Addr} {m : Str → Option Value} {s : Shared} {Q E : Value → Shared → Prop}
    (hx : TelX prog w (hd.heap_1 w.params) p loose mean mg mb 70 700 72 pre (call (.ref 42) [.ref T.t, v]))
    (B : Below A₀ base [] h₀) (F : Fr h₀ L s.heap m) (X : (hd.heap_1 w.params).In h₀) (N : News h₀ L s.heap pre) (T0 : Top p loose mean mg mb h₀) (XB : (hd.heap_1 w.params).In base) (TB : Top p loose mean mg mb base) (hkf : cs.kind = .function) (hd : dp + 90 < recursionLimit) (hu : un + 900 < cLine)
    (hret : ∀ h' tk', Fr h₀ L h' m → News h₀ L h' pre → Q (.bool true) { s with heap := h', toks := tk' }) :
    wpAny (model prog w) (ktrTop dp un gd cn cs L a ccd cl []) (call (.ref 351) [.ref 42, .ref T.t, v]) Q E s := by
  refine wpAny_call ?_
  refine' code_one B F X N T0 ?k4 ?k6 ?k7 ?k8 ?k9 ?kB ?_ hkf ?c2 ?c3 ?c4 ?c5
  case k4 => rfl
  case k6 => k_is
  case k7 => k_is
  case k8 => ktr_room
  case k9 => exact BindsTo.of_eq rfl
  case kB => exact locs rfl
  case c2 => exact rfl
  case c3 => exact rfl
  case c4 => exact rfl
  case c5 => decide
  intro g L' h₁ FG F' N' B' X' T' D'
  try dsimp only
  ktr_step
  k_dflt (refine' telx_use hx ?B ?F ?X ?N ?T ?hk ?hd ?hu ?_; (case B => k_asm); (case F => k_asm); (case X => k_asm); (case N => k_asm); (case T => k_asm); (case hk => rfl); (case hd => ktr_room); (case hu => ktr_units))
  intro e h4 tk4 G4 FG4 R4 U4
  dsimp only
  refine caught_fault R4 FG4 B' U4 XB TB D' .refl (by k_is) (fun h5 g5 T5 F5 N5 B5 X5 P5 D5 => ?_) rfl rfl (by decide) (by passes_own)
  ktr_step
  rename Fr h₀ _ _ _ => F7
  rename News h₀ _ _ _ => N7
  exact hret _ _ F7 N7
theorem quiet_M25 : True := by
  w_top off
  trivial
/-- which of a node's three lists -/
def cls (K : Str) : Nat := if K = Str.ofString "attribute" then 1 else if K = Str.ofString "namespace" then 2 else 0
def lst3 (i : Nat) (n : Node) : List Nat := if i = 1 then n.as else if i = 2 then n.ss else n.ch
def push3 (i c : Nat) (n : Node) : Node := if i = 1 then { n with as := n.as ++ [c] } else if i = 2 then { n with ss := n.ss ++ [c] } else { n with ch := n.ch ++ [c] }
theorem listIn_eq (K : Str) (n : Node) : listIn K n = lst3 (cls K) n := by
  unfold listIn lst3 cls
  by_cases h1 : K = Str.ofString "attribute"
  · simp [h1]
  · by_cases h2 : K = Str.ofString "namespace"
    · subst h2
      rw [if_neg (by decide), if_pos rfl, if_neg (by decide), if_pos rfl]; rfl
    · simp [h1, h2]
def attach (D : List Node) (par : Option Nat) (K : Str) (nm : Str) : List Node :=
  (match par with
    | none => D
    | some k => D.modify k (push3 (cls K) D.length)) ++ [⟨K, par, [], [], [], nm⟩]
theorem addNode_attach {D : List Node} {par : Option Nat} {K : Str} (h : cls K = 0) : addNode D par K = attach D par K (Str.ofString "") := by
  unfold addNode attach
  cases par with
  | none => rfl
  | some k => rw [h]; rfl
theorem addAttr_attach {D : List Node} {k : Nat} {x : Str} : addAttr D k x = attach D (some k) (Str.ofString "attribute") x := rfl
theorem addNs_attach {D : List Node} {k : Nat} {x : Str} : addNs D k x = attach D (some k) (Str.ofString "namespace") x := rfl
theorem attach_length {D : List Node} {par : Option Nat} {K nm : Str} : (attach D par K nm).length = D.length + 1 := by
  unfold attach; cases par <;> simp
theorem attach_old {D : List Node} {par : Option Nat} {K nm : Str} {k : Nat} {n : Node} (hk : D[k]? = some n) : (attach D par K nm)[k]? = some (if par = some k then push3 (cls K) D.length n else n) := by
  have hl := lt_of_get hk
  unfold attach
  cases par with
  | none => rw [List.getElem?_append_left hl]; simp [hk]
  | some j =>
    rw [List.getElem?_append_left (by simpa using hl)]
    by_cases hj : j = k
    · subst hj; rw [List.getElem?_modify_eq, hk]; simp
    · rw [List.getElem?_modify_ne _ _ hj, hk]; simp [hj]
theorem attach_new {D : List Node} {par : Option Nat} {K nm : Str} : (attach D par K nm)[D.length]? = some ⟨K, par, [], [], [], nm⟩ := by
  unfold attach
  cases par with
  | none => simp
  | some j => rw [List.getElem?_append_right (by simp)]; simp
theorem attach_cases {D : List Node} {par : Option Nat} {K nm : Str} {k : Nat} {n : Node} (h : (attach D par K nm)[k]? = some n) :
    (∃ n0, D[k]? = some n0 ∧ n = if par = some k then push3 (cls K) D.length n0 else n0) ∨ (k = D.length ∧ n = ⟨K, par, [], [], [], nm⟩) := by
  have hl := lt_of_get h
  rw [attach_length] at hl
  by_cases hk : k < D.length
  · obtain ⟨n0, h0⟩ := get_of_lt hk
    rw [attach_old h0] at h
    exact .inl ⟨n0, h0, (Option.some.inj h).symm⟩
  · obtain rfl : k = D.length := by omega
    rw [attach_new] at h
    exact .inr ⟨rfl, (Option.some.inj h).symm⟩
theorem push3_kind {i c : Nat} {n : Node} : (push3 i c n).kind = n.kind := by unfold push3; split <;> (try split) <;> rfl
theorem push3_par {i c : Nat} {n : Node} : (push3 i c n).par = n.par := by unfold push3; split <;> (try split) <;> rfl
theorem push3_nm {i c : Nat} {n : Node} : (push3 i c n).nm = n.nm := by unfold push3; split <;> (try split) <;> rfl
theorem lst3_push3 {i j c : Nat} {n : Node} (hi : i ≤ 2) (hj : j ≤ 2) : lst3 j (push3 i c n) = if j = i then lst3 i n ++ [c] else lst3 j n := by
  match i, j, hi, hj with
  | 0, 0, _, _ => rfl
  | 0, 1, _, _ => rfl
  | 0, 2, _, _ => rfl
  | 1, 0, _, _ => rfl
  | 1, 1, _, _ => rfl
  | 1, 2, _, _ => rfl
  | 2, 0, _, _ => rfl
  | 2, 1, _, _ => rfl
  | 2, 2, _, _ => rfl
theorem cls_le (K : Str) : cls K ≤ 2 := by unfold cls; split <;> (try split) <;> omega

abbrev Book := List (Str × List Nat)
def isPar (K : Str) : Prop := K = Str.ofString "root" ∨ K = Str.ofString "element"
structure Inv (D : List Node) (rp : Book) : Prop where
  len : rp.length = D.length
  kind : ∀ (k : Nat) (n : Node) (r : Str × List Nat), D[k]? = some n → rp[k]? = some r → r.1 = n.kind
  kinds : ∀ (k : Nat) (n : Node), D[k]? = some n → n.kind = Str.ofString "root" ∨ isChild n.kind = true ∨ cls n.kind ≠ 0
  root : ∀ (k : Nat) (n : Node), D[k]? = some n → n.kind = Str.ofString "root" → n.par = none
  par : ∀ (k : Nat) (n : Node) (j : Nat), D[k]? = some n → n.par = some j → j < k ∧ ∃ m, D[j]? = some m ∧ isPar m.kind
  path0 : ∀ (k : Nat) (n : Node) (r : Str × List Nat), D[k]? = some n → rp[k]? = some r → n.par = none → r.2 = [k]
  path1 : ∀ (k : Nat) (n : Node) (r : Str × List Nat) (j : Nat) (q : Str × List Nat), D[k]? = some n → rp[k]? = some r → n.par = some j → rp[j]? = some q → r.2 = q.2 ++ [k]
  mem : ∀ (k : Nat) (n : Node) (i c : Nat), D[k]? = some n → i ≤ 2 → (c ∈ lst3 i n ↔ ∃ m, D[c]? = some m ∧ m.par = some k ∧ cls m.kind = i)
  sorted : ∀ (k : Nat) (n : Node) (i : Nat), D[k]? = some n → i ≤ 2 → (lst3 i n).Pairwise (· < ·)

theorem Inv.row {D : List Node} {rp : Book} (I : Inv D rp) {k : Nat} {n : Node} (h : D[k]? = some n) : ∃ r, rp[k]? = some r := get_of_lt (by rw [I.len]; exact lt_of_get h)
theorem Inv.node {D : List Node} {rp : Book} (I : Inv D rp) {k : Nat} {r : Str × List Nat} (h : rp[k]? = some r) : ∃ n, D[k]? = some n := get_of_lt (by rw [← I.len]; exact lt_of_get h)

theorem Inv.attach {D : List Node} {rp : Book} (I : Inv D rp) {par : Option Nat} {K nm : Str} (hpar : ∀ j, par = some j → ∃ m, D[j]? = some m ∧ isPar m.kind) (hK : isChild K = true ∨ cls K ≠ 0) (hr : K ≠ Str.ofString "root")
    {path : List Nat} (h0 : par = none → path = []) (h1 : ∀ j q, par = some j → rp[j]? = some q → path = q.2) : Inv (attach D par K nm) (rp ++ [(K, path ++ [D.length])]) := by
  have rnew : ∀ {k : Nat} {r : Str × List Nat}, (rp ++ [(K, path ++ [D.length])])[k]? = some r → (k < D.length ∧ rp[k]? = some r) ∨ (k = D.length ∧ r = (K, path ++ [D.length])) := by
    intro k r h
    by_cases hk : k < D.length
    · rw [List.getElem?_append_left (by rw [I.len]; exact hk)] at h
      exact .inl ⟨hk, h⟩
    · have hl := lt_of_get h
      rw [List.length_append, List.length_singleton, I.len] at hl
      obtain rfl : k = D.length := by omega
      rw [List.getElem?_append_right (by rw [I.len]; exact Nat.le_refl _)] at h
      simp [I.len] at h
      exact .inr ⟨rfl, h.symm⟩
  refine ⟨by rw [List.length_append, attach_length, I.len]; rfl, ?_, ?_, ?_, ?_, ?_, ?_, ?_, ?_⟩
  · intro k n r hn hr'
    rcases attach_cases hn with ⟨n0, h0', rfl⟩ | ⟨rfl, rfl⟩
    · rcases rnew hr' with ⟨_, h2⟩ | ⟨h2, _⟩
      · have := I.kind _ _ _ h0' h2
        split <;> (try rw [push3_kind]) <;> exact this
      · have := lt_of_get h0'; omega
    · rcases rnew hr' with ⟨h2, _⟩ | ⟨_, rfl⟩
      · omega
      · rfl
  · intro k n hn
    rcases attach_cases hn with ⟨n0, h0', rfl⟩ | ⟨rfl, rfl⟩
    · have := I.kinds _ _ h0'
      split <;> (try rw [push3_kind]) <;> exact this
    · exact .inr hK
  · intro k n hn hkind
    rcases attach_cases hn with ⟨n0, h0', rfl⟩ | ⟨rfl, rfl⟩
    · have := I.root _ _ h0'
      split at hkind <;> (try rw [push3_kind] at hkind) <;> (split <;> (try rw [push3_par])) <;> exact this hkind
    · exact absurd hkind hr
  · intro k n j hn hp
    have keep : ∀ (j : Nat) (m : Node), D[j]? = some m → isPar m.kind → ∃ m', (Mine.attach D par K nm)[j]? = some m' ∧ isPar m'.kind := fun j m hm hpk => ⟨_, attach_old hm, by split <;> (try rw [push3_kind]) <;> exact hpk⟩
    rcases attach_cases hn with ⟨n0, h0', rfl⟩ | ⟨rfl, rfl⟩
    · have hp' : n0.par = some j := by split at hp <;> (try rw [push3_par] at hp) <;> exact hp
      obtain ⟨a, m, b, c⟩ := I.par _ _ _ h0' hp'
      exact ⟨a, keep j m b c⟩
    · obtain ⟨m, b, c⟩ := hpar j hp
      exact ⟨lt_of_get b, keep j m b c⟩
  · intro k n r hn hr' hp
    rcases attach_cases hn with ⟨n0, h0', rfl⟩ | ⟨rfl, rfl⟩
    · have hp' : n0.par = none := by split at hp <;> (try rw [push3_par] at hp) <;> exact hp
      rcases rnew hr' with ⟨_, h2⟩ | ⟨h2, _⟩
      · exact I.path0 _ _ _ h0' h2 hp'
      · have := lt_of_get h0'; omega
    · rcases rnew hr' with ⟨h2, _⟩ | ⟨_, rfl⟩
      · omega
      · rw [h0 hp]; rfl
  · intro k n r j q hn hr' hp hq
    rcases attach_cases hn with ⟨n0, h0', rfl⟩ | ⟨rfl, rfl⟩
    · have hp' : n0.par = some j := by split at hp <;> (try rw [push3_par] at hp) <;> exact hp
      have hj := (I.par _ _ _ h0' hp').1
      have hkl := lt_of_get h0'
      rcases rnew hr' with ⟨_, h2⟩ | ⟨h2, _⟩
      · rcases rnew hq with ⟨_, h3⟩ | ⟨h3, _⟩
        · exact I.path1 _ _ _ _ _ h0' h2 hp' h3
        · omega
      · omega
    · rcases rnew hr' with ⟨h2, _⟩ | ⟨_, rfl⟩
      · omega
      · obtain ⟨m, b, _⟩ := hpar j hp
        have hjl := lt_of_get b
        rcases rnew hq with ⟨_, h3⟩ | ⟨h3, _⟩
        · rw [h1 j q hp h3]
        · omega
  · intro k n i c hn hi
    have old : ∀ c, c < D.length → ((∃ m, (Mine.attach D par K nm)[c]? = some m ∧ m.par = some k ∧ cls m.kind = i) ↔ ∃ m, D[c]? = some m ∧ m.par = some k ∧ cls m.kind = i) := by
      intro c hc
      obtain ⟨m0, hm0⟩ := get_of_lt hc
      rw [attach_old hm0, hm0]
      constructor
      · rintro ⟨m, e, a, b⟩
        obtain rfl := Option.some.inj e
        refine ⟨m0, rfl, ?_, ?_⟩
        · split at a <;> (try rw [push3_par] at a) <;> exact a
        · split at b <;> (try rw [push3_kind] at b) <;> exact b
      · rintro ⟨m, e, a, b⟩
        obtain rfl := Option.some.inj e
        exact ⟨_, rfl, by split <;> (try rw [push3_par]) <;> exact a, by split <;> (try rw [push3_kind]) <;> exact b⟩
    have new : (∃ m, (Mine.attach D par K nm)[D.length]? = some m ∧ m.par = some k ∧ cls m.kind = i) ↔ par = some k ∧ cls K = i := by
      rw [attach_new]
      constructor
      · rintro ⟨m, e, a, b⟩
        obtain rfl := Option.some.inj e
        exact ⟨a, b⟩
      · rintro ⟨a, b⟩; exact ⟨_, rfl, a, b⟩
    have big : ∀ c, D.length < c → ¬ ∃ m, (Mine.attach D par K nm)[c]? = some m ∧ m.par = some k ∧ cls m.kind = i := by
      rintro c hc ⟨m, e, _⟩
      have := lt_of_get e
      rw [attach_length] at this; omega
    rcases attach_cases hn with ⟨n0, h0', rfl⟩ | ⟨rfl, rfl⟩
    · have hmem := fun c => I.mem k n0 i c h0' hi
      have hlt : ∀ c, c ∈ lst3 i n0 → c < D.length := fun c hc => let ⟨m, e, _⟩ := (hmem c).mp hc; lt_of_get e
      by_cases hpk : par = some k
      · rw [if_pos hpk, lst3_push3 (cls_le K) hi]
        by_cases hik : i = cls K
        · rw [if_pos hik, ← hik, List.mem_append, List.mem_singleton]
          rcases Nat.lt_trichotomy c D.length with hc | hc | hc
          · rw [old c hc, hmem c]; constructor
            · rintro (h | h)
              · exact h
              · omega
            · exact .inl
          · rw [hc, new]; exact ⟨fun _ => ⟨hpk, hik.symm⟩, fun _ => .inr rfl⟩
          · refine ⟨fun h => ?_, fun h => absurd h (big c hc)⟩
            rcases h with h | h
            · have := hlt c h; omega
            · omega
        · rw [if_neg hik]
          rcases Nat.lt_trichotomy c D.length with hc | hc | hc
          · rw [old c hc, hmem c]
          · rw [hc, new]
            exact ⟨fun h => by have := hlt _ h; omega, fun h => absurd h.2.symm hik⟩
          · exact ⟨fun h => by have := hlt c h; omega, fun h => absurd h (big c hc)⟩
      · rw [if_neg hpk]
        rcases Nat.lt_trichotomy c D.length with hc | hc | hc
        · rw [old c hc, hmem c]
        · rw [hc, new]
          exact ⟨fun h => by have := hlt _ h; omega, fun h => absurd h.1 hpk⟩
        · exact ⟨fun h => by have := hlt c h; omega, fun h => absurd h (big c hc)⟩
    · have hempty : lst3 i ⟨K, par, [], [], [], nm⟩ = [] := by unfold lst3; split <;> (try split) <;> rfl
      rw [hempty]
      refine ⟨fun h => (nomatch h), fun h => ?_⟩
      rcases Nat.lt_trichotomy c D.length with hc | hc | hc
      · obtain ⟨m, e, a, _⟩ := (old c hc).mp h
        have := (I.par _ _ _ e a).1
        omega
      · rw [hc, new] at h
        obtain ⟨m, b, _⟩ := hpar _ h.1
        have := lt_of_get b
        omega
      · exact absurd h (big c hc)
  · intro k n i hn hi
    rcases attach_cases hn with ⟨n0, h0', rfl⟩ | ⟨rfl, rfl⟩
    · have hs := I.sorted k n0 i h0' hi
      split
      · rw [lst3_push3 (cls_le K) hi]
        split
        · rename_i e
          rw [← e, List.pairwise_append]
          refine ⟨hs, List.pairwise_singleton _ _, fun a ha b hb => ?_⟩
          rw [List.mem_singleton.mp hb]
          obtain ⟨m, e, _⟩ := (I.mem k n0 i a h0' hi).mp ha
          exact lt_of_get e
        · exact hs
      · exact hs
    · have hempty : lst3 i ⟨K, par, [], [], [], nm⟩ = [] := by unfold lst3; split <;> (try split) <;> rfl
      rw [hempty]; exact .nil
theorem quiet_M26 : True := by
  w_top off
  trivial
section
variable {D : List Node} {rp : Book} (I : Inv D rp)
include I
theorem Inv.last {k : Nat} {n : Node} {r : Str × List Nat} (hn : D[k]? = some n) (hr : rp[k]? = some r) : r.2 = r.2.dropLast ++ [k] := by
  cases hp : n.par with
  | none => rw [I.path0 _ _ _ hn hr hp]; rfl
  | some j =>
    obtain ⟨_, m, hm, _⟩ := I.par _ _ _ hn hp
    obtain ⟨q, hq⟩ := I.row hm
    rw [I.path1 _ _ _ _ _ hn hr hp hq, List.dropLast_concat]
theorem Inv.ne {k : Nat} {r : Str × List Nat} (hr : rp[k]? = some r) : r.2 ≠ [] := by
  obtain ⟨n, hn⟩ := I.node hr
  rw [I.last hn hr]; simp
theorem Inv.lastD {k : Nat} {r : Str × List Nat} (hr : rp[k]? = some r) : r.2.getLastD 0 = k := by
  obtain ⟨n, hn⟩ := I.node hr
  rw [I.last hn hr]; simp
theorem Inv.nodup : (rp.map (·.2)).Nodup := by
  rw [List.nodup_iff_pairwise_ne, List.pairwise_map, List.pairwise_iff_getElem]
  intro i j hi hj hij e
  have h1 := I.lastD (List.getElem?_eq_getElem hi)
  have h2 := I.lastD (List.getElem?_eq_getElem hj)
  rw [e] at h1
  omega
theorem Inv.up : ∀ (k : Nat) (n : Node) (r : Str × List Nat), D[k]? = some n → rp[k]? = some r → Up D n.par r.2.dropLast.reverse := by
  intro k
  induction k using Nat.strongRecOn with
  | _ k ih =>
    intro n r hn hr
    cases hp : n.par with
    | none => rw [I.path0 _ _ _ hn hr hp]; exact .nil
    | some j =>
      obtain ⟨hj, m, hm, _⟩ := I.par _ _ _ hn hp
      obtain ⟨q, hq⟩ := I.row hm
      rw [I.path1 _ _ _ _ _ hn hr hp hq, List.dropLast_concat, I.last hm hq, List.reverse_append]
      exact .cons hm (ih j hj m q hm hq)
/-- a node in another's way: its own way is the head of that way -/
theorem Inv.prefix : ∀ (k : Nat) (r : Str × List Nat) (g : Nat) (q : Str × List Nat), rp[k]? = some r → rp[g]? = some q → g ∈ r.2 → q.2 <+: r.2 := by
  intro k
  induction k using Nat.strongRecOn with
  | _ k ih =>
    intro r g q hr hq hg
    obtain ⟨n, hn⟩ := I.node hr
    cases hp : n.par with
    | none =>
      rw [I.path0 _ _ _ hn hr hp] at hg
      obtain rfl : g = k := by simpa using hg
      rw [hr] at hq
      rw [Option.some.inj hq]; exact List.prefix_refl _
    | some j =>
      obtain ⟨hj, m, hm, _⟩ := I.par _ _ _ hn hp
      obtain ⟨q', hq'⟩ := I.row hm
      have e := I.path1 _ _ _ _ _ hn hr hp hq'
      rw [e, List.mem_append, List.mem_singleton] at hg
      rcases hg with hg | rfl
      · rw [e]
        exact (ih j hj q' g q hq' hq hg).trans (List.prefix_append _ _)
      · rw [hr] at hq
        rw [Option.some.inj hq]; exact List.prefix_refl _
theorem Inv.mem_lt {k g : Nat} {r : Str × List Nat} (hr : rp[k]? = some r) (hg : g ∈ r.2) : g ≤ k := by
  induction k using Nat.strongRecOn generalizing r with
  | _ k ih =>
    obtain ⟨n, hn⟩ := I.node hr
    cases hp : n.par with
    | none =>
      rw [I.path0 _ _ _ hn hr hp] at hg
      simp at hg; omega
    | some j =>
      obtain ⟨hj, m, hm, _⟩ := I.par _ _ _ hn hp
      obtain ⟨q', hq'⟩ := I.row hm
      rw [I.path1 _ _ _ _ _ hn hr hp hq', List.mem_append, List.mem_singleton] at hg
      rcases hg with hg | rfl
      · have := ih j hj hq' hg; omega
      · exact Nat.le_refl _
theorem Inv.len_le {k : Nat} {r : Str × List Nat} (hr : rp[k]? = some r) : r.2.length ≤ k + 1 := by
  induction k using Nat.strongRecOn generalizing r with
  | _ k ih =>
    obtain ⟨n, hn⟩ := I.node hr
    cases hp : n.par with
    | none => rw [I.path0 _ _ _ hn hr hp]; simp
    | some j =>
      obtain ⟨hj, m, hm, _⟩ := I.par _ _ _ hn hp
      obtain ⟨q', hq'⟩ := I.row hm
      rw [I.path1 _ _ _ _ _ hn hr hp hq', List.length_append, List.length_singleton]
      have := ih j hj hq'; omega
end

def wayOf (rp : Book) (k : Nat) : List Nat := (rp[k]?.map (·.2)).getD []
theorem wayOf_eq {rp : Book} {k : Nat} {r : Str × List Nat} (h : rp[k]? = some r) : wayOf rp k = r.2 := by simp [wayOf, h]
/-- what lies within k -/
def InOf (D : List Node) (rp : Book) (k o : Nat) : Prop := ∃ m r, D[o]? = some m ∧ rp[o]? = some r ∧ o ≠ k ∧ k ∈ r.2 ∧ isChild m.kind = true

theorem Pre.app {D : List Node} {a b x y : List Nat} (h : Pre D a x) (h' : Pre D b y) : Pre D (a ++ b) (x ++ y) := by
  induction h with
  | nil => exact h'
  | cons hk _ ih => exact .cons hk (by rw [List.append_assoc] at ih; exact ih)
theorem pre_flat {D : List Node} {d : Nat → List Nat} : ∀ (l : List Nat), (∀ c ∈ l, ∃ n, D[c]? = some n ∧ Pre D n.ch (d c)) → Pre D l (l.flatMap fun c => c :: d c)
  | [], _ => .nil
  | c :: r, h => by
    obtain ⟨n, hn, hp⟩ := h c (.head _)
    exact .cons hn (hp.app (pre_flat r fun c hc => h c (.tail _ hc)))

theorem nats_lt_append {a b : List Nat} (h : b ≠ []) : nats a < nats (a ++ b) := by
  induction a with
  | nil => cases b with
    | nil => exact absurd rfl h
    | cons x t => exact List.nil_lt_cons _ _
  | cons x t ih => exact List.cons_lt_cons_iff.mpr (.inr ⟨rfl, ih⟩)
theorem nats_lt_at {a b c : List Nat} {x y : Nat} (h : x < y) : nats (a ++ x :: b) < nats (a ++ y :: c) := by
  induction a with
  | nil => exact List.cons_lt_cons_iff.mpr (.inl (by exact Int.ofNat_lt.mpr h))
  | cons z t ih => exact List.cons_lt_cons_iff.mpr (.inr ⟨rfl, ih⟩)

theorem isChild_cls {K : Str} (h : isChild K = true) : cls K = 0 := by
  unfold isChild childKinds at h
  simp only [List.any_cons, List.any_nil, Bool.or_false, Bool.or_eq_true, beq_iff_eq] at h
  rcases h with rfl | rfl | rfl | rfl <;> rfl
theorem not_root {K : Str} (h : isChild K = true) : K ≠ Str.ofString "root" := by
  rintro rfl
  revert h; decide

section
variable {D : List Node} {rp : Book} (I : Inv D rp)
include I
theorem Inv.child {k c : Nat} {n : Node} (hn : D[k]? = some n) (hc : c ∈ n.ch) : k < c ∧ ∃ m, D[c]? = some m ∧ m.par = some k ∧ isChild m.kind = true := by
  obtain ⟨m, hm, hp, hk⟩ := (I.mem k n 0 c hn (by omega)).mp hc
  refine ⟨(I.par _ _ _ hm hp).1, m, hm, hp, ?_⟩
  rcases I.kinds _ _ hm with h | h | h
  · have := I.root _ _ hm h; rw [hp] at this; cases this
  · exact h
  · exact absurd hk h
theorem Inv.below {k : Nat} {n : Node} (hn : D[k]? = some n) : ∀ (o : Nat), InOf D rp k o → ∃ c ∈ n.ch, o = c ∨ InOf D rp c o := by
  intro o
  induction o using Nat.strongRecOn with
  | _ o ih =>
    rintro ⟨m, r, hm, hr, hne, hk, hch⟩
    cases hp : m.par with
    | none =>
      rw [I.path0 _ _ _ hm hr hp] at hk
      exact absurd (by simpa using hk) (Ne.symm hne)
    | some j =>
      obtain ⟨hj, mj, hmj, hpk⟩ := I.par _ _ _ hm hp
      obtain ⟨q, hq⟩ := I.row hmj
      have e := I.path1 _ _ _ _ _ hm hr hp hq
      have hkq : k ∈ q.2 := by
        rw [e, List.mem_append, List.mem_singleton] at hk
        rcases hk with h | h
        · exact h
        · exact absurd h.symm hne
      by_cases hjk : j = k
      · subst hjk
        exact ⟨o, (I.mem j n 0 o hn (by omega)).mpr ⟨m, hm, hp, isChild_cls hch⟩, .inl rfl⟩
      · have hjc : isChild mj.kind = true := by
          rcases hpk with h | h
          · have h0 := I.root _ _ hmj h
            rw [I.path0 _ _ _ hmj hq h0] at hkq
            exact absurd (by simpa using hkq) (Ne.symm hjk)
          · rw [h]; decide
        obtain ⟨c, hc, hx⟩ := ih j hj ⟨mj, q, hmj, hq, hjk, hkq, hjc⟩
        have hcq : c ∈ q.2 := by
          rcases hx with rfl | ⟨_, q2, _, hq2, _, h, _⟩
          · rw [I.last hmj hq]; simp
          · rw [hq] at hq2; rw [Option.some.inj hq2]; exact h
        have hcj := I.mem_lt hq hcq
        exact ⟨c, hc, .inr ⟨m, r, hm, hr, by omega, by rw [e]; exact List.mem_append_left _ hcq, hch⟩⟩
theorem Inv.self_in {k : Nat} {r : Str × List Nat} (hr : rp[k]? = some r) : k ∈ r.2 := by
  obtain ⟨n, hn⟩ := I.node hr
  rw [I.last hn hr]; simp
theorem Inv.within : ∀ (f k : Nat) (n : Node), D.length ≤ k + f → D[k]? = some n → ∃ out, Pre D n.ch out ∧ (∀ o, o ∈ out ↔ InOf D rp k o) ∧ (out.map (wayOf rp)).Pairwise (fun a b => nats a < nats b)
  | 0, k, n, hf, hn => by have := lt_of_get hn; omega
  | f + 1, k, n, hf, hn => by
    have H : ∀ c ∈ n.ch, ∃ out, ∃ m, D[c]? = some m ∧ Pre D m.ch out ∧ (∀ o, o ∈ out ↔ InOf D rp c o) ∧ (out.map (wayOf rp)).Pairwise (fun a b => nats a < nats b) := by
      intro c hc
      obtain ⟨h1, m, hm, _⟩ := I.child hn hc
      obtain ⟨out, h2⟩ := Inv.within f c m (by omega) hm
      exact ⟨out, m, hm, h2⟩
    obtain ⟨d, hd⟩ : ∃ d : Nat → List Nat, ∀ c ∈ n.ch, ∃ m, D[c]? = some m ∧ Pre D m.ch (d c) ∧ (∀ o, o ∈ d c ↔ InOf D rp c o) ∧ ((d c).map (wayOf rp)).Pairwise (fun a b => nats a < nats b) :=
      ⟨fun c => if h : c ∈ n.ch then Classical.choose (H c h) else [], fun c hc => by simp only [hc, dif_pos]; exact Classical.choose_spec (H c hc)⟩
    obtain ⟨rk, hrk⟩ := I.row hn
    have wayc : ∀ c ∈ n.ch, ∃ rc, rp[c]? = some rc ∧ wayOf rp c = rk.2 ++ [c] ∧ rc.2 = rk.2 ++ [c] := by
      intro c hc
      obtain ⟨_, m, hm, hp, _⟩ := I.child hn hc
      obtain ⟨rc, hrc⟩ := I.row hm
      have e := I.path1 _ _ _ _ _ hm hrc hp hrk
      exact ⟨rc, hrc, by rw [wayOf_eq hrc, e], e⟩
    have head : ∀ c ∈ n.ch, ∀ x ∈ c :: d c, ∃ t, wayOf rp x = rk.2 ++ c :: t := by
      intro c hc x hx
      obtain ⟨rc, hrc, e1, e2⟩ := wayc c hc
      rcases List.mem_cons.mp hx with rfl | hx
      · exact ⟨[], by rw [e1]⟩
      · obtain ⟨m, _, _, hmem, _⟩ := hd c hc
        obtain ⟨mo, ro, _, hro, _, hco, _⟩ := (hmem x).mp hx
        obtain ⟨t, ht⟩ := I.prefix x ro c rc hro hrc hco
        exact ⟨t, by rw [wayOf_eq hro, ← ht, e2]; simp⟩
    refine ⟨n.ch.flatMap fun c => c :: d c, pre_flat _ (fun c hc => let ⟨m, hm, hp, _⟩ := hd c hc; ⟨m, hm, hp⟩), fun o => ?_, ?_⟩
    · rw [List.mem_flatMap]
      constructor
      · rintro ⟨c, hc, ho⟩
        obtain ⟨hkc, m, hm, hp, hch⟩ := I.child hn hc
        obtain ⟨rc, hrc, e1, e2⟩ := wayc c hc
        have hkc2 : k ∈ rc.2 := by rw [e2]; exact List.mem_append_left _ (I.self_in hrk)
        rcases List.mem_cons.mp ho with rfl | ho
        · exact ⟨m, rc, hm, hrc, by omega, hkc2, hch⟩
        · obtain ⟨_, _, _, hmem, _⟩ := hd c hc
          obtain ⟨mo, ro, hmo, hro, hne, hco, hcho⟩ := (hmem o).mp ho
          have := I.mem_lt hro hco
          exact ⟨mo, ro, hmo, hro, by omega, (I.prefix o ro c rc hro hrc hco).subset hkc2, hcho⟩
      · intro h
        obtain ⟨c, hc, hx⟩ := I.below hn o h
        refine ⟨c, hc, ?_⟩
        rcases hx with rfl | hx
        · exact .head _
        · obtain ⟨_, _, _, hmem, _⟩ := hd c hc
          exact .tail _ ((hmem o).mpr hx)
    · rw [List.pairwise_map, List.pairwise_flatMap]
      refine ⟨fun c hc => ?_, ?_⟩
      · obtain ⟨rc, hrc, e1, e2⟩ := wayc c hc
        obtain ⟨m, _, _, hmem, hsort⟩ := hd c hc
        refine List.pairwise_cons.mpr ⟨fun o ho => ?_, by rw [List.pairwise_map] at hsort; exact hsort⟩
        obtain ⟨mo, ro, _, hro, hne, hco, _⟩ := (hmem o).mp ho
        obtain ⟨t, ht⟩ := I.prefix o ro c rc hro hrc hco
        rw [wayOf_eq hro, ← ht, wayOf_eq hrc]
        refine nats_lt_append ?_
        rintro rfl
        rw [List.append_nil] at ht
        have l1 := I.lastD hro
        rw [← ht, I.lastD hrc] at l1
        exact hne l1.symm
      · refine List.Pairwise.imp_of_mem (R := (· < ·)) (fun {c1 c2} h1 h2 hlt x hx y hy => ?_) (I.sorted k n 0 hn (by omega))
        obtain ⟨t1, e1⟩ := head c1 h1 x hx
        obtain ⟨t2, e2⟩ := head c2 h2 y hy
        rw [e1, e2]
        exact nats_lt_at hlt
end
theorem quiet_M27 : True := by
  w_top off
  trivial
def loosen (rp : Book) (g d : Nat) : Book := rp.map fun r => if g ∈ r.2 then (r.1, r.2.drop d) else r
theorem loosen_get {rp : Book} {g d k : Nat} {r : Str × List Nat} (h : rp[k]? = some r) : (loosen rp g d)[k]? = some (if g ∈ r.2 then (r.1, r.2.drop d) else r) := by
  unfold loosen; rw [List.getElem?_map, h]; rfl
theorem loosen_cases {rp : Book} {g d k : Nat} {r : Str × List Nat} (h : (loosen rp g d)[k]? = some r) : ∃ r0, rp[k]? = some r0 ∧ r = if g ∈ r0.2 then (r0.1, r0.2.drop d) else r0 := by
  unfold loosen at h
  rw [List.getElem?_map] at h
  cases hr : rp[k]? with
  | none => rw [hr] at h; cases h
  | some r0 => rw [hr] at h; exact ⟨r0, rfl, (Option.some.inj h).symm⟩
theorem off_kind {K : Str} {g : Nat} {n : Node} : (offList K g n).kind = n.kind := by unfold offList; split <;> (try split) <;> rfl
theorem off_par {K : Str} {g : Nat} {n : Node} : (offList K g n).par = n.par := by unfold offList; split <;> (try split) <;> rfl
theorem off_lst {K : Str} {g i : Nat} {n : Node} (hi : i ≤ 2) : lst3 i (offList K g n) = if i = cls K then (lst3 i n).erase g else lst3 i n := by
  unfold offList cls
  by_cases h1 : K = Str.ofString "attribute"
  · rw [if_pos h1, if_pos h1]
    match i, hi with
    | 0, _ => rfl
    | 1, _ => rfl
    | 2, _ => rfl
  · rw [if_neg h1, if_neg h1]
    by_cases h2 : K = Str.ofString "namespace"
    · rw [if_pos h2, if_pos h2]
      match i, hi with
      | 0, _ => rfl
      | 1, _ => rfl
      | 2, _ => rfl
    · rw [if_neg h2, if_neg h2]
      match i, hi with
      | 0, _ => rfl
      | 1, _ => rfl
      | 2, _ => rfl
theorem cut_length {D : List Node} {g j : Nat} {K : Str} : (cut D g j K).length = D.length := by simp [cut]
theorem cut_get {D : List Node} {g j k : Nat} {K : Str} {n : Node} (hgj : g ≠ j) (h : D[k]? = some n) : (cut D g j K)[k]? = some (if k = g then { n with par := none } else if k = j then offList K g n else n) := by
  unfold cut
  by_cases h1 : k = g
  · subst h1
    rw [List.getElem?_modify_eq, List.getElem?_modify_ne _ _ (Ne.symm hgj), h]; simp
  · rw [List.getElem?_modify_ne _ _ (Ne.symm h1), if_neg h1]
    by_cases h2 : k = j
    · subst h2
      rw [List.getElem?_modify_eq, h]; simp
    · rw [List.getElem?_modify_ne _ _ (Ne.symm h2), h, if_neg h2]
theorem cut_cases {D : List Node} {g j k : Nat} {K : Str} {n : Node} (hgj : g ≠ j) (h : (cut D g j K)[k]? = some n) : ∃ n0, D[k]? = some n0 ∧ n = if k = g then { n0 with par := none } else if k = j then offList K g n0 else n0 := by
  obtain ⟨n0, h0⟩ := get_of_lt (l := D) (k := k) (by have := lt_of_get h; rwa [cut_length] at this)
  rw [cut_get hgj h0] at h
  exact ⟨n0, h0, (Option.some.inj h).symm⟩
theorem cut_kind {g j k : Nat} {K : Str} {n : Node} : (if k = g then { n with par := none } else if k = j then offList K g n else n).kind = n.kind := by
  split
  · rfl
  · split
    · exact off_kind
    · rfl
theorem cut_par {g j k : Nat} {K : Str} {n : Node} : (if k = g then { n with par := none } else if k = j then offList K g n else n).par = if k = g then none else n.par := by
  split
  · rfl
  · split
    · exact off_par
    · rfl

theorem Inv.cut {D : List Node} {rp : Book} (I : Inv D rp) {g j : Nat} {n : Node} {rg : Str × List Nat} (hn : D[g]? = some n) (hp : n.par = some j) (hr : rp[g]? = some rg) :
    Inv (cut D g j n.kind) (loosen rp g (rg.2.length - 1)) := by
  have hgj : g ≠ j := by have := (I.par _ _ _ hn hp).1; omega
  refine ⟨by rw [cut_length]; unfold loosen; rw [List.length_map]; exact I.len, ?_, ?_, ?_, ?_, ?_, ?_, ?_, ?_⟩
  · intro k m r hm hr'
    obtain ⟨m0, h0, rfl⟩ := cut_cases hgj hm
    obtain ⟨r0, h1, rfl⟩ := loosen_cases hr'
    rw [cut_kind]
    have := I.kind _ _ _ h0 h1
    split <;> exact this
  · intro k m hm
    obtain ⟨m0, h0, rfl⟩ := cut_cases hgj hm
    rw [cut_kind]; exact I.kinds _ _ h0
  · intro k m hm hk
    obtain ⟨m0, h0, rfl⟩ := cut_cases hgj hm
    rw [cut_kind] at hk
    rw [cut_par, I.root _ _ h0 hk]; simp
  · intro k m j' hm hp'
    obtain ⟨m0, h0, rfl⟩ := cut_cases hgj hm
    rw [cut_par] at hp'
    by_cases hk : k = g
    · rw [if_pos hk] at hp'; cases hp'
    · rw [if_neg hk] at hp'
      obtain ⟨a, mj, b, c⟩ := I.par _ _ _ h0 hp'
      exact ⟨a, _, cut_get hgj b, by rw [cut_kind]; exact c⟩
  · intro k m r hm hr' hp'
    obtain ⟨m0, h0, rfl⟩ := cut_cases hgj hm
    obtain ⟨r0, h1, rfl⟩ := loosen_cases hr'
    rw [cut_par] at hp'
    by_cases hk : k = g
    · subst hk
      rw [hr] at h1
      obtain rfl := Option.some.inj h1
      rw [if_pos (I.self_in hr)]
      show rg.2.drop _ = [k]
      have e := I.last hn hr
      rw [e]
      simp
    · rw [if_neg hk] at hp'
      have e := I.path0 _ _ _ h0 h1 hp'
      rw [if_neg (by rw [e]; simpa using Ne.symm hk)]
      exact e
  · intro k m r j' q hm hr' hp' hq'
    obtain ⟨m0, h0, rfl⟩ := cut_cases hgj hm
    obtain ⟨r0, h1, rfl⟩ := loosen_cases hr'
    obtain ⟨q0, h2, rfl⟩ := loosen_cases hq'
    rw [cut_par] at hp'
    by_cases hk : k = g
    · rw [if_pos hk] at hp'; cases hp'
    · rw [if_neg hk] at hp'
      have e := I.path1 _ _ _ _ _ h0 h1 hp' h2
      by_cases hg : g ∈ q0.2
      · rw [if_pos hg, if_pos (by rw [e]; exact List.mem_append_left _ hg)]
        have hle := (I.prefix _ _ _ _ h2 hr hg).length_le
        show r0.2.drop _ = q0.2.drop _ ++ [k]
        rw [e, List.drop_append_of_le_length (by omega)]
      · rw [if_neg hg, if_neg (by rw [e, List.mem_append, List.mem_singleton]; rintro (h | h); exact hg h; exact hk h.symm)]
        exact e
  · intro k m i c hm hi
    obtain ⟨m0, h0, rfl⟩ := cut_cases hgj hm
    have hmem := I.mem k m0 i c h0 hi
    have hR : (∃ m, (Mine.cut D g j n.kind)[c]? = some m ∧ m.par = some k ∧ cls m.kind = i) ↔ c ≠ g ∧ c ∈ lst3 i m0 := by
      rw [hmem]
      constructor
      · rintro ⟨m, hm', a, b⟩
        obtain ⟨m1, h3, rfl⟩ := cut_cases hgj hm'
        rw [cut_par] at a
        rw [cut_kind] at b
        by_cases hc : c = g
        · rw [if_pos hc] at a; cases a
        · rw [if_neg hc] at a; exact ⟨hc, m1, h3, a, b⟩
      · rintro ⟨hc, m1, h3, a, b⟩
        exact ⟨_, cut_get hgj h3, by rw [cut_par, if_neg hc]; exact a, by rw [cut_kind]; exact b⟩
    rw [hR]
    have self : g ∈ lst3 i m0 → k = j ∧ cls n.kind = i := fun h => by
      obtain ⟨m1, h3, a, b⟩ := (I.mem k m0 i g h0 hi).mp h
      rw [hn] at h3
      obtain rfl := Option.some.inj h3
      rw [hp] at a
      exact ⟨(Option.some.inj a).symm, b⟩
    by_cases hkg : k = g
    · rw [if_pos hkg]
      have : lst3 i { m0 with par := none } = lst3 i m0 := rfl
      rw [this]
      refine ⟨fun h => ⟨?_, h⟩, fun h => h.2⟩
      rintro rfl
      exact hgj (hkg.symm.trans (self h).1)
    · rw [if_neg hkg]
      by_cases hkj : k = j
      · rw [if_pos hkj, off_lst hi]
        by_cases hiK : i = cls n.kind
        · rw [if_pos hiK]
          have nd : (lst3 i m0).Nodup := (I.sorted k m0 i h0 hi).imp fun h => Nat.ne_of_lt h
          rw [nd.mem_erase_iff]
        · rw [if_neg hiK]
          refine ⟨fun h => ⟨?_, h⟩, fun h => h.2⟩
          rintro rfl
          exact hiK (self h).2.symm
      · rw [if_neg hkj]
        refine ⟨fun h => ⟨?_, h⟩, fun h => h.2⟩
        rintro rfl
        exact hkj (self h).1
  · intro k m i hm hi
    obtain ⟨m0, h0, rfl⟩ := cut_cases hgj hm
    have hs := I.sorted k m0 i h0 hi
    split
    · exact hs
    · split
      · rw [off_lst hi]
        split
        · exact hs.sublist List.erase_sublist
        · exact hs
      · exact hs
theorem quiet_M28 : True := by
  w_top off
  trivial
/-- the book that rows tell -/
def bookOf (R : Rs) : Book := R.rs.map fun r => (r.kind, r.path)
theorem book_get {R : Rs} {k : Nat} {r : Rw} (h : R.rs[k]? = some r) : (bookOf R)[k]? = some (r.kind, r.path) := by simp [bookOf, h]
theorem book_row {R : Rs} {k : Nat} {q : Str × List Nat} (h : (bookOf R)[k]? = some q) : ∃ r, R.rs[k]? = some r ∧ q = (r.kind, r.path) := by
  unfold bookOf at h
  rw [List.getElem?_map] at h
  cases hr : R.rs[k]? with
  | none => rw [hr] at h; cases h
  | some r => rw [hr] at h; exact ⟨r, rfl, (Option.some.inj h).symm⟩
theorem lt_nodup {ps : List (List Nat)} (h : ps.Pairwise (fun a b => nats a < nats b)) : ps.Nodup := by
  rw [List.nodup_iff_pairwise_ne]
  exact h.imp fun {a b} hab e => by rw [e] at hab; exact List.lt_irrefl _ hab

theorem Inv.lasts {D : List Node} {R : Rs} (I : Inv D (bookOf R)) {k : Nat} {n : Node} (hn : D[k]? = some n) : ∃ out, Pre D n.ch out ∧ out.length ≤ D.length ∧ Lasts (withinPaths R k) out := by
  obtain ⟨out, hpre, hmem, hsort⟩ := I.within D.length k n (Nat.le_add_left _ _) hn
  have hin : ∀ p, p ∈ withinPaths R k ↔ ∃ o, InOf D (bookOf R) k o ∧ p = wayOf (bookOf R) o := by
    intro p
    unfold withinPaths
    rw [List.mem_map]
    constructor
    · rintro ⟨⟨r, o⟩, hq, rfl⟩
      obtain ⟨h1, h2⟩ := List.mem_filter.mp hq
      have hr : R.rs[o]? = some r := by simpa using List.mem_zipIdx_iff_getElem?.mp h1
      obtain ⟨m, hm⟩ := I.node (book_get hr)
      simp only [Mine.within, Bool.and_eq_true, decide_eq_true_eq] at h2
      have hk := I.kind _ _ _ hm (book_get hr)
      exact ⟨o, ⟨m, _, hm, book_get hr, h2.1.1, h2.1.2, by rw [← hk]; exact h2.2⟩, by rw [wayOf_eq (book_get hr)]⟩
    · rintro ⟨o, ⟨m, q, hm, hq, hne, hk, hc⟩, rfl⟩
      obtain ⟨r, hr, rfl⟩ := book_row hq
      have hkd := I.kind _ _ _ hm hq
      refine ⟨(r, o), List.mem_filter.mpr ⟨List.mem_zipIdx_iff_getElem?.mpr (by simpa using hr), ?_⟩, by rw [wayOf_eq hq]⟩
      simp only [Mine.within, Bool.and_eq_true, decide_eq_true_eq]
      exact ⟨⟨hne, hk⟩, by rw [← hkd] at hc; exact hc⟩
  have hnd : (R.rs.map (·.path)).Nodup := by
    have := I.nodup
    unfold bookOf at this
    rw [List.map_map] at this
    exact this
  have hperm : (withinPaths R k).Perm (out.map (wayOf (bookOf R))) := by
    rw [List.perm_ext_iff_of_nodup (within_nodup hnd) (lt_nodup hsort)]
    intro p
    rw [hin p, List.mem_map]
    exact ⟨fun ⟨o, h, e⟩ => ⟨o, (hmem o).mpr h, e.symm⟩, fun ⟨o, h, e⟩ => ⟨o, (hmem o).mp h, e.symm⟩⟩
  refine ⟨out, hpre, ?_, fun ps' hp hs => ?_⟩
  · have h1 := hperm.length_eq
    rw [List.length_map] at h1
    rw [← h1, ← I.len]
    unfold withinPaths bookOf
    rw [List.length_map, List.length_map]
    exact Nat.le_trans (List.length_filter_le _ _) (by simp)
  · have e : ps' = out.map (wayOf (bookOf R)) := (hp.trans hperm).eq_of_pairwise (fun a b _ _ h1 h2 => absurd (List.lt_trans h1 h2) (List.lt_irrefl _)) hs hsort
    rw [e, List.map_map]
    refine (List.map_congr_left fun o ho => ?_).trans (List.map_id _)
    obtain ⟨m, q, _, hq, _⟩ := (hmem o).mp ho
    show (wayOf (bookOf R) o).getLastD 0 = o
    rw [wayOf_eq hq]
    exact I.lastD hq
theorem quiet_M29 : True := by
  w_top off
  trivial
theorem new_tree {P : Params} {h₀ h : Heap} {L x d l : Addr} {t : Tok} {news : List (Addr × Obj)}
    (N : News h₀ L h ((l, listOf #[] 0) :: (x, instObj 295 d) :: (d, dictOf [⟨PyData.keyHash P (Str.ofString "rows"), .str (Str.ofString "rows") t, .ref l⟩] 1) :: news))
    (hap : Ap news) (h1 : ∀ q ∈ news, q.1 < d) (h2 : @LT.lt Nat _ d x) (h3 : @LT.lt Nat _ x l) :
    ∃ T : Tr, T.t = x ∧ T.nodes = [] ∧ News h₀ L h (trObjs P T ++ news) ∧ Ap (trObjs P T ++ news) := by
  refine ⟨⟨x, d, l, t, [], 0⟩, rfl, rfl, News.of N ?_, ?_⟩
  · intro q hq
    simp only [trObjs, List.map_nil, List.flatMap_nil, List.cons_append, List.nil_append, List.mem_cons] at hq
    rcases hq with rfl | rfl | rfl | hq
    · exact .tail _ (.head _)
    · exact .tail _ (.tail _ (.head _))
    · exact .head _
    · exact .tail _ (.tail _ (.tail _ hq))
  · have lt : ∀ y, d ≤ y → y ∉ news.map (·.1) := fun y hy hm => by
      obtain ⟨q, hq, e⟩ := List.mem_map.mp hm
      have := h1 q hq
      rw [e] at this
      exact absurd this (Nat.not_lt.mpr hy)
    unfold Ap at *
    simp only [trObjs, List.map_nil, List.flatMap_nil, List.cons_append, List.nil_append, List.map_cons, List.nodup_cons, List.mem_cons, not_or]
    refine ⟨⟨Nat.ne_of_gt h2, Nat.ne_of_lt h3, lt _ (Nat.le_of_lt h2)⟩, ⟨Nat.ne_of_lt (Nat.lt_trans h2 h3), lt _ (Nat.le_refl _)⟩, lt _ (Nat.le_of_lt (Nat.lt_trans h2 h3)), hap⟩

set_option maxHeartbeats 4000000 in
theorem tree_made {pre : List (Addr × Obj)} (hap : Ap pre) :
    Tel prog w (hd.heap_1 w.params) p loose mean mg mb 10 100 pre (call (.ref 295) []) (fun r news' => ∃ T, r = .ref T.t ∧ T.nodes = [] ∧ news' = trObjs w.params T ++ pre ∧ Ap news') := by
  unfold Tel
  intro dp un gd cn cs a ccd cl outer A₀ base h₀ L m s Q E B F X N T0 hkf hd hu hret
  walk1
  ktr_step
  rename Fr h₀ _ _ _ => F6
  rename News h₀ _ _ _ => N6
  obtain ⟨T, e1, e2, N7, hap'⟩ := new_tree N6 hap (by assumption) (by assumption) (by rename _ ∧ _ => l; exact l.1)
  rw [← e1]
  exact hret _ _ _ _ F6 N7 ⟨T, rfl, e2, rfl, hap'⟩

theorem new_root_doc {rest : List (Addr × Obj)} {T : Tr} {D : List Node} (hap : Ap (trObjs w.params T ++ rest)) (hT : TrIs T D) (hf : Fit D) :
    Tel prog w (hd.heap_1 w.params) p loose mean mg mb 25 250 (trObjs w.params T ++ rest) (call (.ref 145) [.ref T.t]) (Added w.params T D (D ++ [⟨Str.ofString "root", none, [], [], [], Str.ofString ""⟩]) rest) := by
  refine tel_mono (new_root hap (hT.big hf)) ?_
  rintro r n ⟨nd, tk, rfl, hk, hp, hc, ha, hs, rfl, hap'⟩
  exact ⟨{ T with nodes := T.nodes ++ [nd], rn := T.rn + 1 }, tk, by rw [hT.len], ⟨rfl, rfl, rfl, rfl⟩,
    trIs_snoc hT ⟨hk, hp, by rw [hc]; exact .nil, by rw [ha]; exact .nil, by rw [hs]; exact .nil, fun e => absurd e (by decide), fun e => absurd e (by decide)⟩, rfl, hap'⟩
theorem quiet_M29b : True := by
  w_top off
  trivial
theorem mid_ne {A B : List (Addr × Obj)} {s : Addr} {o : Obj} (h : Ap (A ++ (s, o) :: B)) : (∀ q ∈ A, q.1 ≠ s) ∧ ∀ q ∈ B, q.1 ≠ s := by
  unfold Ap at h
  rw [List.map_append, List.map_cons, List.nodup_append] at h
  obtain ⟨_, h2, h3⟩ := h
  refine ⟨fun q hq e => h3 q.1 (List.mem_map_of_mem hq) s (.head _) e, fun q hq e => ?_⟩
  exact (List.nodup_cons.mp h2).1 (List.mem_map.mpr ⟨q, hq, e⟩)
theorem ap_mid {A B : List (Addr × Obj)} {s : Addr} {o o' : Obj} (h : Ap (A ++ (s, o) :: B)) : Ap (A ++ (s, o') :: B) := by
  unfold Ap at *
  rw [List.map_append, List.map_cons] at *
  exact h
theorem tel_mid {K : Frag} {dep uni : Nat} {A B : List (Addr × Obj)} {src : Addr} {o : Obj} {tree : Sem Value} {P : Value → Obj → Prop}
    (C : Tel prog w K p loose mean mg mb dep uni ((src, o) :: (A ++ B)) tree (fun r n => ∃ o', P r o' ∧ n = (src, o') :: (A ++ B))) :
    Tel prog w K p loose mean mg mb dep uni (A ++ (src, o) :: B) tree (fun r n => ∃ o', P r o' ∧ n = A ++ (src, o') :: B) := by
  intro dp un gd cn cs a ccd cl outer A₀ base h₀ L m s Q E B' F X N T hk hd hu ret
  refine C dp un gd cn cs a ccd cl outer A₀ base h₀ L m s Q E B' F X (fun q hq => N q ?_) T hk hd hu fun r n h' tk' F' N' ⟨o', hP, e⟩ => ?_
  · rcases List.mem_cons.mp hq with rfl | hq
    · exact List.mem_append_right _ (.head _)
    · rcases List.mem_append.mp hq with hq | hq
      · exact List.mem_append_left _ hq
      · exact List.mem_append_right _ (.tail _ hq)
  · subst e
    refine ret r (A ++ (src, o') :: B) h' tk' F' (fun q hq => N' q ?_) ⟨o', hP, rfl⟩
    rcases List.mem_append.mp hq with hq | hq
    · exact .tail _ (List.mem_append_left _ hq)
    · rcases List.mem_cons.mp hq with rfl | hq
      · exact .head _
      · exact .tail _ (List.mem_append_right _ hq)
theorem take_mid (A B : List (Addr × Obj)) {src : Addr} {o : Obj} {top : Nat} {tt : Tok} (ho : SrcOk o) (hap : Ap (A ++ (src, o) :: B)) (h1 : 0 < top) (h2 : top ≤ 1000) :
    Tel prog w (hd.heap_1 w.params) p loose mean mg mb 10 100 (A ++ (src, o) :: B) (call (.ref 313) [.ref src, .int top tt]) (fun r n => ∃ o', ((∃ (k : Nat) (tk : Tok), r = .int k tk ∧ k < top) ∧ SrcOk o') ∧ n = A ++ (src, o') :: B) :=
  tel_mid (P := fun r o' => (∃ (k : Nat) (tk : Tok), r = .int k tk ∧ k < top) ∧ SrcOk o') (tel_mono (take_ok ho (fun q hq => (List.mem_append.mp hq).elim ((mid_ne hap).1 q) ((mid_ne hap).2 q)) h1 h2) fun r n ⟨k, tk, o', e1, e2, e3, e4⟩ => ⟨o', ⟨⟨k, tk, e1, e2⟩, e3⟩, e4⟩)
theorem one_mid (A B : List (Addr × Obj)) {src l : Addr} {o : Obj} {vs : List Value} {e : Nat} (ho : SrcOk o) (hap : Ap (A ++ (src, o) :: B)) (hl : (l, listOf vs.toArray e) ∈ A ++ B) (h1 : 0 < vs.length) (h2 : vs.length ≤ 1000) :
    Tel prog w (hd.heap_1 w.params) p loose mean mg mb 15 150 (A ++ (src, o) :: B) (call (.ref 320) [.ref src, .ref l]) (fun r n => ∃ o', ((∃ k : Nat, vs[k]? = some r) ∧ SrcOk o') ∧ n = A ++ (src, o') :: B) :=
  tel_mid (P := fun r o' => (∃ k : Nat, vs[k]? = some r) ∧ SrcOk o') (tel_mono (one_ok ho (fun q hq => (List.mem_append.mp hq).elim ((mid_ne hap).1 q) ((mid_ne hap).2 q)) hl h1 h2) fun r n ⟨k, o', e1, e2, e3⟩ => ⟨o', ⟨⟨k, e1⟩, e2⟩, e3⟩)
theorem quiet_M30 : True := by
  w_top off
  trivial
theorem same_t {P : Params} {T T' : Tr} {rest : List (Addr × Obj)} (S : Same T T') : (T.t, instObj 295 T.d) ∈ trObjs P T' ++ rest := by
  rw [← S.t, ← S.d]; exact List.mem_append_left _ (.head _)
theorem same_d {P : Params} {T T' : Tr} {rest : List (Addr × Obj)} (S : Same T T') : (T.d, dictOf [⟨PyData.keyHash P (Str.ofString "rows"), .str (Str.ofString "rows") T.tk, .ref T.r⟩] 1) ∈ trObjs P T' ++ rest := by
  rw [← S.d, ← S.r, ← S.tk]; exact List.mem_append_left _ (.tail _ (.head _))
theorem Same.refl (T : Tr) : Same T T := ⟨rfl, rfl, rfl, rfl⟩
theorem Same.trans {T T' T'' : Tr} (a : Same T T') (b : Same T' T'') : Same T T'' := ⟨b.t.trans a.t, b.d.trans a.d, b.r.trans a.r, b.tk.trans a.tk⟩
theorem trIs_nil {T : Tr} (h : T.nodes = []) : TrIs T [] := ⟨by simp [h], fun k nd n _ h2 => by simp at h2⟩
theorem fit_nil : Fit [] := ⟨by simp, fun k n h => by simp at h⟩
def rootNode : Node := ⟨Str.ofString "root", none, [], [], [], Str.ofString ""⟩
theorem fit_root : Fit [rootNode] := ⟨by simp, fun k n h => by
  cases k with
  | zero => simp at h; subst h; simp [rootNode]
  | succ k => simp at h⟩

/-- names told by turns -/
def Names (kn pn : Nat → Str) (D : List Node) (i : Nat) : Prop := ∀ (k : Nat) (n : Node), D[k]? = some n → (n.kind = Str.ofString "attribute" → ∃ t, t < i ∧ n.nm = kn t) ∧ (n.kind = Str.ofString "namespace" → ∃ t, t < i ∧ n.nm = pn t)
/-- a document and its book in the making -/
structure Making (prog : Program) (w : World) (kn pn : Nat → Str) (T0 : Tr) (dR qI src : Addr) (rest : List (Addr × Obj)) (i : Nat) (T : Tr) (D : List Node) (R : Rs) (ins : List Nat) (iv : List Value) (ie : Nat) (o : Obj) (nx : List (Addr × Obj)) : Prop where
  same : Same T0 T
  tr : TrIs T D
  fit : Fit D
  len : D.length = i + 2
  inv : Inv D (bookOf R)
  rs : RsIs prog w R
  rd : R.d = dR
  srcOk : SrcOk o
  ints' : IntsAre iv (nats (0 :: ins))
  some' : ins ≠ []
  few : ins.length ≤ i + 1
  els : ∀ k ∈ ins, ∃ n, D[k]? = some n ∧ n.kind = Str.ofString "element"
  root : ∃ n, D[0]? = some n ∧ n.kind = Str.ofString "root"
  names : Names kn pn D i
  led : nx = trObjs w.params T ++ ((src, o) :: (qI, listOf iv.toArray ie) :: (rsObjs R ++ rest))
  ap : Ap nx

def doc2 : List Node := addNode [rootNode] (some 0) (Str.ofString "element")
theorem inv_root : Inv [rootNode] [(Str.ofString "root", [0])] := by
  have one : ∀ {k : Nat} {n : Node}, [rootNode][k]? = some n → k = 0 ∧ n = rootNode := fun {k n} h => by
    cases k with
    | zero => simp at h; exact ⟨rfl, h.symm⟩
    | succ k => simp at h
  have one' : ∀ {k : Nat} {r : Str × List Nat}, [(Str.ofString "root", [0])][k]? = some r → k = 0 ∧ r = (Str.ofString "root", [0]) := fun {k r} h => by
    cases k with
    | zero => simp at h; exact ⟨rfl, h.symm⟩
    | succ k => simp at h
  refine ⟨rfl, ?_, ?_, ?_, ?_, ?_, ?_, ?_, ?_⟩
  · intro k n r h1 h2
    rw [(one h1).2, (one' h2).2]; rfl
  · intro k n h1
    rw [(one h1).2]; exact .inl rfl
  · intro k n h1 _
    rw [(one h1).2]; rfl
  · intro k n j h1 h2
    rw [(one h1).2] at h2; cases h2
  · intro k n r h1 h2 _
    rw [(one' h2).2, (one h1).1]
  · intro k n r j q h1 _ h2
    rw [(one h1).2] at h2; cases h2
  · intro k n i c h1 hi
    rw [(one h1).2]
    have e : lst3 i rootNode = [] := by unfold lst3; split <;> (try split) <;> rfl
    rw [e]
    refine ⟨fun h => (nomatch h), fun ⟨m, hm, hp, _⟩ => ?_⟩
    rw [(one hm).2] at hp; cases hp
  · intro k n i h1 hi
    rw [(one h1).2]
    have e : lst3 i rootNode = [] := by unfold lst3; split <;> (try split) <;> rfl
    rw [e]; exact .nil
theorem inv_doc2 : Inv doc2 [(Str.ofString "root", [0]), (Str.ofString "element", [0, 1])] := by
  unfold doc2
  rw [addNode_attach (by rfl)]
  exact inv_root.attach (path := [0]) (fun j h => ⟨rootNode, by cases h; rfl, .inl rfl⟩) (.inl (by decide)) (by decide) (fun h => by cases h) (fun j q h hq => by
    cases h
    simp at hq
    rw [← hq])
theorem ap_perm' {A B rest : List (Addr × Obj)} {s q : Addr × Obj} : (A ++ (s :: q :: (B ++ rest))).Perm (q :: (B ++ (A ++ s :: rest))) := by
  refine ((List.Perm.swap q s _).append_left A).trans (List.perm_middle.trans (List.Perm.cons _ ?_))
  refine (List.perm_middle.symm.append_left A).trans ?_
  rw [← List.append_assoc, ← List.append_assoc]
  exact List.perm_append_comm.append_right _

theorem start_making {kn pn : Nat → Str} {T1 T3 : Tr} {g h : Heap} {L D' qI l1 l2 l3 l4 dR src : Addr} {tup o o' : Obj} {rest : List (Addr × Obj)} {t2 t3 k1 k2 : Tok} (S : Same T1 T3) (hT : TrIs T3 doc2)
    (N : News g L h ((D', tup) :: (qI, listOf [.int ((0 : Nat) : Int) t2, .int ((1 : Nat) : Int) t3].toArray 0) :: (l1, listOf [.str (Str.ofString "element") k1, .ref l2].toArray 0) :: (l2, listOf [.int ((0 : Nat) : Int) t2, .int ((1 : Nat) : Int) t3].toArray 0) ::
      (l3, listOf [.str (Str.ofString "root") k2, .ref l4].toArray 0) :: (l4, listOf [.int ((0 : Nat) : Int) t2].toArray 0) :: (dR, o') :: (trObjs w.params T3 ++ (src, o) :: rest)))
    (hdict : o'.IsDictOf (PySem.intKind prog w) [(((0 : Nat) : Int), .ref l3), (((1 : Nat) : Int), .ref l1)]) (lo : (dR == sysModules) = false) (ho : SrcOk o) (hap : Ap (trObjs w.params T3 ++ (src, o) :: rest))
    (a0 : ∀ q ∈ trObjs w.params T3 ++ (src, o) :: rest, q.1 < dR) (a1 : @LT.lt Nat _ dR l4) (a2 : @LT.lt Nat _ l4 l3) (a3 : @LT.lt Nat _ l3 l2) (a4 : @LT.lt Nat _ l2 l1) (a5 : @LT.lt Nat _ l1 qI) :
    ∃ R iv nx, Making prog w kn pn T1 dR qI src rest 0 T3 doc2 R [1] iv 0 o nx ∧ News g L h nx := by
  have I0 : IntsAre [.int ((0 : Nat) : Int) t2, .int ((1 : Nat) : Int) t3] (nats [0, 1]) := .cons _ _ (.cons _ _ .nil)
  refine ⟨⟨dR, o', [⟨l3, l4, Str.ofString "root", k2, [.int ((0 : Nat) : Int) t2], [0], 0, 0⟩, ⟨l1, l2, Str.ofString "element", k1, [.int ((0 : Nat) : Int) t2, .int ((1 : Nat) : Int) t3], [0, 1], 0, 0⟩]⟩, _, _, ⟨S, hT, fit_root.addNode (by decide) _ _, rfl, inv_doc2, ⟨hdict, lo, ?_⟩, rfl, ho, I0, by simp, by simp, ?_, ⟨_, rfl, rfl⟩, ?_, rfl, ?_⟩, News.of N ?_⟩
  · intro r hr
    rcases List.mem_cons.mp hr with rfl | hr
    · exact .cons _ _ .nil
    · rw [List.mem_singleton.mp hr]; exact I0
  · intro k hk
    rw [List.mem_singleton.mp hk]
    exact ⟨_, rfl, rfl⟩
  · intro k n hn
    have hk : k = 0 ∨ k = 1 := by
      have := lt_of_get hn
      have e : doc2.length = 2 := rfl
      omega
    rcases hk with rfl | rfl
    · obtain rfl := Option.some.inj hn
      exact ⟨fun e => absurd e (by decide), fun e => absurd e (by decide)⟩
    · obtain rfl := Option.some.inj hn
      exact ⟨fun e => absurd e (by decide), fun e => absurd e (by decide)⟩
  · refine ap_perm ?_ ap_perm'.symm
    have lt : ∀ y, dR ≤ y → y ∉ (trObjs w.params T3 ++ (src, o) :: rest).map (·.1) := fun y hy hm => by
      obtain ⟨q, hq, e⟩ := List.mem_map.mp hm
      have := a0 q hq
      rw [e] at this
      exact absurd this (Nat.not_lt.mpr hy)
    have b1 : @LT.lt Nat _ dR l3 := Nat.lt_trans a1 a2
    have b2 : @LT.lt Nat _ dR l2 := Nat.lt_trans b1 a3
    have b3 : @LT.lt Nat _ dR l1 := Nat.lt_trans b2 a4
    have b4 : @LT.lt Nat _ dR qI := Nat.lt_trans b3 a5
    unfold Ap at *
    simp only [rsObjs, rwObjs, List.flatMap_cons, List.flatMap_nil, List.append_nil, List.cons_append, List.nil_append, List.map_cons, List.nodup_cons, List.mem_cons, not_or]
    refine ⟨⟨?_, ?_, ?_, ?_, ?_, lt _ (Nat.le_of_lt b4)⟩, ⟨?_, ?_, ?_, ?_, lt _ (Nat.le_refl _)⟩, ⟨?_, ?_, ?_, lt _ (Nat.le_of_lt b1)⟩, ⟨?_, ?_, lt _ (Nat.le_of_lt a1)⟩, ⟨?_, lt _ (Nat.le_of_lt b3)⟩, lt _ (Nat.le_of_lt b2), hap⟩ <;> (intro e; have e' : @Eq Nat _ _ := e; omega)
  · intro q hq
    simp only [rsObjs, rwObjs, List.flatMap_cons, List.flatMap_nil, List.append_nil, List.cons_append, List.nil_append, List.mem_append, List.mem_cons] at hq ⊢
    rcases hq with h | rfl | rfl | rfl | rfl | rfl | rfl | rfl | h
    · exact .inr (.inr (.inr (.inr (.inr (.inr (.inr (.inl h)))))))
    · exact .inr (.inr (.inr (.inr (.inr (.inr (.inr (.inr (.inl rfl))))))))
    · exact .inr (.inl rfl)
    · exact .inr (.inr (.inr (.inr (.inr (.inr (.inl rfl))))))
    · exact .inr (.inr (.inr (.inr (.inl rfl))))
    · exact .inr (.inr (.inr (.inr (.inr (.inl rfl)))))
    · exact .inr (.inr (.inl rfl))
    · exact .inr (.inr (.inr (.inl rfl)))
    · exact .inr (.inr (.inr (.inr (.inr (.inr (.inr (.inr (.inr h))))))))

theorem start_making2 {kn pn : Nat → Str} {T1 T3 : Tr} {g h : Heap} {L D' qI l1 l2 l3 l4 dR src : Addr} {tup o o' : Obj} {rest : List (Addr × Obj)} {t2 t3 k1 k2 : Tok} (S : Same T1 T3) (hT : TrIs T3 doc2)
    (N : News g L h ((D', tup) :: (qI, listOf [.int ((0 : Nat) : Int) t2, .int ((1 : Nat) : Int) t3].toArray 0) :: (l1, listOf [.str (Str.ofString "element") k1, .ref l2].toArray 0) :: (l2, listOf [.int ((0 : Nat) : Int) t2, .int ((1 : Nat) : Int) t3].toArray 0) ::
      (l3, listOf [.str (Str.ofString "root") k2, .ref l4].toArray 0) :: (l4, listOf [.int ((0 : Nat) : Int) t2].toArray 0) :: (dR, o') :: (trObjs w.params T3 ++ (src, o) :: rest)))
    (hdict : o'.IsDictOf (PySem.intKind prog w) [(((0 : Nat) : Int), .ref l3), (((1 : Nat) : Int), .ref l1)]) (lo : (dR == sysModules) = false) (ho : SrcOk o) (hap : Ap (trObjs w.params T3 ++ (src, o) :: rest))
    (a0 : ∀ q ∈ trObjs w.params T3 ++ (src, o) :: rest, q.1 < dR) (a1 : @LT.lt Nat _ dR l4) (a2 : @LT.lt Nat _ l4 l3) (a3 : @LT.lt Nat _ l3 l2) (a4 : @LT.lt Nat _ l2 l1) (a5 : @LT.lt Nat _ l1 qI) :
    ∃ q, q = qI ∧ ∃ R iv nx, Making prog w kn pn T1 dR q src rest 0 T3 doc2 R [1] iv 0 o nx ∧ News g L h nx :=
  ⟨qI, rfl, start_making S hT N hdict lo ho hap a0 a1 a2 a3 a4 a5⟩
abbrev kname (i : Nat) : Str := Str.ofString "k" ++ Str.ofString (toString (i : Int))
abbrev pname (i : Nat) : Str := Str.ofString "p" ++ Str.ofString (toString (i : Int))
theorem kname_ne : ∀ i : Fin 10, ∀ t : Fin 10, t < i → kname t ≠ kname i := by decide +kernel
theorem pname_ne : ∀ i : Fin 10, ∀ t : Fin 10, t < i → pname t ≠ pname i := by decide +kernel

theorem Making.draw {kn pn : Nat → Str} {T0 T : Tr} {dR qI src : Addr} {rest nx : List (Addr × Obj)} {i : Nat} {D : List Node} {R : Rs} {ins : List Nat} {iv : List Value} {ie : Nat} {o o' : Obj} (M : Making prog w kn pn T0 dR qI src rest i T D R ins iv ie o nx) (ho : SrcOk o') :
    Making prog w kn pn T0 dR qI src rest i T D R ins iv ie o' (trObjs w.params T ++ ((src, o') :: (qI, listOf iv.toArray ie) :: (rsObjs R ++ rest))) :=
  ⟨M.same, M.tr, M.fit, M.len, M.inv, M.rs, M.rd, ho, M.ints', M.some', M.few, M.els, M.root, M.names, rfl, ap_mid (by have := M.ap; rw [M.led] at this; exact this)⟩
theorem Making.q_mem {kn pn : Nat → Str} {T0 T : Tr} {dR qI src : Addr} {rest nx : List (Addr × Obj)} {i : Nat} {D : List Node} {R : Rs} {ins : List Nat} {iv : List Value} {ie : Nat} {o : Obj} (M : Making prog w kn pn T0 dR qI src rest i T D R ins iv ie o nx) :
    (qI, listOf iv.toArray ie) ∈ trObjs w.params T ++ ((src, o) :: (qI, listOf iv.toArray ie) :: (rsObjs R ++ rest)) := List.mem_append_right _ (.tail _ (.head _))
theorem drop2 {g h : Heap} {L b c : Addr} {ob oc : Obj} {news : List (Addr × Obj)} (N : News g L h ((c, oc) :: (b, ob) :: news)) : News g L h ((c, oc) :: news) := News.of N fun q hq => by
  rcases List.mem_cons.mp hq with rfl | hq
  · exact .head _
  · exact .tail _ (.tail _ hq)
theorem ap_cons {news : List (Addr × Obj)} {a : Addr} {o : Obj} (h : Ap news) (hn : ∀ q ∈ news, q.1 ≠ a) : Ap ((a, o) :: news) := by
  unfold Ap at *
  rw [List.map_cons, List.nodup_cons]
  exact ⟨fun hm => let ⟨q, hq, e⟩ := List.mem_map.mp hm; hn q hq e, h⟩
theorem par_drawn {iv : List Value} {ks : List Nat} {j : Nat} {r : Value} (hI : IntsAre iv (nats ks)) (h : (iv ++ [Value.none])[j]? = some r) : ∃ par : Option Nat, ParIs r par ∧ ∀ k, par = some k → k ∈ ks := by
  by_cases hj : j < iv.length
  · rw [List.getElem?_append_left hj] at h
    obtain ⟨k, t, rfl, hk⟩ := nats_get hI h
    exact ⟨some k, ⟨t, rfl⟩, fun k' e => by cases e; exact List.mem_of_getElem? hk⟩
  · rw [List.getElem?_append_right (Nat.not_lt.mp hj)] at h
    have hl := lt_of_get h
    have e : j - iv.length = 0 := by simp at hl; omega
    rw [e] at h
    exact ⟨none, (Option.some.inj h).symm, fun k e => by cases e⟩
theorem one_midI {A B : List (Addr × Obj)} {src l : Addr} {o : Obj} {vs : List Value} {ks : List Nat} {e : Nat} (hI : IntsAre vs (nats ks)) (ho : SrcOk o) (hap : ∀ ox, Ap (((l, ox) :: A) ++ (src, o) :: B)) (h1 : 0 < ks.length) (h2 : ks.length ≤ 1000) :
    Tel prog w (hd.heap_1 w.params) p loose mean mg mb 15 150 ((l, listOf vs.toArray e) :: (A ++ (src, o) :: B)) (call (.ref 320) [.ref src, .ref l]) (fun r n => ∃ o', ((∃ (k : Nat) (t : Tok), r = .int k t ∧ k ∈ ks) ∧ SrcOk o') ∧ n = (l, listOf vs.toArray e) :: (A ++ (src, o') :: B)) := by
  have hw := hI.length
  rw [nats_length] at hw
  refine tel_mono (one_mid ((l, listOf vs.toArray e) :: A) B ho (hap _) (.head _) (by omega) (by omega)) ?_
  rintro r n ⟨o', ⟨⟨j, hj⟩, ho'⟩, rfl⟩
  obtain ⟨k, t, rfl, hk⟩ := nats_get hI hj
  exact ⟨o', ⟨⟨k, t, rfl, List.mem_of_getElem? hk⟩, ho'⟩, rfl⟩
theorem Making.t_mem {kn pn : Nat → Str} {T0 T : Tr} {dR qI src : Addr} {rest nx : List (Addr × Obj)} {i : Nat} {D : List Node} {R : Rs} {ins : List Nat} {iv : List Value} {ie : Nat} {o : Obj} (M : Making prog w kn pn T0 dR qI src rest i T D R ins iv ie o nx) :
    (T0.t, instObj 295 T0.d) ∈ trObjs w.params T ++ ((src, o) :: (qI, listOf iv.toArray ie) :: (rsObjs R ++ rest)) := same_t M.same
theorem Making.d_mem {kn pn : Nat → Str} {T0 T : Tr} {dR qI src : Addr} {rest nx : List (Addr × Obj)} {i : Nat} {D : List Node} {R : Rs} {ins : List Nat} {iv : List Value} {ie : Nat} {o : Obj} (M : Making prog w kn pn T0 dR qI src rest i T D R ins iv ie o nx) :
    (T0.d, dictOf [⟨PyData.keyHash w.params (Str.ofString "rows"), .str (Str.ofString "rows") T0.tk, .ref T0.r⟩] 1) ∈ trObjs w.params T ++ ((src, o) :: (qI, listOf iv.toArray ie) :: (rsObjs R ++ rest)) := same_d M.same

/-- behind `path = ..` -/
def MidAt {g h17 : Heap} {L : Addr} {m17 : Str → Option Value} (_ : Fr g L h17 m17) (s : Shared) (I : Addr) (oI : Obj) (lay rsl : List (Addr × Obj)) (path : List Nat) (f : Flow) (s' : Shared) : Prop :=
  f = .next ∧ ∃ h tk extra lp pv pe, s' = { s with heap := h, toks := tk } ∧ Fr g L h (fun y => if y = Str.ofString "path" then some (.ref lp) else m17 y) ∧ News g L h (extra ++ (I, oI) :: lay) ∧ Ap (extra ++ (I, oI) :: lay) ∧
    (lp, listOf pv.toArray pe) ∈ extra ++ rsl ∧ IntsAre pv (nats path)
def pathOf (rp : Book) : Option Nat → List Nat
  | none => []
  | some k => wayOf rp k
theorem allLt_mem {d : Addr} {l : List (Addr × Obj)} (h : AllLt d l) : ∀ q ∈ l, q.1 < d := by
  induction l with
  | nil => intro q hq; cases hq
  | cons a r ih =>
    intro q hq
    rcases List.mem_cons.mp hq with rfl | hq
    · exact h.1
    · exact ih h.2 q hq
theorem Making.rs_sub {kn pn : Nat → Str} {T0 T : Tr} {dR qI src : Addr} {rest nx : List (Addr × Obj)} {i : Nat} {D : List Node} {R : Rs} {ins : List Nat} {iv : List Value} {ie : Nat} {o : Obj} (_ : Making prog w kn pn T0 dR qI src rest i T D R ins iv ie o nx) :
    ∀ q ∈ rsObjs R, q ∈ trObjs w.params T ++ ((src, o) :: (qI, listOf iv.toArray ie) :: (rsObjs R ++ rest)) := fun _ hq => List.mem_append_right _ (.tail _ (.tail _ (List.mem_append_left _ hq)))
theorem Making.has {kn pn : Nat → Str} {T0 T : Tr} {dR qI src : Addr} {rest nx : List (Addr × Obj)} {i : Nat} {D : List Node} {R : Rs} {ins : List Nat} {iv : List Value} {ie : Nat} {o : Obj} (M : Making prog w kn pn T0 dR qI src rest i T D R ins iv ie o nx) {k : Nat} (hk : k ∈ 0 :: ins) :
    ∃ n rk, D[k]? = some n ∧ isPar n.kind ∧ R.rs[k]? = some rk := by
  have : ∃ n, D[k]? = some n ∧ isPar n.kind := by
    rcases List.mem_cons.mp hk with rfl | hk
    · obtain ⟨n, hn, e⟩ := M.root; exact ⟨n, hn, .inl e⟩
    · obtain ⟨n, hn, e⟩ := M.els k hk; exact ⟨n, hn, .inr e⟩
  obtain ⟨n, hn, e⟩ := this
  obtain ⟨q, hq⟩ := M.inv.row hn
  obtain ⟨rk, hr, _⟩ := book_row hq
  exact ⟨n, rk, hn, e, hr⟩
theorem quiet_M30b : True := by
  w_top off
  trivial
theorem kvs_snoc (rs : List Rw) (r : Rw) (i : Nat) : kvsFrom i (rs ++ [r]) = kvsFrom i rs ++ [(((i + rs.length : Nat) : Int), .ref r.e)] := by
  induction rs generalizing i with
  | nil => simp [kvsFrom]
  | cons a t ih =>
    simp only [List.cons_append, kvsFrom, ih]
    rw [show i + 1 + t.length = i + (a :: t).length by simp; omega]
theorem kvs_key_lt (rs : List Rw) (i : Nat) : ∀ kv ∈ kvsFrom i rs, kv.1 < ((i + rs.length : Nat) : Int) := by
  induction rs generalizing i with
  | nil => intro kv h; simp [kvsFrom] at h
  | cons a t ih =>
    intro kv h
    rcases List.mem_cons.mp h with rfl | h
    · show ((i : Nat) : Int) < _
      simp; omega
    · have := ih (i + 1) kv h
      simp at this ⊢
      omega
theorem stored_new (rs : List Rw) (v : Value) : stored (kvsFrom 0 rs) ((rs.length : Nat) : Int) v = kvsFrom 0 rs ++ [(((rs.length : Nat) : Int), v)] := by
  unfold stored
  rw [if_neg]
  rw [List.any_eq_true]
  rintro ⟨kv, h1, h2⟩
  have := kvs_key_lt rs 0 kv h1
  simp at h2 this
  omega
section
variable {A : Around} {E : Value → Shared → Prop} {s : Shared} {h₀ : Heap} {L d : Addr} {m : Str → Option Value} {news : List (Addr × Obj)} {o : Obj}
/-- a new key in a dict of the ledger -/
theorem put_sem {kvs : List (Int × Value)} {k : Int} {t : Tok} {v : Value} {Q : Unit → Shared → Prop} (F : Fr h₀ L s.heap m) (N : News h₀ L s.heap news) (hm : (d, o) ∈ news) (hd : o.IsDictOf (PySem.intKind prog w) kvs) (hsz : kvs.length ≤ sizeLine)
    (h : Halt (∀ h' o' tk, Fr h₀ L h' m → (∀ news', (∀ q ∈ news', q = (d, o') ∨ (q ∈ news ∧ q.1 ≠ d)) → News h₀ L h' news') → o'.IsDictOf (PySem.intKind prog w) (stored kvs k v) → Q () { s with heap := h', toks := tk })) :
    wpAny (model prog w) A (setItem (.ref d) (.int k t) v) Q E s := by
  obtain ⟨nw, g, N2, U, _, back⟩ := updF_of_mem N hm
  exact kda_set F N2 U hd (intKind_is _ _ _ _) hsz fun h' o' F' N' hd' => h h' o' _ F' (back h' o' N') hd'
end
theorem book_snoc {R : Rs} {r : Rw} {o : Obj} : bookOf ⟨R.d, o, R.rs ++ [r]⟩ = bookOf R ++ [(r.kind, r.path)] := by simp [bookOf]
theorem rs_snoc {R : Rs} {r : Rw} {o : Obj} (h : RsIs prog w R) (hd : o.IsDictOf (PySem.intKind prog w) (stored (kvsFrom 0 R.rs) ((R.rs.length : Nat) : Int) (.ref r.e))) (hI : IntsAre r.ws (nats r.path)) : RsIs prog w ⟨R.d, o, R.rs ++ [r]⟩ := by
  refine ⟨?_, h.low, fun q hq => ?_⟩
  · show o.IsDictOf _ (kvsFrom 0 (R.rs ++ [r]))
    rw [kvs_snoc, Nat.zero_add, ← stored_new]
    exact hd
  · rcases List.mem_append.mp hq with hq | hq
    · exact h.paths q hq
    · rw [List.mem_singleton.mp hq]; exact hI
theorem Names.attach {kn pn : Nat → Str} {D : List Node} {i : Nat} {par : Option Nat} {K nm : Str} (h : Names kn pn D i) (ha : K = Str.ofString "attribute" → nm = kn i) (hs : K = Str.ofString "namespace" → nm = pn i) : Names kn pn (attach D par K nm) (i + 1) := by
  intro k n hn
  rcases attach_cases hn with ⟨n0, h0, rfl⟩ | ⟨rfl, rfl⟩
  · have e1 : (if par = some k then push3 (cls K) D.length n0 else n0).kind = n0.kind := by
      split
      · exact push3_kind
      · rfl
    have e2 : (if par = some k then push3 (cls K) D.length n0 else n0).nm = n0.nm := by
      split
      · exact push3_nm
      · rfl
    rw [e1, e2]
    exact ⟨fun e => let ⟨t, a, b⟩ := (h k n0 h0).1 e; ⟨t, by omega, b⟩, fun e => let ⟨t, a, b⟩ := (h k n0 h0).2 e; ⟨t, by omega, b⟩⟩
  · exact ⟨fun e => ⟨i, by omega, ha e⟩, fun e => ⟨i, by omega, hs e⟩⟩

/-- a turn's end: one node more, one row more -/
theorem Making.grow {kn pn : Nat → Str} {T0 T T' : Tr} {dR qI src : Addr} {rest nx : List (Addr × Obj)} {i : Nat} {D : List Node} {R : Rs} {ins : List Nat} {iv : List Value} {ie : Nat} {o oR : Obj} {par : Option Nat} {K nm : Str} {rw : Rw} {ins' : List Nat} {iv' : List Value} {ie' : Nat} {nx' : List (Addr × Obj)}
    (M : Making prog w kn pn T0 dR qI src rest i T D R ins iv ie o nx) (S : Same T T') (hT : TrIs T' (attach D par K nm)) (hf : Fit (attach D par K nm))
    (hpar : ∀ j, par = some j → ∃ m, D[j]? = some m ∧ isPar m.kind) (hK : isChild K = true ∨ cls K ≠ 0) (hr : K ≠ Str.ofString "root")
    (e1 : rw.kind = K) (e2 : rw.path = pathOf (bookOf R) par ++ [D.length]) (hI : IntsAre rw.ws (nats rw.path)) (hd : oR.IsDictOf (PySem.intKind prog w) (stored (kvsFrom 0 R.rs) ((D.length : Nat) : Int) (.ref rw.e)))
    (ha : K = Str.ofString "attribute" → nm = kn i) (hs : K = Str.ofString "namespace" → nm = pn i)
    (hiv : IntsAre iv' (nats (0 :: ins'))) (hins : ins' = ins ∨ (ins' = ins ++ [D.length] ∧ K = Str.ofString "element"))
    (hl : nx' = trObjs w.params T' ++ ((src, o) :: (qI, listOf iv'.toArray ie') :: (rsObjs ⟨R.d, oR, R.rs ++ [rw]⟩ ++ rest))) (hap : Ap nx') :
    Making prog w kn pn T0 dR qI src rest (i + 1) T' (attach D par K nm) ⟨R.d, oR, R.rs ++ [rw]⟩ ins' iv' ie' o nx' := by
  have hlen : R.rs.length = D.length := by have := M.inv.len; unfold bookOf at this; rwa [List.length_map] at this
  have old : ∀ (k : Nat) (n : Node), D[k]? = some n → ∃ n', (attach D par K nm)[k]? = some n' ∧ n'.kind = n.kind := fun k n hn => ⟨_, attach_old hn, by
    split
    · exact push3_kind
    · rfl⟩
  refine ⟨M.same.trans S, hT, hf, by rw [attach_length, M.len], ?_, rs_snoc M.rs (by rw [hlen]; exact hd) hI, M.rd, M.srcOk, hiv, ?_, ?_, ?_, ?_, M.names.attach ha hs, hl, hap⟩
  · rw [book_snoc, e1, e2]
    refine M.inv.attach hpar hK hr (fun h => by rw [h]; rfl) (fun j q h hq => ?_)
    rw [h]
    show wayOf (bookOf R) j = q.2
    exact wayOf_eq hq
  · rcases hins with h | ⟨h, _⟩
    · rw [h]; exact M.some'
    · rw [h]; simp
  · have := M.few
    rcases hins with h | ⟨h, _⟩
    · rw [h]; omega
    · rw [h, List.length_append, List.length_singleton]; omega
  · intro k hk
    have oldk : k ∈ ins → ∃ n, (attach D par K nm)[k]? = some n ∧ n.kind = Str.ofString "element" := fun hk => by
      obtain ⟨n, hn, e⟩ := M.els k hk
      obtain ⟨n', h1, h2⟩ := old k n hn
      exact ⟨n', h1, h2.trans e⟩
    rcases hins with h | ⟨h, hKe⟩
    · rw [h] at hk; exact oldk hk
    · rw [h, List.mem_append, List.mem_singleton] at hk
      rcases hk with hk | rfl
      · exact oldk hk
      · exact ⟨_, attach_new, hKe⟩
  · obtain ⟨n, hn, e⟩ := M.root
    obtain ⟨n', h1, h2⟩ := old 0 n hn
    exact ⟨n', h1, h2.trans e⟩

/-- what an `if` of the chain leaves behind -/
structure Step (prog : Program) (w : World) (kn pn : Nat → Str) (I qI src : Addr) (oI o : Obj) (rest : List (Addr × Obj)) (i : Nat) (T : Tr) (D : List Node) (R : Rs) (ins : List Nat) (extra : List (Addr × Obj)) (lp : Addr) (pv : List Value) (pe : Nat) (T' : Tr) (par : Option Nat) (K nm : Str) (ins' : List Nat) (iv' : List Value) (ie' : Nat) (all : List (Addr × Obj)) : Prop where
  all' : all = extra ++ (I, oI) :: (trObjs w.params T' ++ ((src, o) :: (qI, listOf iv'.toArray ie') :: (rsObjs R ++ rest)))
  ap : Ap all
  lpIn : (lp, listOf pv.toArray pe) ∈ all
  way : IntsAre pv (nats (pathOf (bookOf R) par))
  same : Same T T'
  tr : TrIs T' (attach D par K nm)
  fit : Fit (attach D par K nm)
  par' : ∀ j, par = some j → ∃ m, D[j]? = some m ∧ isPar m.kind
  kind : isChild K = true ∨ cls K ≠ 0
  noRoot : K ≠ Str.ofString "root"
  attr : K = Str.ofString "attribute" → nm = kn i
  nspace : K = Str.ofString "namespace" → nm = pn i
  inner : IntsAre iv' (nats (0 :: ins'))
  ins'' : ins' = ins ∨ (ins' = ins ++ [D.length] ∧ K = Str.ofString "element")
def IfEnd {g h18 : Heap} {L : Addr} {m18 : Str → Option Value} (_ : Fr g L h18 m18) (prog : Program) (w : World) (kn pn : Nat → Str) (s : Shared) (I qI src : Addr) (oI o : Obj) (rest : List (Addr × Obj)) (i : Nat) (T : Tr) (D : List Node) (R : Rs) (ins : List Nat) (f : Flow) (s' : Shared) : Prop :=
  f = .next ∧ ∃ h tk extra lp pv pe T' par K nm tn tkk ins' iv' ie' all, s' = { s with heap := h, toks := tk } ∧
    Fr g L h (fun y => if y = Str.ofString "kind" then some (.str K tkk) else if y = Str.ofString "node" then some (.int (D.length : Nat) tn) else if y = Str.ofString "path" then some (.ref lp) else m18 y) ∧
    News g L h all ∧ Step prog w kn pn I qI src oI o rest i T D R ins extra lp pv pe T' par K nm ins' iv' ie' all
theorem way_len {D : List Node} {rp : Book} (I : Inv D rp) (par : Option Nat) : (pathOf rp par).length ≤ D.length := by
  cases par with
  | none => exact Nat.zero_le _
  | some k =>
    show (wayOf rp k).length ≤ _
    cases h : rp[k]? with
    | none => simp [wayOf, h]
    | some r =>
      rw [wayOf_eq h]
      have h1 := I.len_le h
      have h2 := lt_of_get h
      rw [I.len] at h2
      omega
theorem quiet_M30c : True := by
  w_top off
  trivial
theorem ap_drop {A B : List (Addr × Obj)} (h : Ap (A ++ B)) : Ap B := by
  unfold Ap at *
  rw [List.map_append] at h
  exact (List.nodup_append.mp h).2.1
theorem ap_head {q : Addr × Obj} {l : List (Addr × Obj)} (h : Ap (q :: l)) : Ap l ∧ ∀ x ∈ l, x.1 ≠ q.1 := by
  unfold Ap at *
  rw [List.map_cons, List.nodup_cons] at h
  exact ⟨h.2, fun x hx e => h.1 (List.mem_map.mpr ⟨x, hx, e⟩)⟩
section
variable {A : Around} {E : Value → Shared → Prop} {s : Shared} {g : Heap} {L : Addr} {m : Str → Option Value}
theorem row_put {kn pn : Nat → Str} {T0 T T' : Tr} {dR I qI src lp le lw lt : Addr} {oI o ot : Obj} {rest nx extra all : List (Addr × Obj)} {i : Nat} {D : List Node} {R : Rs} {ins ins' : List Nat} {iv iv' pv wsn : List Value} {ie ie' pe ew : Nat} {par : Option Nat} {K nm : Str} {tkk tn : Tok} {Q : Unit → Shared → Prop}
    (M : Making prog w kn pn T0 dR qI src rest i T D R ins iv ie o nx) (G : Step prog w kn pn I qI src oI o rest i T D R ins extra lp pv pe T' par K nm ins' iv' ie' all) (hi : i ≤ 50)
    (hwn : IntsAre wsn (nats (pathOf (bookOf R) par ++ [D.length]))) (F : Fr g L s.heap m) (N : News g L s.heap ((le, listOf [.str K tkk, .ref lw].toArray 0) :: (lw, listOf wsn.toArray ew) :: (lt, ot) :: all)) (a1 : @LT.lt Nat _ lw le) (a2 : ∀ q ∈ all, @LT.lt Nat _ q.1 lw)
    (h : ∀ h' tk R' nx', Making prog w kn pn T0 dR qI src rest (i + 1) T' (attach D par K nm) R' ins' iv' ie' o nx' → Fr g L h' m → News g L h' ((I, oI) :: nx') → (∀ q ∈ nx', q.1 ≠ I) → Q () { s with heap := h', toks := tk }) :
    wpAny (model prog w) A (setItem (.ref dR) (.int (D.length : Nat) tn) (.ref le)) Q E s := by
  have hd := M.rd
  subst hd
  have hlen : R.rs.length = D.length := by have := M.inv.len; unfold bookOf at this; rwa [List.length_map] at this
  have hD := M.len
  have inAll : ∀ q ∈ trObjs w.params T' ++ ((src, o) :: (qI, listOf iv'.toArray ie') :: (rsObjs R ++ rest)), q ∈ all := fun q hq => by rw [G.all']; exact List.mem_append_right _ (.tail _ hq)
  have md : (R.d, R.o) ∈ all := inAll _ (List.mem_append_right _ (.tail _ (.tail _ (List.mem_append_left _ (.head _)))))
  have apI := G.ap
  rw [G.all'] at apI
  obtain ⟨apL, hI0⟩ := ap_head (ap_drop apI)
  refine put_sem F N (.tail _ (.tail _ (.tail _ md))) M.rs.dict (by rw [kvsFrom_length, hlen, sizeLine_eq]; omega) ?_
  intro h' o' tk F' N' hd'
  have apP := ap_perm apL ap_perm'
  obtain ⟨apB, hq0⟩ := ap_head apP
  have hdR : ∀ q ∈ (qI, listOf iv'.toArray ie') :: (R.rs.flatMap rwObjs ++ (trObjs w.params T' ++ (src, o) :: rest)), q.1 ≠ R.d := fun q hq => by
    have apB' : Ap ((R.d, R.o) :: (R.rs.flatMap rwObjs ++ (trObjs w.params T' ++ (src, o) :: rest))) := apB
    rcases List.mem_cons.mp hq with rfl | hq
    · exact fun e => hq0 (R.d, R.o) (.head _) e.symm
    · exact (ap_head apB').2 q hq
  refine h h' tk ⟨R.d, o', R.rs ++ [⟨le, lw, K, tkk, wsn, pathOf (bookOf R) par ++ [D.length], 0, ew⟩]⟩ _
    (M.grow G.same G.tr G.fit G.par' G.kind G.noRoot rfl rfl ?_ hd' G.attr G.nspace G.inner G.ins'' rfl ?_) F' (N' _ ?_) ?_
  · exact hwn
  · refine ap_perm ?_ ap_perm'.symm
    have base : Ap ((qI, listOf iv'.toArray ie') :: ((R.d, o') :: (R.rs.flatMap rwObjs ++ (trObjs w.params T' ++ (src, o) :: rest)))) := ap_mid (A := [(qI, listOf iv'.toArray ie')]) (o := R.o) apP
    have small : ∀ q ∈ (qI, listOf iv'.toArray ie') :: ((R.d, o') :: (R.rs.flatMap rwObjs ++ (trObjs w.params T' ++ (src, o) :: rest))), @LT.lt Nat _ q.1 lw := fun q hq => by
      rcases List.mem_cons.mp hq with rfl | hq
      · exact a2 _ (inAll _ (List.mem_append_right _ (.tail _ (.head _))))
      · rcases List.mem_cons.mp hq with rfl | hq
        · exact (a2 (R.d, R.o) md : @LT.lt Nat _ R.d lw)
        · rcases List.mem_append.mp hq with hq | hq
          · exact a2 _ (inAll _ (List.mem_append_right _ (.tail _ (.tail _ (List.mem_append_left _ (.tail _ hq))))))
          · rcases List.mem_append.mp hq with hq | hq
            · exact a2 _ (inAll _ (List.mem_append_left _ hq))
            · rcases List.mem_cons.mp hq with rfl | hq
              · exact a2 _ (inAll _ (List.mem_append_right _ (.head _)))
              · exact a2 _ (inAll _ (List.mem_append_right _ (.tail _ (.tail _ (List.mem_append_right _ hq)))))
    have two := ap_cons (a := le) (o := listOf [.str K tkk, .ref lw].toArray 0) (ap_cons (a := lw) (o := listOf wsn.toArray ew) base fun q hq => Nat.ne_of_lt (small q hq)) fun q hq => by
      rcases List.mem_cons.mp hq with rfl | hq
      · exact Nat.ne_of_lt a1
      · exact Nat.ne_of_lt (Nat.lt_trans (small q hq) a1)
    refine ap_perm two ?_
    have pm := (List.perm_append_comm_assoc ((qI, listOf iv'.toArray ie') :: (R.d, o') :: R.rs.flatMap rwObjs) [(le, listOf [Value.str K tkk, .ref lw].toArray 0), (lw, listOf wsn.toArray ew)] (trObjs w.params T' ++ (src, o) :: rest)).symm
    simpa [rsObjs, rwObjs, List.flatMap_append, List.append_assoc] using pm
  · intro q hq
    have hdlw : @LT.lt Nat _ R.d lw := a2 (R.d, R.o) md
    have mI : (I, oI) ∈ all := by rw [G.all']; exact List.mem_append_right _ (.head _)
    have inL : ∀ q ∈ all, q ∈ (le, listOf [Value.str K tkk, .ref lw].toArray 0) :: (lw, listOf wsn.toArray ew) :: (lt, ot) :: all := fun q hq => .tail _ (.tail _ (.tail _ hq))
    rcases List.mem_cons.mp hq with rfl | hq
    · exact .inr ⟨inL _ mI, fun e => hI0 (R.d, R.o) (List.mem_append_right _ (.tail _ (.tail _ (List.mem_append_left _ (.head _))))) e.symm⟩
    · rcases List.mem_append.mp hq with hq | hq
      · exact .inr ⟨inL _ (inAll _ (List.mem_append_left _ hq)), hdR _ (.tail _ (List.mem_append_right _ (List.mem_append_left _ hq)))⟩
      · rcases List.mem_cons.mp hq with rfl | hq
        · exact .inr ⟨inL _ (inAll _ (List.mem_append_right _ (.head _))), hdR _ (.tail _ (List.mem_append_right _ (List.mem_append_right _ (.head _))))⟩
        · rcases List.mem_cons.mp hq with rfl | hq
          · exact .inr ⟨inL _ (inAll _ (List.mem_append_right _ (.tail _ (.head _)))), hdR _ (.head _)⟩
          · rcases List.mem_append.mp hq with hq | hq
            · rcases List.mem_cons.mp hq with rfl | hq
              · exact .inl rfl
              · rw [List.flatMap_append] at hq
                rcases List.mem_append.mp hq with hq | hq
                · exact .inr ⟨inL _ (inAll _ (List.mem_append_right _ (.tail _ (.tail _ (List.mem_append_left _ (.tail _ hq)))))), hdR _ (.tail _ (List.mem_append_left _ hq))⟩
                · simp only [rwObjs, List.flatMap_cons, List.flatMap_nil, List.append_nil, List.mem_cons, List.not_mem_nil, or_false] at hq
                  rcases hq with rfl | rfl
                  · exact .inr ⟨.head _, Nat.ne_of_gt (Nat.lt_trans hdlw a1)⟩
                  · exact .inr ⟨.tail _ (.head _), Nat.ne_of_gt hdlw⟩
            · exact .inr ⟨inL _ (inAll _ (List.mem_append_right _ (.tail _ (.tail _ (List.mem_append_right _ hq))))), hdR _ (.tail _ (List.mem_append_right _ (List.mem_append_right _ (.tail _ hq))))⟩
  · intro q hq
    have mI : (I, oI) ∈ all := by rw [G.all']; exact List.mem_append_right _ (.head _)
    have hIlw : @LT.lt Nat _ I lw := a2 _ mI
    rcases List.mem_append.mp hq with hq | hq
    · exact hI0 _ (List.mem_append_left _ hq)
    · rcases List.mem_cons.mp hq with rfl | hq
      · exact hI0 _ (List.mem_append_right _ (.head _))
      · rcases List.mem_cons.mp hq with rfl | hq
        · exact hI0 _ (List.mem_append_right _ (.tail _ (.head _)))
        · rcases List.mem_append.mp hq with hq | hq
          · rcases List.mem_cons.mp hq with rfl | hq
            · exact hI0 (R.d, R.o) (List.mem_append_right _ (.tail _ (.tail _ (List.mem_append_left _ (.head _)))))
            · rw [List.flatMap_append] at hq
              rcases List.mem_append.mp hq with hq | hq
              · exact hI0 _ (List.mem_append_right _ (.tail _ (.tail _ (List.mem_append_left _ (.tail _ hq)))))
              · simp only [rwObjs, List.flatMap_cons, List.flatMap_nil, List.append_nil, List.mem_cons, List.not_mem_nil, or_false] at hq
                rcases hq with rfl | rfl
                · exact Nat.ne_of_gt (Nat.lt_trans hIlw a1)
                · exact Nat.ne_of_gt hIlw
          · exact hI0 _ (List.mem_append_right _ (.tail _ (.tail _ (List.mem_append_right _ hq))))
end
theorem quiet_M30d : True := by
  w_top off
  trivial
theorem tel_perm {K : Frag} {dep uni : Nat} {pre pre' : List (Addr × Obj)} {tree : Sem Value} {post post' : Value → List (Addr × Obj) → Prop} (C : Tel prog w K p loose mean mg mb dep uni pre tree post) (hp : ∀ q ∈ pre, q ∈ pre')
    (hq : ∀ r n, post r n → ∃ n', (∀ q ∈ n', q ∈ n) ∧ post' r n') : Tel prog w K p loose mean mg mb dep uni pre' tree post' := by
  intro dp un gd cn cs a ccd cl outer A₀ base h₀ L m s Q E B F X N T hk hd hu ret
  refine C dp un gd cn cs a ccd cl outer A₀ base h₀ L m s Q E B F X (fun q h => N q (hp q h)) T hk hd hu fun r n h' tk' F' N' hP => ?_
  obtain ⟨n', h1, h2⟩ := hq r n hP
  exact ret r n' h' tk' F' (News.of N' h1) h2
theorem perm_mid (X A B : List (Addr × Obj)) (q : Addr × Obj) : (X ++ (A ++ q :: B)).Perm (A ++ q :: (X ++ B)) := by
  have := List.perm_append_comm_assoc X (A ++ [q]) B
  simpa [List.append_assoc] using this
/-- a method that adds, the tree in the middle of the ledger -/
theorem added_mid {A B : List (Addr × Obj)} {q : Addr × Obj} {T : Tr} {D D' : List Node} {tree : Sem Value} {dep uni : Nat} (C : Ap (trObjs w.params T ++ (A ++ q :: B)) → Tel prog w (hd.heap_1 w.params) p loose mean mg mb dep uni (trObjs w.params T ++ (A ++ q :: B)) tree (Added w.params T D D' (A ++ q :: B))) (hap : Ap (A ++ q :: (trObjs w.params T ++ B))) :
    Tel prog w (hd.heap_1 w.params) p loose mean mg mb dep uni (A ++ q :: (trObjs w.params T ++ B)) tree (fun r n => ∃ T' tk, r = .int D.length tk ∧ Same T T' ∧ TrIs T' D' ∧ n = A ++ q :: (trObjs w.params T' ++ B) ∧ Ap n) := by
  refine tel_perm (C (ap_perm hap (perm_mid _ _ _ _).symm)) (fun x hx => (perm_mid _ _ _ _).mem_iff.mp hx) ?_
  rintro r n ⟨T', tk, e1, S, hT, rfl, hap'⟩
  exact ⟨_, fun x hx => (perm_mid _ _ _ _).mem_iff.mpr hx, T', tk, e1, S, hT, rfl, ap_perm hap' (perm_mid _ _ _ _)⟩
theorem upd_inner {extra X rest : List (Addr × Obj)} {x y : Addr × Obj} {qI : Addr} {oq oq' : Obj} (hap : Ap (extra ++ x :: (X ++ y :: (qI, oq) :: rest))) :
    (∀ q ∈ extra ++ x :: (X ++ y :: (qI, oq') :: rest), q = (qI, oq') ∨ (q ∈ extra ++ x :: (X ++ y :: (qI, oq) :: rest) ∧ q.1 ≠ qI)) ∧ Ap (extra ++ x :: (X ++ y :: (qI, oq') :: rest)) := by
  have e : ∀ z : Addr × Obj, extra ++ x :: (X ++ y :: z :: rest) = (extra ++ x :: (X ++ [y])) ++ z :: rest := by intro z; simp
  rw [e] at *
  rw [e]
  exact upd_mid hap
theorem fr_eq {L : Addr} {g h : Heap} {m m' : Str → Option Value} (F : Fr g L h m) (e : ∀ y, m y = m' y) : Fr g L h m' := by
  rw [show m' = m from funext fun y => (e y).symm]; exact F
theorem in_lay {extra X rsl rest : List (Addr × Obj)} {q x y z : Addr × Obj} (h : q ∈ extra ++ rsl) : q ∈ extra ++ x :: (X ++ (y :: z :: (rsl ++ rest))) := by
  rcases List.mem_append.mp h with h | h
  · exact List.mem_append_left _ h
  · exact List.mem_append_right _ (.tail _ (List.mem_append_right _ (.tail _ (.tail _ (List.mem_append_left _ h)))))
theorem sorted_len : ∀ {l : List Nat} {n lo : Nat}, l.Pairwise (· < ·) → (∀ x ∈ l, x < n) → (∀ x ∈ l, lo ≤ x) → l.length ≤ n - lo
  | [], _, _, _, _, _ => Nat.zero_le _
  | a :: r, n, lo, hs, hn, hl => by
    have h1 := hn a (.head _)
    have h2 := hl a (.head _)
    have h3 := sorted_len (l := r) (n := n) (lo := a + 1) (List.pairwise_cons.mp hs).2 (fun x hx => hn x (.tail _ hx)) (fun x hx => (List.pairwise_cons.mp hs).1 x hx)
    rw [List.length_cons]; omega
theorem Inv.fit {D : List Node} {rp : Book} (I : Inv D rp) (h : D.length ≤ 100) : Fit D := by
  have H : ∀ (k : Nat) (n : Node) (i : Nat), D[k]? = some n → i ≤ 2 → (lst3 i n).length ≤ D.length := fun k n i hn hi =>
    Nat.le_trans (sorted_len (I.sorted k n i hn hi) (fun x hx => let ⟨m, hm, _⟩ := (I.mem k n i x hn hi).mp hx; lt_of_get hm) (fun x _ => Nat.zero_le x)) (by omega)
  exact ⟨h, fun k n hn => ⟨H k n 0 hn (by omega), H k n 1 hn (by omega), H k n 2 hn (by omega)⟩⟩


theorem parents_ok {K : Str} (h : isPar K) : (parents.any fun x => x == K) = true := by
  rcases h with rfl | rfl <;> decide
section
variable {A B : List (Addr × Obj)} {q : Addr × Obj} {T : Tr} {D : List Node} {par : Option Nat} {tt : Addr} {v v3 v4 v5 : Value}
theorem el_at (hap : Ap (A ++ q :: (trObjs w.params T ++ B))) (ht : T.t = tt) (hT : TrIs T D) (hf : Fit D) (hv : ParIs v par) (ho : ParOk D par) :
    Tel prog w (hd.heap_1 w.params) p loose mean mg mb 35 350 (A ++ q :: (trObjs w.params T ++ B)) (call (.ref 159) [.ref tt, v, v3, v4, v5])
      (fun r n => ∃ T' tk, r = .int D.length tk ∧ Same T T' ∧ TrIs T' (attach D par (Str.ofString "element") (Str.ofString "")) ∧ n = A ++ q :: (trObjs w.params T' ++ B) ∧ Ap n) := by
  subst ht; rw [← addNode_attach (by rfl)]; exact added_mid (fun h => add_element_doc h hT hf hv ho) hap
theorem text_at (hap : Ap (A ++ q :: (trObjs w.params T ++ B))) (ht : T.t = tt) (hT : TrIs T D) (hf : Fit D) (hv : ParIs v par) (ho : ParOk D par) :
    Tel prog w (hd.heap_1 w.params) p loose mean mg mb 35 350 (A ++ q :: (trObjs w.params T ++ B)) (call (.ref 166) [.ref tt, v, v3])
      (fun r n => ∃ T' tk, r = .int D.length tk ∧ Same T T' ∧ TrIs T' (attach D par (Str.ofString "text") (Str.ofString "")) ∧ n = A ++ q :: (trObjs w.params T' ++ B) ∧ Ap n) := by
  subst ht; rw [← addNode_attach (by rfl)]; exact added_mid (fun h => add_text_doc h hT hf hv ho) hap
theorem comment_at (hap : Ap (A ++ q :: (trObjs w.params T ++ B))) (ht : T.t = tt) (hT : TrIs T D) (hf : Fit D) (hv : ParIs v par) (ho : ParOk D par) :
    Tel prog w (hd.heap_1 w.params) p loose mean mg mb 35 350 (A ++ q :: (trObjs w.params T ++ B)) (call (.ref 173) [.ref tt, v, v3])
      (fun r n => ∃ T' tk, r = .int D.length tk ∧ Same T T' ∧ TrIs T' (attach D par (Str.ofString "comment") (Str.ofString "")) ∧ n = A ++ q :: (trObjs w.params T' ++ B) ∧ Ap n) := by
  subst ht; rw [← addNode_attach (by rfl)]; exact added_mid (fun h => add_comment_doc h hT hf hv ho) hap
theorem instr_at (hap : Ap (A ++ q :: (trObjs w.params T ++ B))) (ht : T.t = tt) (hT : TrIs T D) (hf : Fit D) (hv : ParIs v par) (ho : ParOk D par) :
    Tel prog w (hd.heap_1 w.params) p loose mean mg mb 35 350 (A ++ q :: (trObjs w.params T ++ B)) (call (.ref 180) [.ref tt, v, v3, v4])
      (fun r n => ∃ T' tk, r = .int D.length tk ∧ Same T T' ∧ TrIs T' (attach D par (Str.ofString "instruction") (Str.ofString "")) ∧ n = A ++ q :: (trObjs w.params T' ++ B) ∧ Ap n) := by
  subst ht; rw [← addNode_attach (by rfl)]; exact added_mid (fun h => add_instruction_doc h hT hf hv ho) hap
theorem attr_at {k : Nat} {kt : Tok} {n : Node} {v6 : Value} {u x : Str} {tu tx : Tok} (hap : Ap (A ++ q :: (trObjs w.params T ++ B))) (ht : T.t = tt) (hT : TrIs T D) (hf : Fit D) (hn : D[k]? = some n) (hK : n.kind = Str.ofString "element") (hds : ∀ j ∈ n.as, ∃ n', D[j]? = some n' ∧ n'.kind = Str.ofString "attribute" ∧ n'.nm ≠ x) :
    Tel prog w (hd.heap_1 w.params) p loose mean mg mb 35 350 (A ++ q :: (trObjs w.params T ++ B)) (call (.ref 194) [.ref tt, .int k kt, v3, .str u tu, .str x tx, v6])
      (fun r n => ∃ T' tk, r = .int D.length tk ∧ Same T T' ∧ TrIs T' (attach D (some k) (Str.ofString "attribute") x) ∧ n = A ++ q :: (trObjs w.params T' ++ B) ∧ Ap n) := by
  subst ht; rw [← addAttr_attach]; exact added_mid (fun h => set_attribute_doc h hT hf hn hK hds) hap
theorem ns_at {k : Nat} {kt : Tok} {n : Node} {x : Str} {tx : Tok} (hap : Ap (A ++ q :: (trObjs w.params T ++ B))) (ht : T.t = tt) (hT : TrIs T D) (hf : Fit D) (hn : D[k]? = some n) (hK : n.kind = Str.ofString "element") (hds : ∀ j ∈ n.ss, ∃ n', D[j]? = some n' ∧ n'.kind = Str.ofString "namespace" ∧ n'.nm ≠ x) :
    Tel prog w (hd.heap_1 w.params) p loose mean mg mb 35 350 (A ++ q :: (trObjs w.params T ++ B)) (call (.ref 201) [.ref tt, .int k kt, .str x tx, v4])
      (fun r n => ∃ T' tk, r = .int D.length tk ∧ Same T T' ∧ TrIs T' (attach D (some k) (Str.ofString "namespace") x) ∧ n = A ++ q :: (trObjs w.params T' ++ B) ∧ Ap n) := by
  subst ht; rw [← addNs_attach]; exact added_mid (fun h => add_namespace_doc h hT hf hn hK hds) hap
end
section
variable {kn pn : Nat → Str} {T0 T T' : Tr} {dR I qI src lp : Addr} {oI o : Obj} {rest nx extra : List (Addr × Obj)} {i : Nat} {D : List Node} {R : Rs} {ins ins' : List Nat} {iv iv' pv : List Value} {ie ie' pe : Nat} {par : Option Nat} {K nm : Str}
theorem Making.parOk (M : Making prog w kn pn T0 dR qI src rest i T D R ins iv ie o nx) (h : ∀ k, par = some k → k ∈ 0 :: ins) : ParOk D par := by
  cases par with
  | none => exact trivial
  | some k =>
    obtain ⟨n, _, hn, hp, _⟩ := M.has (h k rfl)
    exact ⟨n, hn, parents_ok hp⟩
theorem Making.step (M : Making prog w kn pn T0 dR qI src rest i T D R ins iv ie o nx) (hi : i ≤ 50) (S : Same T T') (hT : TrIs T' (attach D par K nm)) (hap : Ap (extra ++ (I, oI) :: (trObjs w.params T' ++ ((src, o) :: (qI, listOf iv'.toArray ie') :: (rsObjs R ++ rest)))))
    (hlp : (lp, listOf pv.toArray pe) ∈ extra ++ rsObjs R) (hw : IntsAre pv (nats (pathOf (bookOf R) par))) (hpar : ∀ k, par = some k → k ∈ 0 :: ins) (hK : isChild K = true ∨ cls K ≠ 0) (hr : K ≠ Str.ofString "root")
    (ha : K = Str.ofString "attribute" → nm = kn i) (hs : K = Str.ofString "namespace" → nm = pn i) (hiv : IntsAre iv' (nats (0 :: ins'))) (hins : ins' = ins ∨ (ins' = ins ++ [D.length] ∧ K = Str.ofString "element")) :
    Step prog w kn pn I qI src oI o rest i T D R ins extra lp pv pe T' par K nm ins' iv' ie' (extra ++ (I, oI) :: (trObjs w.params T' ++ ((src, o) :: (qI, listOf iv'.toArray ie') :: (rsObjs R ++ rest)))) := by
  have hp2 : ∀ j, par = some j → ∃ m, D[j]? = some m ∧ isPar m.kind := fun j h => let ⟨n, _, hn, hp, _⟩ := M.has (hpar j h); ⟨n, hn, hp⟩
  have hl := M.len
  refine ⟨rfl, hap, in_lay hlp, hw, S, hT, ?_, hp2, hK, hr, ha, hs, hiv, hins⟩
  refine Inv.fit (M.inv.attach (path := pathOf (bookOf R) par) hp2 hK hr (fun h => by rw [h]; rfl) (fun j q h hq => ?_)) ?_
  · rw [h]; exact wayOf_eq hq
  · rw [attach_length]; omega
theorem Making.own (M : Making prog w kn pn T0 dR qI src rest i T D R ins iv ie o nx) {k : Nat} (hk : k ∈ ins) : ∃ n, D[k]? = some n ∧ n.kind = Str.ofString "element" ∧ ∃ rk, R.rs[k]? = some rk := by
  obtain ⟨n, hn, hK⟩ := M.els k hk
  obtain ⟨q, hq⟩ := M.inv.row hn
  obtain ⟨rk, hr, _⟩ := book_row hq
  exact ⟨n, hn, hK, rk, hr⟩
theorem Making.attrs (M : Making prog w kn pn T0 dR qI src rest i T D R ins iv ie o nx) (hne : ∀ t, t < i → kn t ≠ kn i) {k : Nat} {n : Node} (hn : D[k]? = some n) :
    ∀ j ∈ n.as, ∃ n', D[j]? = some n' ∧ n'.kind = Str.ofString "attribute" ∧ n'.nm ≠ kn i := by
  intro j hj
  obtain ⟨m, hm, _, hc⟩ := (M.inv.mem k n 1 j hn (by omega)).mp hj
  have hk : m.kind = Str.ofString "attribute" := by
    unfold cls at hc
    split at hc
    · assumption
    · split at hc <;> omega
  obtain ⟨t, ht, e⟩ := (M.names j m hm).1 hk
  exact ⟨m, hm, hk, by rw [e]; exact hne t ht⟩
theorem Making.nss (M : Making prog w kn pn T0 dR qI src rest i T D R ins iv ie o nx) (hne : ∀ t, t < i → pn t ≠ pn i) {k : Nat} {n : Node} (hn : D[k]? = some n) :
    ∀ j ∈ n.ss, ∃ n', D[j]? = some n' ∧ n'.kind = Str.ofString "namespace" ∧ n'.nm ≠ pn i := by
  intro j hj
  obtain ⟨m, hm, _, hc⟩ := (M.inv.mem k n 2 j hn (by omega)).mp hj
  have hk : m.kind = Str.ofString "namespace" := by
    unfold cls at hc
    split at hc
    · omega
    · split at hc
      · assumption
      · omega
  obtain ⟨t, ht, e⟩ := (M.names j m hm).2 hk
  exact ⟨m, hm, hk, by rw [e]; exact hne t ht⟩
end
theorem quiet_M30e : True := by
  w_top off
  trivial
/-- a document with its book, as the law holds it -/
structure Stand (prog : Program) (w : World) (src : Addr) (rest : List (Addr × Obj)) (T : Tr) (D : List Node) (R : Rs) (o : Obj) (nx : List (Addr × Obj)) : Prop where
  tr : TrIs T D
  small : D.length ≤ 11
  pos : 0 < D.length
  inv : Inv D (bookOf R)
  rs : RsIs prog w R
  srcOk : SrcOk o
  led : nx = trObjs w.params T ++ ((src, o) :: (rsObjs R ++ rest))
  ap : Ap nx
section
variable {src : Addr} {rest nx : List (Addr × Obj)} {T : Tr} {D : List Node} {R : Rs} {o : Obj}
theorem Stand.fit (S : Stand prog w src rest T D R o nx) : Fit D := S.inv.fit (by have := S.small; omega)
theorem Stand.rlen (S : Stand prog w src rest T D R o nx) : R.rs.length = D.length := by have := S.inv.len; unfold bookOf at this; rwa [List.length_map] at this
theorem Stand.rs_sub (_ : Stand prog w src rest T D R o nx) : ∀ q ∈ rsObjs R, q ∈ trObjs w.params T ++ ((src, o) :: (rsObjs R ++ rest)) := fun _ hq => List.mem_append_right _ (.tail _ (List.mem_append_left _ hq))
theorem Stand.tr_sub (_ : Stand prog w src rest T D R o nx) : ∀ q ∈ trObjs w.params T, q ∈ trObjs w.params T ++ ((src, o) :: (rsObjs R ++ rest)) := fun _ hq => List.mem_append_left _ hq
theorem Stand.draw {o' : Obj} (S : Stand prog w src rest T D R o nx) (ho : SrcOk o') : Stand prog w src rest T D R o' (trObjs w.params T ++ ((src, o') :: (rsObjs R ++ rest))) :=
  ⟨S.tr, S.small, S.pos, S.inv, S.rs, ho, rfl, ap_mid (by have := S.ap; rw [S.led] at this; exact this)⟩
theorem Making.stand {kn pn : Nat → Str} {T0 : Tr} {dR qI : Addr} {i : Nat} {ins : List Nat} {iv : List Value} {ie : Nat} (M : Making prog w kn pn T0 dR qI src rest i T D R ins iv ie o nx) (hi : i ≤ 9) :
    Stand prog w src rest T D R o (trObjs w.params T ++ ((src, o) :: (rsObjs R ++ rest))) := by
  have hl := M.len
  have hap := M.ap
  rw [M.led] at hap
  refine ⟨M.tr, by omega, by omega, M.inv, M.rs, M.srcOk, rfl, ?_⟩
  unfold Ap at *
  refine List.Nodup.sublist ?_ hap
  refine List.Sublist.map _ (List.Sublist.append (List.Sublist.refl _) (List.Sublist.cons_cons _ (List.Sublist.cons _ (List.Sublist.refl _))))
theorem making_sub {qI : Addr} {oq : Obj} : ∀ q ∈ trObjs w.params T ++ ((src, o) :: (rsObjs R ++ rest)), q ∈ trObjs w.params T ++ ((src, o) :: (qI, oq) :: (rsObjs R ++ rest)) := fun q hq => by
  rcases List.mem_append.mp hq with h | h
  · exact List.mem_append_left _ h
  · rcases List.mem_cons.mp h with rfl | h
    · exact List.mem_append_right _ (.head _)
    · exact List.mem_append_right _ (.tail _ (.tail _ h))
end

theorem ap_sub {l l' : List (Addr × Obj)} (h : Ap l) (hs : l'.Sublist l) : Ap l' := List.Nodup.sublist (hs.map _) h
/-- one row's way made anew -/
theorem rs_put {A B : List (Addr × Obj)} {R : Rs} {k : Nat} {r : Rw} {D' : Addr} {ws' : List Value} {p' : List Nat} {c : Nat} (hk : R.rs[k]? = some r) (hap : Ap (A ++ (rsObjs R ++ B))) (hD : ∀ q ∈ A ++ (rsObjs R ++ B), q.1 ≠ D') :
    (∀ q ∈ A ++ (rsObjs ⟨R.d, R.o, R.rs.set k { r with p := D', ws := ws', path := p', cp := c }⟩ ++ B), q = (r.e, listOf [.str r.kind r.kt, .ref D'].toArray r.ce) ∨ (q ∈ (D', listOf ws'.toArray c) :: (A ++ (rsObjs R ++ B)) ∧ q.1 ≠ r.e)) ∧
      Ap (A ++ (rsObjs ⟨R.d, R.o, R.rs.set k { r with p := D', ws := ws', path := p', cp := c }⟩ ++ B)) := by
  obtain ⟨l1, l2, h1, h2, _⟩ := set_split (b := { r with p := D', ws := ws', path := p', cp := c }) hk
  have E1 : A ++ (rsObjs R ++ B) = (A ++ (R.d, R.o) :: l1.flatMap rwObjs) ++ (r.e, listOf [.str r.kind r.kt, .ref r.p].toArray r.ce) :: (r.p, listOf r.ws.toArray r.cp) :: (l2.flatMap rwObjs ++ B) := by
    unfold rsObjs
    rw [h1, List.flatMap_append, List.flatMap_cons]
    simp only [rwObjs, List.cons_append, List.append_assoc, List.nil_append]
  have E2 : A ++ (rsObjs ⟨R.d, R.o, R.rs.set k { r with p := D', ws := ws', path := p', cp := c }⟩ ++ B) = (A ++ (R.d, R.o) :: l1.flatMap rwObjs) ++ (r.e, listOf [.str r.kind r.kt, .ref D'].toArray r.ce) :: (D', listOf ws'.toArray c) :: (l2.flatMap rwObjs ++ B) := by
    unfold rsObjs
    dsimp only
    rw [h2, List.flatMap_append, List.flatMap_cons]
    simp only [rwObjs, List.cons_append, List.append_assoc, List.nil_append]
  rw [E1] at hap hD ⊢
  rw [E2]
  generalize A ++ (R.d, R.o) :: l1.flatMap rwObjs = P at *
  generalize l2.flatMap rwObjs ++ B = S at *
  generalize listOf [Value.str r.kind r.kt, .ref r.p].toArray r.ce = o1 at *
  generalize listOf [Value.str r.kind r.kt, .ref D'].toArray r.ce = o1' at *
  generalize listOf r.ws.toArray r.cp = o2 at *
  generalize listOf ws'.toArray c = o2' at *
  have sub1 : (P ++ (r.e, o1) :: S).Sublist (P ++ (r.e, o1) :: (r.p, o2) :: S) := List.Sublist.append (List.Sublist.refl _) (List.Sublist.cons_cons _ (List.Sublist.cons _ (List.Sublist.refl _)))
  have ap1 : Ap ((D', o2') :: (P ++ (r.e, o1) :: S)) := ap_cons (ap_sub hap sub1) fun q hq => hD q (sub1.subset hq)
  obtain ⟨a, b⟩ := upd_perm (o' := o1') (others := (D', o2') :: (P ++ S)) (l' := P ++ (r.e, o1') :: (D', o2') :: S) ap1 ((List.Perm.cons _ List.perm_middle).trans (List.Perm.swap _ _ _)) (List.perm_middle.trans (List.Perm.cons _ List.perm_middle))
  refine ⟨fun q hq => ?_, b⟩
  rcases a q hq with h | ⟨h, h3⟩
  · exact .inl h
  · refine .inr ⟨?_, h3⟩
    rcases List.mem_cons.mp h with rfl | h
    · exact .head _
    · exact .tail _ (sub1.subset h)

/-- the book while it is loosened: the rows ahead of i are done -/
structure Mid (R R' : Rs) (g d i : Nat) : Prop where
  d' : R'.d = R.d
  o' : R'.o = R.o
  kvs : kvsFrom 0 R'.rs = kvsFrom 0 R.rs
  len : R'.rs.length = R.rs.length
  lo : ∀ k, k < i → (bookOf R')[k]? = (loosen (bookOf R) g d)[k]?
  hi : ∀ k, i ≤ k → (bookOf R')[k]? = (bookOf R)[k]?
theorem Mid.refl (R : Rs) (g d : Nat) : Mid R R g d 0 := ⟨rfl, rfl, rfl, rfl, fun k h => absurd h (Nat.not_lt_zero k), fun _ _ => rfl⟩
theorem Mid.done {R R' : Rs} {g d : Nat} (M : Mid R R' g d R.rs.length) : bookOf R' = loosen (bookOf R) g d := by
  apply List.ext_getElem?
  intro k
  by_cases h : k < R.rs.length
  · exact M.lo k h
  · have l1 : (bookOf R').length = R.rs.length := by unfold bookOf; rw [List.length_map, M.len]
    have l2 : (loosen (bookOf R) g d).length = R.rs.length := by unfold loosen bookOf; rw [List.length_map, List.length_map]
    rw [List.getElem?_eq_none (by omega), List.getElem?_eq_none (by omega)]
theorem Mid.row {R R' : Rs} {g d i : Nat} (M : Mid R R' g d i) (hi : i < R.rs.length) : ∃ r r', R.rs[i]? = some r ∧ R'.rs[i]? = some r' ∧ r'.kind = r.kind ∧ r'.path = r.path := by
  obtain ⟨r, hr⟩ := get_of_lt hi
  obtain ⟨r', hr'⟩ := get_of_lt (l := R'.rs) (k := i) (by rw [M.len]; exact hi)
  have h1 := M.hi i (Nat.le_refl _)
  rw [book_get hr, book_get hr'] at h1
  have h2 := Option.some.inj h1
  exact ⟨r, r', hr, hr', congrArg Prod.fst h2, congrArg Prod.snd h2⟩
theorem Mid.skip {R R' : Rs} {g d i : Nat} {r' : Rw} (M : Mid R R' g d i) (hr : R'.rs[i]? = some r') (hg : g ∉ r'.path) : Mid R R' g d (i + 1) := by
  refine ⟨M.d', M.o', M.kvs, M.len, fun k hk => ?_, fun k hk => M.hi k (by omega)⟩
  by_cases h : k = i
  · subst h
    have h1 := M.hi k (Nat.le_refl _)
    rw [book_get hr] at h1
    rw [loosen_get h1.symm, if_neg hg, book_get hr]
  · exact M.lo k (by omega)
theorem kvs_set {rs : List Rw} {k : Nat} {r r' : Rw} (i : Nat) (h : rs[k]? = some r) (he : r'.e = r.e) : kvsFrom i (rs.set k r') = kvsFrom i rs := by
  induction rs generalizing i k with
  | nil => simp at h
  | cons a t ih =>
    cases k with
    | zero => simp at h; subst h; simp [kvsFrom, he]
    | succ k => simp only [List.getElem?_cons_succ] at h; simp only [List.set_cons_succ, kvsFrom]; rw [ih _ h]
theorem Mid.put {R R' : Rs} {g d i : Nat} {r' : Rw} {D' : Addr} {ws' : List Value} {c : Nat} (M : Mid R R' g d i) (hr : R'.rs[i]? = some r') (hg : g ∈ r'.path) :
    Mid R ⟨R'.d, R'.o, R'.rs.set i { r' with p := D', ws := ws', path := r'.path.drop d, cp := c }⟩ g d (i + 1) := by
  have hlt := lt_of_get hr
  have other : ∀ k, k ≠ i → (bookOf ⟨R'.d, R'.o, R'.rs.set i { r' with p := D', ws := ws', path := r'.path.drop d, cp := c }⟩)[k]? = (bookOf R')[k]? := fun k hk => by
    unfold bookOf
    rw [List.getElem?_map, List.getElem?_map, List.getElem?_set_ne (Ne.symm hk)]
  refine ⟨M.d', M.o', (kvs_set (r' := { r' with p := D', ws := ws', path := r'.path.drop d, cp := c }) 0 hr rfl).trans M.kvs, by rw [List.length_set]; exact M.len, fun k hk => ?_, fun k hk => by rw [other k (by omega)]; exact M.hi k (by omega)⟩
  by_cases h : k = i
  · subst h
    have h1 := M.hi k (Nat.le_refl _)
    rw [book_get hr] at h1
    rw [loosen_get h1.symm, if_pos hg, book_get (r := { r' with p := D', ws := ws', path := r'.path.drop d, cp := c }) (by dsimp only; rw [List.getElem?_set_self hlt])]
  · rw [other k h]; exact M.lo k (by omega)
theorem rs_set {R : Rs} {k : Nat} {r : Rw} {D' : Addr} {ws' : List Value} {p' : List Nat} {c : Nat} (h : RsIs prog w R) (hk : R.rs[k]? = some r) (hI : IntsAre ws' (nats p')) : RsIs prog w ⟨R.d, R.o, R.rs.set k { r with p := D', ws := ws', path := p', cp := c }⟩ := by
  refine ⟨?_, h.low, fun q hq => ?_⟩
  · show R.o.IsDictOf _ (kvsFrom 0 (R.rs.set k _))
    rw [kvs_set (r' := { r with p := D', ws := ws', path := p', cp := c }) 0 hk rfl]; exact h.dict
  · rcases List.mem_or_eq_of_mem_set hq with hq | rfl
    · exact h.paths q hq
    · exact hI
theorem nats_drop (l : List Nat) (d : Nat) : (nats l).drop d = nats (l.drop d) := by simp [nats]
theorem nats_take (l : List Nat) (d : Nat) : (nats l).take d = nats (l.take d) := by simp [nats]
theorem nats_reverse (l : List Nat) : (nats l).reverse = nats l.reverse := by simp [nats]
theorem rs_put2 {P B : List (Addr × Obj)} {s : Addr × Obj} {R : Rs} {k : Nat} {r : Rw} {D' : Addr} {ws' : List Value} {p' : List Nat} {c : Nat} (hk : R.rs[k]? = some r) (hap : Ap (P ++ s :: (rsObjs R ++ B))) (hD : ∀ q ∈ P ++ s :: (rsObjs R ++ B), q.1 ≠ D') :
    (∀ q ∈ P ++ s :: (rsObjs ⟨R.d, R.o, R.rs.set k { r with p := D', ws := ws', path := p', cp := c }⟩ ++ B), q = (r.e, listOf [.str r.kind r.kt, .ref D'].toArray r.ce) ∨ (q ∈ (D', listOf ws'.toArray c) :: (P ++ s :: (rsObjs R ++ B)) ∧ q.1 ≠ r.e)) ∧
      Ap (P ++ s :: (rsObjs ⟨R.d, R.o, R.rs.set k { r with p := D', ws := ws', path := p', cp := c }⟩ ++ B)) := by
  have e : ∀ X : List (Addr × Obj), P ++ s :: (X ++ B) = (P ++ [s]) ++ (X ++ B) := by intro X; simp
  rw [e] at hap hD ⊢
  rw [e]
  exact rs_put hk hap hD
theorem removed_mid {q : Addr × Obj} {B : List (Addr × Obj)} {T : Tr} {D : List Node} {k j : Nat} {kt : Tok} {n pn : Node} (hap : Ap (q :: (trObjs w.params T ++ B))) (hT : TrIs T D) (hf : Fit D)
    (hn : D[k]? = some n) (hp : n.par = some j) (hpn : D[j]? = some pn) (hkj : k ≠ j) (hin : k ∈ listIn n.kind pn) :
    Tel prog w (hd.heap_1 w.params) p loose mean mg mb 35 350 (q :: (trObjs w.params T ++ B)) (call (.ref 88) [.ref T.t, .int k kt]) (fun r m => ∃ T', r = .none ∧ Same T T' ∧ TrIs T' (cut D k j n.kind) ∧ m = q :: (trObjs w.params T' ++ B) ∧ Ap m) := by
  refine tel_perm (remove_doc (rest := q :: B) (ap_perm hap (perm_mid _ [] _ _).symm) hT hf hn hp hpn hkj hin) (fun x hx => (perm_mid _ [] _ _).mem_iff.mp hx) ?_
  rintro r m ⟨T', e1, S, hT', rfl, hap'⟩
  exact ⟨_, fun x hx => (perm_mid _ [] _ _).mem_iff.mpr hx, T', e1, S, hT', rfl, ap_perm hap' (perm_mid _ [] _ _)⟩
/-- a node with a longer way has a parent -/
theorem Stand.parent {src : Addr} {rest nx : List (Addr × Obj)} {T : Tr} {D : List Node} {R : Rs} {o : Obj} (S : Stand prog w src rest T D R o nx) {k : Nat} {r : Rw} (hr : R.rs[k]? = some r) (hl : 1 < r.path.length) :
    ∃ n j pn, D[k]? = some n ∧ n.par = some j ∧ D[j]? = some pn ∧ k ≠ j ∧ k ∈ listIn n.kind pn := by
  obtain ⟨n, hn⟩ := S.inv.node (book_get hr)
  cases hp : n.par with
  | none =>
    have e := S.inv.path0 _ _ _ hn (book_get hr) hp
    dsimp only at e
    rw [e] at hl; simp at hl
  | some j =>
    obtain ⟨hj, pn, hpn, _⟩ := S.inv.par _ _ _ hn hp
    refine ⟨n, j, pn, hn, hp, hpn, by omega, ?_⟩
    rw [listIn_eq]
    exact (S.inv.mem j pn (cls n.kind) k hpn (cls_le _)).mpr ⟨n, hn, hp, rfl⟩
local macro_rules | `(tactic| walk_at "binaryOp Add ref ref") => `(tactic| (k_here; (with_reducible show wpAny _ _ (binaryOp _ (Value.ref _) (Value.ref _)) _ _ _); k_dflt (refine' kmk_add_ints ?F ?N ?a ?b ?i ?j ?_ ?z; (case F => k_asm); (case N => k_asm); (case a => is_list); (case b => is_list); (case i => assumption); (case j => first | exact IntsAre.cons _ _ IntsAre.nil | assumption); (case z => size_fits)); intro D' ws' h' F' N' l1 hI'))
local macro_rules | `(tactic| ktr_step) => `(tactic| (repeat' (first | (k_unfold; (try dsimp only)) | (k_end; wrow_close) | ((fail_if_success (with_reducible (first | show wpAny _ _ (PySem.call (Value.ref _) _ _) _ _ _ | show wpAny _ _ (pyIter _) _ _ _ | show wpAny _ _ (PySem.call (Value.builtin "sorted") _ _) _ _ _ | show wpAny _ _ (exec (Stmt.Raise _ _ _) _) _ _ _ | show wpAny _ _ (exec (Stmt.For _ _ _ _ _) _) _ _ _ | show wpAny _ _ (exec (Stmt.While _ _ _ _) _) _ _ _ | show wpAny _ _ (exec (Stmt.If _ _ _ _) _) _ _ _ | show wpAny _ _ (eval (PySem.Expr.ListComp _ _ _ _) _) _ _ _ | show wpAny _ _ (exec (Stmt.Assign [_] (PySem.Expr.ListComp _ _ _ _) _) _) _ _ _ | show wpAny _ _ (exec (Stmt.Assign [_] (PySem.Expr.IfExp _ _ _ _) _) _) _ _ _))); first | walk1 | (dsimp only; walk1)) | (leave1; walk_say "STEP leave1"; try dsimp only) | fail "no step")))
theorem quiet_M31 : True := by
  w_top off
  trivial

set_option maxHeartbeats 4000000 in
theorem grown_ok {rest : List (Addr × Obj)} {src : Addr} {o : Obj} {tt : Tok} (ho : SrcOk o) (hap : Ap ((src, o) :: rest)) :
    Tel prog w (hd.heap_1 w.params) p loose mean mg mb 120 1200 ((src, o) :: rest) (call (.ref 327) [.ref src, .int 10 tt])
      (fun r n => ∃ q T D R o' nx, r = .ref q ∧ n = (q, { cls := Value.type "tuple", data := Data.seq #[.ref T.t, .ref R.d] }) :: nx ∧ Stand prog w src rest T D R o' nx ∧ ∀ x ∈ nx, x.1 < q) := by
  unfold Tel
  intro dp un gd cn cs a ccd cl outer A₀ base h₀ L m s Q E B F X N T0 hkf hd hu hret
  walk1
  ktr_step
  ktr_call (sub_self _) (tree_made hap)
  rintro _ _ h1 tk1 F1 N1 ⟨T1, rfl, e1, rfl, hap1⟩
  have m1 := same_t (P := w.params) (rest := (src, o) :: rest) (.refl T1)
  have m2 := same_d (P := w.params) (rest := (src, o) :: rest) (.refl T1)
  ktr_step
  ktr_call (sub_self _) (new_root_doc hap1 (trIs_nil e1) fit_nil)
  rintro _ _ h2 tk2 F2 N2 ⟨T2, tk2, rfl, S2, hT2, rfl, hap2⟩
  clear m1 m2
  have m1 := same_t (P := w.params) (rest := (src, o) :: rest) S2
  have m2 := same_d (P := w.params) (rest := (src, o) :: rest) S2
  ktr_step
  rw [← S2.t]
  ktr_call (sub_self _) (add_element_doc (par := some 0) hap2 hT2 fit_root ⟨_, rfl⟩ ⟨rootNode, rfl, by decide⟩)
  rintro _ _ h3 tk3 F3 N3 ⟨T3, tk3, rfl, S3, hT3, rfl, hap3⟩
  clear m1 m2
  have m1 := same_t (P := w.params) (rest := (src, o) :: rest) (S2.trans S3)
  have m2 := same_d (P := w.params) (rest := (src, o) :: rest) (S2.trans S3)
  ktr_step
  k_dflt (refine' kdn_eval (knd := PySem.intKind prog w) ?F ?N ?b ?a ?l ?e ?n ?_; (case F => k_asm); (case N => k_asm); (case b => exact Top.nolimit (by k_asm)); (case a => rfl); (case l => rfl); (case e => exact List.cons_ne_nil _ _); (case n => exact Nat.le_of_ble_eq_true rfl))
  intro dR h4 oR F4 N4 l4 lo4 hd4
  ktr_step
  rename News _ _ _ _ => N5
  obtain ⟨qI, hqI, R, iv, nx0, M0, N6⟩ := start_making2 (kn := kname) (pn := pname) (S2.trans S3) hT3 N5 (by assumption) (by assumption) ho hap3 l4 (And.left (by assumption)) (And.left (by assumption)) (And.left (by assumption)) (And.left (by assumption)) (And.left (by assumption))
  clear N5
  subst hqI
  rename Fr _ _ _ _ => F5
  (with_unfolding_all refine' For_invVF F5 ?k1 ?k2 ?_; (case k1 => exact rfl); (case k2 => exact rfl))
  ktr_step
  obtain rfl := M0.led
  ktr_call (sub_self _) (take_mid _ _ ho M0.ap (by decide) (by decide))
  rintro _ _ h7 tk7 F7 N7 ⟨o7, ⟨⟨n7, t7, rfl, hn7⟩, ho7⟩, rfl⟩
  have M7 := M0.draw ho7
  clear M0
  ktr_step
  rename Fr _ _ _ _ => F8
  rename News _ _ _ _ => N8
  refine for_rangeY [Str.ofString "parent", Str.ofString "way", Str.ofString "owner", Str.ofString "path", Str.ofString "node", Str.ofString "kind"] (fun i m nx => ∃ T D R ins iv ie o, Making prog w kname pname T1 dR _ src rest i T D R ins iv ie o nx) rfl (by assumption) ?_ F8 (News.of N8 ?_) ⟨_, _, _, _, _, _, _, M7⟩ ?_ ?_
  · have hn7' : n7 < 10 := hn7
    omega
  · exact fun _ h => h
  · rintro i t m₁ nx h tk I oI hi ⟨T, D, R, ins, iv, ie, o, M⟩ hoI F9 N9
    obtain rfl := M.led
    have hn7' : n7 < 10 := hn7
    clear M7 N8 F8
    have hI := M.ints'
    have hil : iv.length ≤ 12 := by have e := hI.length; rw [nats_length, List.length_cons] at e; have := M.few; omega
    have mq := M.q_mem
    show wpAny _ _ _ _ _ _
    k_fold
    ktr_step
    have apI := ap_cons (o := oI) M.ap hoI
    rename News _ _ _ _ => N10
    revert N10
    rename News _ _ _ _ => N9
    intro N10
    have ap11 := ap_cons (o := listOf (iv ++ [Value.none]).toArray 0) apI (fun q hq => Nat.ne_of_lt (Heap.lt_size (N9 q (.tail _ hq)).1))
    replace N10 := drop2 N10
    have hv1 : 0 < (iv ++ [Value.none]).length := by simp
    have hv2 : (iv ++ [Value.none]).length ≤ 1000 := by simp; omega
    ktr_call (sub_self _) (one_mid ((_, listOf (iv ++ [Value.none]).toArray 0) :: (I, oI) :: trObjs w.params T) _ M.srcOk ap11 (.head _) hv1 hv2)
    rintro r1 _ h12 tk12 F12 N12 ⟨o12, ⟨⟨j1, hr1⟩, ho12⟩, rfl⟩
    have M12 := M.draw ho12
    have ap12 := ap_mid (A := (_, listOf (iv ++ [Value.none]).toArray 0) :: (I, oI) :: trObjs w.params T) (o' := o12) ap11
    have mq := M12.q_mem
    obtain ⟨par, hp1, hp2⟩ := par_drawn hI hr1
    have hh1 := hp1.handed
    ktr_step
    ktr_call (sub_self _) (take_mid ((_, listOf (iv ++ [Value.none]).toArray 0) :: (I, oI) :: trObjs w.params T) _ ho12 ap12 (by decide) (by decide))
    rintro _ _ h13 tk13 F13 N13 ⟨o13, ⟨⟨way, t13, rfl, hway⟩, ho13⟩, rfl⟩
    have M13 := M.draw ho13
    have ap13 := ap_mid (A := (_, listOf (iv ++ [Value.none]).toArray 0) :: (I, oI) :: trObjs w.params T) (o' := o13) ap11
    have mq := M13.q_mem
    clear N12 F12
    ktr_step
    rename IntsAre _ _ => hI14
    have hI15 : IntsAre _ (nats ins) := hI14
    clear hI14
    rename News _ _ _ _ => N14
    rename (∀ q : Addr × Obj, q ∈ _ → q.1 < _) => l14
    have ap15 := fun ox => ap_cons (o := ox) (ap_mid (A := (I, oI) :: trObjs w.params T) (o' := o13) apI) (fun q hq => Nat.ne_of_lt (l14 q (.tail _ hq)))
    replace N14 := drop2 N14
    have hfew := M.few
    have hpos := List.length_pos_iff.mpr M.some'
    ktr_call (sub_self _) (one_midI (A := (I, oI) :: trObjs w.params T) hI15 ho13 ap15 hpos (by omega))
    rintro _ _ h16 tk16 F16 N16 ⟨o16, ⟨⟨own, t16, rfl, hown⟩, ho16⟩, rfl⟩
    have M16 := M.draw ho16
    have ap16 := ap_mid (A := (I, oI) :: trObjs w.params T) (o' := o16) apI
    have mq := M16.q_mem
    have N17 := News.of N16 (l' := (I, oI) :: (trObjs w.params T ++ ((src, o16) :: (_, listOf iv.toArray ie) :: (rsObjs R ++ rest)))) (fun q hq => .tail _ hq)
    clear N16 N14 m1 m2 mq hI15 l14 N9 N10 ap11 ap12 ap13 ap15 M12 M13
    have m1 := M16.t_mem
    have m2 := M16.d_mem
    have mq := M16.q_mem
    ktr_step
    rename Fr _ _ _ _ => F17
    rename News _ _ _ _ => N17a
    have N17 := News.of N17a (l' := (I, oI) :: (trObjs w.params T ++ ((src, o16) :: (qI, listOf iv.toArray ie) :: (rsObjs R ++ rest)))) (fun q hq => .tail _ hq)
    clear N17a
    refine wpAny_mono (Q := MidAt F17 s I oI (trObjs w.params T ++ ((src, o16) :: (qI, listOf iv.toArray ie) :: (rsObjs R ++ rest))) (rsObjs R) (pathOf (bookOf R) par)) ?mid ?rest (fun _ _ e => e)
    case mid =>
      cases par with
      | none =>
        obtain rfl : r1 = .none := hp1
        show wpAny _ _ _ _ _ _
        k_fold
        walk1
        ktr_step
        rename Fr _ _ _ _ => F20
        rename News _ _ _ _ => N20
        rename _ ∧ AllLt _ _ => l20
        refine ⟨rfl, _, _, [(_, listOf [].toArray 0)], _, [], 0, rfl, F20, N20, ap_cons ap16 (fun q hq => ?_), .head _, .nil⟩
        rcases List.mem_cons.mp hq with rfl | hq
        · exact Nat.ne_of_lt l20.1
        · exact Nat.ne_of_lt (allLt_mem l20.2 q hq)
      | some pk =>
        obtain ⟨t1, rfl⟩ := hp1
        obtain ⟨n1, rk, hn1, hpar1, hrk⟩ := M16.has (hp2 pk rfl)
        have hdict := M16.rs.dict
        have hv := M16.rs.value hrk
        have md := rs_d M16.rs_sub
        rw [M16.rd] at md
        have me := rs_e M16.rs_sub hrk
        have mp := rs_p M16.rs_sub hrk
        show wpAny _ _ _ _ _ _
        k_fold
        walk1
        ktr_step
        rename Fr _ _ _ _ => F20
        rename News _ _ _ _ => N20
        refine ⟨rfl, _, _, [], rk.p, rk.ws, rk.cp, rfl, F20, N20, ap16, rs_p (fun _ h => h) hrk, ?_⟩
        show IntsAre rk.ws (nats (wayOf (bookOf R) pk))
        rw [wayOf_eq (book_get hrk)]
        exact M16.rs.paths _ (List.mem_of_getElem? hrk)
    case rest =>
      rintro f s' ⟨rfl, h18, tk18, extra, lp, pv, pe, rfl, F18, N18, ap18, mp18, hI18⟩
      dsimp only
      ktr_step
      rename Fr _ _ _ _ => F18
      refine wpAny_mono (Q := IfEnd F18 prog w kname pname s I qI src oI o16 rest i T D R ins) ?chain ?tail (fun _ _ e => e)
      case chain =>
        have mlp := in_lay (rest := rest) (X := trObjs w.params T) (x := (I, oI)) (y := (src, o16)) (z := (qI, listOf iv.toArray ie)) mp18
        have hok := M16.parOk hp2
        have hp3 := hp1.handed
        show wpAny _ _ _ _ _ _
        k_fold
        walk1
        ktr_step
        · ktr_call (sub_self _) (el_at ap18 M16.same.t M16.tr M16.fit hp1 hok)
          rintro _ _ h19 tk19 F19 N19 ⟨T', tk', rfl, S', hT', rfl, ap19⟩
          have mq19 : (qI, listOf iv.toArray ie) ∈ extra ++ (I, oI) :: (trObjs w.params T' ++ ((src, o16) :: (qI, listOf iv.toArray ie) :: (rsObjs R ++ rest))) := List.mem_append_right _ (.tail _ (List.mem_append_right _ (.tail _ (.head _))))
          ktr_step
          intro h20 F20 N20
          have up := upd_inner (oq' := listOf (iv ++ [Value.int D.length tk']).toArray (ie + 1)) ap19
          have N21 := N20 _ (fun q hq => (up.1 q hq).imp id (fun h => ⟨.tail _ h.1, h.2⟩))
          clear N20
          ktr_step
          refine ⟨rfl, _, _, extra, lp, pv, pe, T', par, _, _, tk', tk19, ins ++ [D.length], iv ++ [Value.int D.length tk'], ie + 1, _, rfl, fr_eq F20 ?_, N21, M16.step (by omega) S' hT' up.2 mp18 hI18 hp2 (.inl (by decide)) (by decide) (fun e => absurd e (by decide)) (fun e => absurd e (by decide)) ?_ (.inr ⟨rfl, rfl⟩)⟩
          · intro y
            by_cases h : y = Str.ofString "path"
            · subst h; rfl
            · simp only [if_neg h]
              by_cases h2 : y = Str.ofString "node"
              · subst h2; rfl
              · simp only [if_neg h2] <;> rfl
          · rw [← List.cons_append, nats_append]; exact hI.append (.cons _ _ .nil)
        walk1
        ktr_step
        · ktr_call (sub_self _) (text_at ap18 M16.same.t M16.tr M16.fit hp1 hok)
          rintro _ _ h19 tk19 F19 N19 ⟨T', tk', rfl, S', hT', rfl, ap19⟩
          ktr_step
          rename Fr _ _ _ _ => F21
          rename News _ _ _ _ => N21
          refine ⟨rfl, _, _, extra, lp, pv, pe, T', par, _, _, tk', tk19, ins, iv, ie, _, rfl, fr_eq F21 ?_, News.of N21 (fun q hq => .tail _ hq), M16.step (by omega) S' hT' ap19 mp18 hI18 hp2 (.inl (by decide)) (by decide) (fun e => absurd e (by decide)) (fun e => absurd e (by decide)) hI (.inl rfl)⟩
          intro y
          by_cases h : y = Str.ofString "path"
          · subst h; rfl
          · simp only [if_neg h]
            by_cases h2 : y = Str.ofString "node"
            · subst h2; rfl
            · simp only [if_neg h2] <;> rfl
        walk1
        ktr_step
        · ktr_call (sub_self _) (comment_at ap18 M16.same.t M16.tr M16.fit hp1 hok)
          rintro _ _ h19 tk19 F19 N19 ⟨T', tk', rfl, S', hT', rfl, ap19⟩
          ktr_step
          rename Fr _ _ _ _ => F21
          rename News _ _ _ _ => N21
          refine ⟨rfl, _, _, extra, lp, pv, pe, T', par, _, _, tk', tk19, ins, iv, ie, _, rfl, fr_eq F21 ?_, News.of N21 (fun q hq => .tail _ hq), M16.step (by omega) S' hT' ap19 mp18 hI18 hp2 (.inl (by decide)) (by decide) (fun e => absurd e (by decide)) (fun e => absurd e (by decide)) hI (.inl rfl)⟩
          intro y
          by_cases h : y = Str.ofString "path"
          · subst h; rfl
          · simp only [if_neg h]
            by_cases h2 : y = Str.ofString "node"
            · subst h2; rfl
            · simp only [if_neg h2] <;> rfl
        walk1
        ktr_step
        · ktr_call (sub_self _) (instr_at ap18 M16.same.t M16.tr M16.fit hp1 hok)
          rintro _ _ h19 tk19 F19 N19 ⟨T', tk', rfl, S', hT', rfl, ap19⟩
          ktr_step
          rename Fr _ _ _ _ => F21
          rename News _ _ _ _ => N21
          refine ⟨rfl, _, _, extra, lp, pv, pe, T', par, _, _, tk', tk19, ins, iv, ie, _, rfl, fr_eq F21 ?_, News.of N21 (fun q hq => .tail _ hq), M16.step (by omega) S' hT' ap19 mp18 hI18 hp2 (.inl (by decide)) (by decide) (fun e => absurd e (by decide)) (fun e => absurd e (by decide)) hI (.inl rfl)⟩
          intro y
          by_cases h : y = Str.ofString "path"
          · subst h; rfl
          · simp only [if_neg h]
            by_cases h2 : y = Str.ofString "node"
            · subst h2; rfl
            · simp only [if_neg h2] <;> rfl
        obtain ⟨no, hno, hKo, ro, hro⟩ := M16.own hown
        have hdict := M16.rs.dict
        have hv := M16.rs.value hro
        have hi9 : i < 10 := by omega
        walk1
        ktr_step
        · ktr_call (sub_self _) (attr_at ap18 M16.same.t M16.tr M16.fit hno hKo (M16.attrs (fun t ht => kname_ne ⟨i, hi9⟩ ⟨t, by omega⟩ ht) hno))
          rintro _ _ h19 tk19 F19 N19 ⟨T', tk', rfl, S', hT', rfl, ap19⟩
          have md := in_lay (extra := extra) (rest := rest) (X := trObjs w.params T') (x := (I, oI)) (y := (src, o16)) (z := (qI, listOf iv.toArray ie)) (List.mem_append_right _ (rs_d (sub_self (rsObjs R))))
          rw [M16.rd] at md
          have me := in_lay (extra := extra) (rest := rest) (X := trObjs w.params T') (x := (I, oI)) (y := (src, o16)) (z := (qI, listOf iv.toArray ie)) (List.mem_append_right _ (rs_e (sub_self (rsObjs R)) hro))
          have mp := in_lay (extra := extra) (rest := rest) (X := trObjs w.params T') (x := (I, oI)) (y := (src, o16)) (z := (qI, listOf iv.toArray ie)) (List.mem_append_right _ (rs_p (sub_self (rsObjs R)) hro))
          ktr_step
          rename Fr _ _ _ _ => F21
          rename News _ _ _ _ => N21
          refine ⟨rfl, _, _, extra, ro.p, ro.ws, ro.cp, T', some own, _, _, tk', tk19, ins, iv, ie, _, rfl, fr_eq F21 ?_, News.of N21 (fun q hq => .tail _ hq), M16.step (by omega) S' hT' ap19 (List.mem_append_right _ (rs_p (sub_self (rsObjs R)) hro)) ?_ (fun k e => by cases e; exact .tail _ hown) (.inr (by decide)) (by decide) (fun _ => rfl) (fun e => absurd e (by decide)) hI (.inl rfl)⟩
          · intro y
            by_cases h : y = Str.ofString "path"
            · subst h; rfl
            · simp only [if_neg h]
              by_cases h2 : y = Str.ofString "node"
              · subst h2; rfl
              · simp only [if_neg h2] <;> rfl
          · show IntsAre ro.ws (nats (wayOf (bookOf R) own))
            rw [wayOf_eq (book_get hro)]
            exact M16.rs.paths _ (List.mem_of_getElem? hro)
        · ktr_call (sub_self _) (ns_at ap18 M16.same.t M16.tr M16.fit hno hKo (M16.nss (fun t ht => pname_ne ⟨i, hi9⟩ ⟨t, by omega⟩ ht) hno))
          rintro _ _ h19 tk19 F19 N19 ⟨T', tk', rfl, S', hT', rfl, ap19⟩
          have md := in_lay (extra := extra) (rest := rest) (X := trObjs w.params T') (x := (I, oI)) (y := (src, o16)) (z := (qI, listOf iv.toArray ie)) (List.mem_append_right _ (rs_d (sub_self (rsObjs R))))
          rw [M16.rd] at md
          have me := in_lay (extra := extra) (rest := rest) (X := trObjs w.params T') (x := (I, oI)) (y := (src, o16)) (z := (qI, listOf iv.toArray ie)) (List.mem_append_right _ (rs_e (sub_self (rsObjs R)) hro))
          have mp := in_lay (extra := extra) (rest := rest) (X := trObjs w.params T') (x := (I, oI)) (y := (src, o16)) (z := (qI, listOf iv.toArray ie)) (List.mem_append_right _ (rs_p (sub_self (rsObjs R)) hro))
          ktr_step
          rename Fr _ _ _ _ => F21
          rename News _ _ _ _ => N21
          refine ⟨rfl, _, _, extra, ro.p, ro.ws, ro.cp, T', some own, _, _, tk', tk19, ins, iv, ie, _, rfl, fr_eq F21 ?_, News.of N21 (fun q hq => .tail _ hq), M16.step (by omega) S' hT' ap19 (List.mem_append_right _ (rs_p (sub_self (rsObjs R)) hro)) ?_ (fun k e => by cases e; exact .tail _ hown) (.inr (by decide)) (by decide) (fun e => absurd e (by decide)) (fun _ => rfl) hI (.inl rfl)⟩
          · intro y
            by_cases h : y = Str.ofString "path"
            · subst h; rfl
            · simp only [if_neg h]
              by_cases h2 : y = Str.ofString "node"
              · subst h2; rfl
              · simp only [if_neg h2] <;> rfl
          · show IntsAre ro.ws (nats (wayOf (bookOf R) own))
            rw [wayOf_eq (book_get hro)]
            exact M16.rs.paths _ (List.mem_of_getElem? hro)
      case tail =>
        rintro f s' ⟨rfl, h21, tk21, extra, lp, pv, pe, T', par, K, nm, tn, tkk, ins', iv', ie', all, rfl, F21, N21, G⟩
        dsimp only
        have mlp := G.lpIn
        have hIp := G.way
        have hpl : pv.length ≤ 100 := by
          have e1 := hIp.length
          have e2 := way_len M16.inv par
          have e3 := M16.len
          rw [nats_length] at e1
          omega
        have hpn : (nats (pathOf (bookOf R) par)).length ≤ 100 := by rw [← hIp.length]; exact hpl
        ktr_step
        rename _ ∧ _ ∧ AllLt _ _ => l22
        rename News _ _ _ _ => N22
        rename (∀ p : Addr × Obj, p ∈ _ :: all → _) => l23
        rename IntsAre _ (_ ++ [_]) => hI23
        refine row_put M16 G (by omega) (by rw [nats_append]; exact hI23) (by k_asm) N22 l22.1 (fun q hq => l23 q (.tail _ hq)) ?_
        intro h23 tk23 R' nx' M' F23 N23 hI23
        ktr_step
        rename Fr _ _ _ _ => F24
        rename News _ _ _ _ => N24
        refine turn_next F24 N24 (fun _ h => nomatch h) hI23 ?_ ⟨T', _, R', ins', iv', ie', o16, M'⟩
        intro z h1 h2
        simp only [List.mem_cons, List.not_mem_nil, or_false, not_or] at h2
        simp [h1, h2]
  · rintro m₁ nx h tk ⟨T, D, R, ins, iv, ie, o, M⟩ F9 N9
    obtain rfl := M.led
    have hn7' : n7 < 10 := hn7
    have S := M.stand (by omega)
    have N10 := News.of N9 making_sub
    have hsame := M.same.t
    have hrd := M.rd
    clear N9 M
    ktr_step
    rename Fr _ _ _ _ => F11
    rename News _ _ _ _ => N11
    rename (∀ q : Addr × Obj, q ∈ _ → q.1 < _) => l11
    rw [← hsame, ← hrd] at N11
    exact hret _ _ _ _ F11 N11 ⟨_, T, D, R, o, _, rfl, rfl, S, l11⟩
theorem quiet_M31b : True := by
  w_top off
  trivial
section
variable {A : Around} {E : Value → Shared → Prop} {h₀ hp : Heap} {L l a : Addr} {m : Str → Option Value} {news : List (Addr × Obj)} {value slice : PySem.Expr} {vs : List Value} {ns : List Nat} {Q : Value → Shared → Prop} {gs : Array GenState} {dr : Drawn} {tk e : Nat} {os : OsState}
theorem slice_from_sem {x : Nat} {xi : Int} {t : Tok} (F : Fr h₀ L hp m) (N : News h₀ L hp news) (hm : (l, listOf vs.toArray e) ∈ news) (hI : IntsAre vs (nats ns)) (hx : xi = (x : Int)) (hz : vs.length ≤ 1000) (ha : a = hp.objs.size)
    (h : Halt (∀ D ws h', Fr h₀ L h' m → News h₀ L h' ((D, listOf (List.toArray ws) 0) :: news) → (∀ p ∈ news, p.1 < D) → IntsAre ws (nats (ns.drop x)) → Q (.ref D) (Shared.mk h' gs dr tk os)))
    (hs : subscripted slice false (.ref l) (.ref a) = operate [.ref a, .ref l] (getItem (.ref l) (.ref a))) (ht : ∀ r, letTemporaryGo value (.ref l) r = pure ()) :
    wpAny (model prog w) A (subscriptTail value slice (.ref l) (.ref a)) Q E (Shared.mk (hp.push { cls := .type "slice", data := .fields #[.int xi t, .none, .none] }) gs dr tk os) := by
  subst ha
  have hl : hp.IsList l vs.toArray := ⟨_, (N _ hm).1, rfl, e, rfl⟩
  refine kmk_slice_ints (s := Shared.mk hp gs dr tk os) F N hl (.int _ _) .none hI (kmk_from hI (by omega)) rfl (fun D ws h' F' N' l1 hI' _ _ => h D ws h' F' N' l1 ?_) hs ht (by rw [List.size_toArray, sizeLine_eq]; omega)
  rw [show xi.toNat = x by omega, nats_drop] at hI'
  exact hI'
theorem slice_upto_sem {y : Nat} {yi : Int} {t : Tok} (F : Fr h₀ L hp m) (N : News h₀ L hp news) (hm : (l, listOf vs.toArray e) ∈ news) (hI : IntsAre vs (nats ns)) (hy : yi = (y : Int)) (hz : vs.length ≤ 1000) (ha : a = hp.objs.size)
    (h : Halt (∀ D ws h', Fr h₀ L h' m → News h₀ L h' ((D, listOf (List.toArray ws) 0) :: news) → (∀ p ∈ news, p.1 < D) → IntsAre ws (nats (ns.take y)) → Q (.ref D) (Shared.mk h' gs dr tk os)))
    (hs : subscripted slice false (.ref l) (.ref a) = operate [.ref a, .ref l] (getItem (.ref l) (.ref a))) (ht : ∀ r, letTemporaryGo value (.ref l) r = pure ()) :
    wpAny (model prog w) A (subscriptTail value slice (.ref l) (.ref a)) Q E (Shared.mk (hp.push { cls := .type "slice", data := .fields #[.none, .int yi t, .none] }) gs dr tk os) := by
  subst ha
  have hl : hp.IsList l vs.toArray := ⟨_, (N _ hm).1, rfl, e, rfl⟩
  refine kmk_slice_ints (s := Shared.mk hp gs dr tk os) F N hl .none (.int _ _) hI (kmk_upto hI (by omega)) rfl (fun D ws h' F' N' l1 hI' _ _ => h D ws h' F' N' l1 ?_) hs ht (by rw [List.size_toArray, sizeLine_eq]; omega)
  rw [show yi.toNat = y by omega, nats_take] at hI'
  exact hI'
theorem slice_rev_sem {t : Tok} {ops : List Value} (F : Fr h₀ L hp m) (N : News h₀ L hp news) (hm : (l, listOf vs.toArray e) ∈ news) (hI : IntsAre vs (nats ns)) (hz : vs.length ≤ 1000) (ha : a = hp.objs.size)
    (h : Halt (∀ D ws h', Fr h₀ L h' m → News h₀ L h' ((D, listOf (List.toArray ws) 0) :: news) → (∀ p ∈ news, p.1 < D) → IntsAre ws (nats ns.reverse) → Q (.ref D) (Shared.mk h' gs dr tk os)))
    (hs : subscripted slice false (.ref l) (.ref a) = operate ops (getItem (.ref l) (.ref a))) (ht : ∀ r, letTemporaryGo value (.ref l) r = pure ()) :
    wpAny (model prog w) A (subscriptTail value slice (.ref l) (.ref a)) Q E (Shared.mk (hp.push { cls := .type "slice", data := .fields #[.none, .none, .int (-1) t] }) gs dr tk os) := by
  subst ha
  have hl : hp.IsList l vs.toArray := ⟨_, (N _ hm).1, rfl, e, rfl⟩
  refine krv_ints (s := Shared.mk hp gs dr tk os) F N hl (.int _ _) hI (fun D ws h' F' N' l1 hI' _ => h D ws h' F' N' l1 ?_) hs ht (by rw [List.size_toArray, sizeLine_eq]; omega)
  rw [nats_reverse] at hI'
  exact hI'
end
local macro_rules | `(tactic| walk_at "subscriptTail Name Slice ref ref") => `(tactic| (k_here; (with_reducible show wpAny _ _ (subscriptTail _ (PySem.Expr.Slice (some _) none none _) (Value.ref _) (Value.ref _)) _ _ _); k_dflt (refine slice_from_sem (by k_asm) (by k_asm) (by k_mem) (by with_reducible assumption) (by with_reducible assumption) (by omega) rfl ?_ (by with_unfolding_all rfl) (by kmk_pure))))
local macro_rules | `(tactic| walk_at "subscriptTail Name Slice ref ref") => `(tactic| (k_here; (with_reducible show wpAny _ _ (subscriptTail _ (PySem.Expr.Slice none (some _) none _) (Value.ref _) (Value.ref _)) _ _ _); k_dflt (refine slice_upto_sem (by k_asm) (by k_asm) (by k_mem) (by with_reducible assumption) (by with_reducible assumption) (by omega) rfl ?_ (by with_unfolding_all rfl) (by kmk_pure))))
local macro_rules | `(tactic| walk_at "subscriptTail") => `(tactic| (k_here; (with_reducible show wpAny _ _ (subscriptTail (PySem.Expr.Subscript _ _ _) (PySem.Expr.Slice none none (some _) _) (Value.ref _) (Value.ref _)) _ _ _); k_dflt (refine kba_turn (value' := PySem.Expr.Name (PySem.Str.ofString "_") ⟨0, 0, 0, 0⟩) (fun _ => rfl) ?_); k_dflt (refine slice_rev_sem (by k_asm) (by k_asm) (by k_mem) (by with_reducible assumption) (by omega) rfl ?_ (by with_unfolding_all rfl) (by kmk_pure))))
theorem quiet_M32 : True := by
  w_top off
  trivial
set_option maxHeartbeats 4000000 in
theorem loosened_ok {rest : List (Addr × Obj)} {src : Addr} {T : Tr} {D : List Node} {R : Rs} {o : Obj} {nx : List (Addr × Obj)} (S : Stand prog w src rest T D R o nx) :
    Tel prog w (hd.heap_1 w.params) p loose mean mg mb 60 600 nx (call (.ref 332) [.ref src, .ref T.t, .ref R.d]) (fun r n => ∃ T' D' R' o', r = .none ∧ Same T T' ∧ R'.d = R.d ∧ D'.length = D.length ∧ Stand prog w src rest T' D' R' o' n) := by
  unfold Tel
  intro dp un gd cn cs a ccd cl outer A₀ base h₀ L m s Q E B F X N T0 hkf hd hu hret
  obtain rfl := S.led
  have md := rs_d S.rs_sub
  have hdict := S.rs.dict
  have hrl := S.rlen
  have hsm := S.small
  walk1
  rename _ = Data.cell _ => d1
  have e1 : _ = Data.cell (some (.ref R.d)) := d1
  clear d1
  rename (∀ q : Addr × Obj, q ∈ _ → q.1 < _) => lc
  ktr_step
  rename Fr _ _ _ _ => F2
  rename News _ _ _ _ => N2
  k_dflt (refine Assign_Comp_dict F2 rfl (by with_unfolding_all rfl) (by with_unfolding_all rfl) (by decide) rfl (by decide) rfl rfl rfl ?_)
  ktr_step
  refine ⟨R.d, R.o, kvsFrom 0 R.rs, _, rfl, rfl, F2, N2, .tail _ md, hdict, S.rs.low, ?_, fun g => ?_⟩
  · rw [kvsFrom_length, sizeLine_eq]; omega
  refine restT_ind (fun i ys nx => nx = (_, _) :: (trObjs w.params T ++ ((src, o) :: (rsObjs R ++ rest))) ∧ ys.length ≤ i ∧ ∃ ks, IntsAre ys (nats ks) ∧ ∀ k ∈ ks, ∃ r, R.rs[k]? = some r ∧ 1 < r.path.length) ?_ ?_ _ 0 [] _ (Nat.zero_add _) ⟨rfl, Nat.le_refl _, [], .nil, fun _ h => nomatch h⟩
  · rintro i ys _ v I oI C oC D' m₂ h tk E' hi ⟨rfl, hyl, ks, hys, hks⟩ ⟨key, y, hkv, his⟩ hC hx F3 N3 off ne
    obtain ⟨ri, hri⟩ := get_of_lt (l := R.rs) (k := i) (by rw [kvsFrom_length] at hi; exact hi)
    obtain ⟨t, rfl⟩ := key_int hri hkv his
    have vi := S.rs.value hri
    have me := rs_e S.rs_sub hri
    have mp := rs_p S.rs_sub hri
    have hI := S.rs.paths _ (List.mem_of_getElem? hri)
    have hIl := hI.length
    rw [nats_length] at hIl
    have hple := S.inv.len_le (book_get hri)
    dsimp only at hple
    have hil : i < R.rs.length := lt_of_get hri
    have hwl : ri.ws.length ≤ 100 := by omega
    clear hkv his
    ktr_step
    · refine ⟨_, _, _, rfl, F3, N3, off, .tail _ md, rfl, by show ys.length + (0 + 1) ≤ i + 1; omega, ks ++ [i], ?_, fun k hk => ?_⟩
      · rw [nats_append]; exact hys.append (.cons _ _ .nil)
      · rcases List.mem_append.mp hk with hk | hk
        · exact hks k hk
        · rw [List.mem_singleton.mp hk]; exact ⟨ri, hri, by omega⟩
    · exact ⟨_, _, _, rfl, F3, N3, off, .tail _ md, rfl, by omega, ks, hys, hks⟩
  · rintro ys _ ⟨rfl, hyl, ks, hys, hks⟩ D' h3 tk3 F3 N3 o3
    rw [kvsFrom_length] at hyl
    have hyl2 : ys.length ≤ 12 := by omega
    have apC := fun oc => ap_cons (o := oc) S.ap (fun q hq => Nat.ne_of_lt (Nat.lt_succ_of_lt (lc q hq)))
    ktr_step
    rename News _ _ _ _ => N10
    revert N10
    rename News _ _ _ _ => N9
    intro N10
    have ap11 := ap_cons (o := listOf (ys ++ [Value.none]).toArray 0) (apC _) (fun q hq => Nat.ne_of_lt (Heap.lt_size (N9 q (.tail _ (.tail _ hq))).1))
    replace N10 := drop2 (drop2 N10)
    have hv1 : 0 < (ys ++ [Value.none]).length := by simp
    have hv2 : (ys ++ [Value.none]).length ≤ 1000 := by simp; omega
    ktr_call (sub_self _) (one_mid ((_, listOf (ys ++ [Value.none]).toArray 0) :: (_, _) :: trObjs w.params T) _ S.srcOk ap11 (.head _) hv1 hv2)
    rintro r1 _ h12 tk12 F12 N12 ⟨o12, ⟨⟨j1, hr1⟩, ho12⟩, rfl⟩
    have S12 := S.draw ho12
    have ap12 := fun oc => ap_mid (A := (_, _) :: trObjs w.params T) (o' := o12) (apC oc)
    obtain ⟨par, hp1, hp2⟩ := par_drawn hys hr1
    have hh1 := hp1.handed
    clear N10 N9 ap11 o3
    cases par with
    | none =>
      obtain rfl : r1 = .none := hp1
      ktr_step
      walk1
      ktr_step
      rename Fr h₀ _ _ _ => F13
      rename News h₀ _ _ _ => N13
      exact hret _ _ _ _ F13 (News.of N13 fun q hq => .tail _ (.tail _ hq)) ⟨T, D, R, o12, rfl, .refl T, rfl, rfl, S12⟩
    | some k =>
      obtain ⟨t1, rfl⟩ := hp1
      obtain ⟨rk, hrk, hlk⟩ := hks k (hp2 k rfl)
      obtain ⟨n, j, pn, hn, hp, hpn, hkj, hin⟩ := S.parent hrk hlk
      ktr_step
      walk1
      ktr_step
      ktr_call (sub_tail (sub_self _)) (removed_mid (ap12 _) S.tr S.fit hn hp hpn hkj hin)
      rintro _ _ h14 tk14 F14 N14 ⟨T2, rfl, S2, hT2, rfl, ap14⟩
      have rsub : ∀ q ∈ rsObjs R, q ∈ trObjs w.params T2 ++ ((src, o12) :: (rsObjs R ++ rest)) := fun _ hq => List.mem_append_right _ (.tail _ (List.mem_append_left _ hq))
      have md := rs_d rsub
      have me := rs_e rsub hrk
      have mp := rs_p rsub hrk
      have hv := S.rs.value hrk
      have hI := S.rs.paths _ (List.mem_of_getElem? hrk)
      have hIl := hI.length
      rw [nats_length] at hIl
      have hple := S.inv.len_le (book_get hrk)
      dsimp only at hple
      have hkl : k < R.rs.length := lt_of_get hrk
      have hwl : rk.ws.length ≤ 100 := by omega
      ktr_step
      rename Fr _ _ _ _ => F15
      (with_unfolding_all refine' For_invVF F15 ?k1 ?k2 ?_; (case k1 => exact rfl); (case k2 => exact rfl))
      ktr_step
      rename Fr _ _ _ _ => F16
      rename News _ _ _ _ => N16
      refine for_dictY (knd := PySem.intKind prog w) [] (fun i m nx => ∃ R', nx = (_, _) :: (trObjs w.params T2 ++ ((src, o12) :: (rsObjs R' ++ rest))) ∧ Mid R R' k (rk.path.length - 1) i ∧ RsIs prog w R' ∧ Ap nx)
        rfl F16 N16 (.tail _ md) hdict S.rs.low ⟨R, rfl, .refl _ _ _, S.rs, ap14⟩ ?_ ?_
      · rintro i key y v m₁ _ h tk I oI hkv his ⟨R', rfl, Md, hR', hap'⟩ hl hoI F17 N17
        have hik : i < R.rs.length := by have := lt_of_get hkv; rwa [kvsFrom_length] at this
        obtain ⟨r, r', hr, hr', ek, ep⟩ := Md.row hik
        obtain ⟨t, rfl⟩ := key_int hr hkv his
        have hv' := hR'.value hr'
        rw [Md.kvs] at hv'
        have rsub' : ∀ q ∈ rsObjs R', q ∈ trObjs w.params T2 ++ ((src, o12) :: (rsObjs R' ++ rest)) := fun _ hq => List.mem_append_right _ (.tail _ (List.mem_append_left _ hq))
        have md' := rs_d rsub'
        rw [Md.d', Md.o'] at md'
        have me' := rs_e rsub' hr'
        have mp' := rs_p rsub' hr'
        have hI' := hR'.paths _ (List.mem_of_getElem? hr')
        have hIl' := hI'.length
        rw [nats_length] at hIl'
        have hple' := S.inv.len_le (book_get hr)
        dsimp only at hple'
        have hwl' : r'.ws.length ≤ 100 := by rw [hIl', ep]; omega
        have hdd : ((rk.ws.length : Int) - 1) = ((rk.path.length - 1 : Nat) : Int) := by omega
        clear hkv his md me mp hl hI
        show wpAny _ _ _ _ _ _
        k_fold
        ktr_step
        walk1
        ktr_step
        · intro D2 ws2 h18 F18 N18 l18 hI18
          ktr_step
          intro h20 F20 N20
          rename k ∈ r'.path => hg
          have apI := ap_cons (o := oI) hap' hoI
          have up := rs_put2 (P := (I, oI) :: (_, _) :: trObjs w.params T2) (B := rest) (s := (src, o12)) (ws' := ws2) (p' := r'.path.drop (rk.path.length - 1)) (c := 0) hr' apI (fun q hq => Nat.ne_of_lt (l18 q hq))
          have N21 := N20 _ up.1
          clear N20
          ktr_step
          rename Fr _ _ _ _ => F22
          rename News _ _ _ _ => N22
          repeat' (k_unfold; (try dsimp only))
          refine turn_next F22 N22 (one_in ?_) (ap_head up.2).2 ?_ ⟨_, rfl, Md.put hr' hg, rs_set hR' hr' hI18, (ap_head up.2).1⟩
          · rw [← Md.d', ← Md.o']
            exact .tail _ (List.mem_append_right _ (.tail _ (List.mem_append_left _ (.head _))))
          · intro z h1 h2; simp only [List.not_mem_nil, if_false, if_neg h1]
        · rename Fr _ _ _ _ => F22
          rename News _ _ _ _ => N22
          rename ¬ (k ∈ r'.path) => hg
          repeat' (k_unfold; (try dsimp only))
          refine turn_next F22 N22 (one_in (.tail _ md')) hoI ?_ ⟨R', rfl, Md.skip hr' hg, hR', hap'⟩
          intro z h1 h2; simp only [List.not_mem_nil, if_false, if_neg h1]
      · rintro m₁ _ h tk ⟨R', rfl, Md, hR', hap'⟩ hl F17 N17
        rw [kvsFrom_length] at Md
        ktr_step
        rename Fr h₀ _ _ _ => F18
        rename News h₀ _ _ _ => N18
        refine hret _ _ _ _ F18 (News.of N18 fun q hq => .tail _ hq) ⟨T2, cut D k j n.kind, R', o12, rfl, S2, Md.d', cut_length, hT2, by rw [cut_length]; exact hsm, by rw [cut_length]; exact S.pos, ?_, hR', ho12, rfl, (ap_head hap').1⟩
        rw [Md.done]
        exact S.inv.cut hn hp (book_get hrk)
theorem quiet_M32b : True := by
  w_top off
  trivial
section
variable {M : Model} {A : Around} {E : Value → Shared → Prop} {s : Shared} {h₀ : Heap} {L a : Addr} {m : Str → Option Value} {cn : Str} {cs : Scope} {ccd : Value} {cl : List (Str × Addr)} {x : Str} {v : Value} {news : List (Addr × Obj)} {c : Addr} {o : Obj} {v₀ : Option Value}
theorem cell_store {Q : Unit → Shared → Prop} (F : Fr h₀ L s.heap m) (N : News h₀ L s.heap news) (hc : cl.lookup x = some c) (hm : (c, o) ∈ news) (hd : o.data = .cell v₀)
    (h : Halt (∀ h' o', Fr h₀ L h' m → (∀ news', (∀ q ∈ news', q = (c, o') ∨ (q ∈ news ∧ q.1 ≠ c)) → News h₀ L h' news') → o'.data = .cell (some v) → Q () { s with heap := h' }))
    (hk : cs.kind = .function := by rfl) (hx : (envX cn cs L a ccd cl).kindOf x = some .cell := by rfl) : wpAny M A (storeName (envX cn cs L a ccd cl) x v) Q E s := by
  obtain ⟨nw, g, N2, U, _, back⟩ := updF_of_mem N hm
  exact storeX_C F N2 hc U hd (fun h' o' F' N' d' => h h' o' F' (back h' o' N') d') hk hx
end
theorem Stand.upd {src c : Addr} {tl nx : List (Addr × Obj)} {T : Tr} {D : List Node} {R : Rs} {o o1 : Obj} (S : Stand prog w src ((c, o1) :: tl) T D R o nx) (o2 : Obj) :
    (∀ q ∈ trObjs w.params T ++ ((src, o) :: (rsObjs R ++ (c, o2) :: tl)), q = (c, o2) ∨ (q ∈ nx ∧ q.1 ≠ c)) ∧ Stand prog w src ((c, o2) :: tl) T D R o (trObjs w.params T ++ ((src, o) :: (rsObjs R ++ (c, o2) :: tl))) := by
  obtain rfl := S.led
  have e : ∀ z : Addr × Obj, trObjs w.params T ++ ((src, o) :: (rsObjs R ++ z :: tl)) = (trObjs w.params T ++ (src, o) :: rsObjs R) ++ z :: tl := by intro z; simp
  have hap := S.ap
  rw [e] at hap
  obtain ⟨a, b⟩ := upd_mid (o' := o2) hap
  rw [← e, ← e] at a
  rw [← e] at b
  exact ⟨a, S.tr, S.small, S.pos, S.inv, S.rs, S.srcOk, rfl, b⟩
theorem off_two {s a b : Addr} {o1 o2 : Obj} (o1' o2' : Obj) (h : ∀ p ∈ [(a, o1), (b, o2)], p.1 ≠ s) : ∀ p ∈ [(a, o1'), (b, o2')], p.1 ≠ s := fun p hp => by
  rcases List.mem_cons.mp hp with rfl | hp
  · exact h (a, o1) (.head _)
  · rw [List.mem_singleton.mp hp]; exact h (b, o2) (.tail _ (.head _))
theorem upd_three {s a b : Addr} {o o1 o2 : Obj} (o2' : Obj) (h : ∀ p ∈ [(a, o1), (b, o2)], p.1 ≠ s) (hab : a ≠ b) : ∀ q ∈ [(s, o), (a, o1), (b, o2')], q = (b, o2') ∨ (q ∈ [(s, o), (a, o1), (b, o2)] ∧ q.1 ≠ b) := fun q hq => by
  rcases List.mem_cons.mp hq with rfl | hq
  · exact .inr ⟨.head _, Ne.symm (h (b, o2) (.tail _ (.head _)))⟩
  · rcases List.mem_cons.mp hq with rfl | hq
    · exact .inr ⟨.tail _ (.head _), hab⟩
    · rw [List.mem_singleton.mp hq]; exact .inl rfl
section
variable {src c c2 : Addr} {tl nx news : List (Addr × Obj)} {T : Tr} {D : List Node} {R : Rs} {o o1 o2 : Obj} {tt dd : Addr}
theorem Stand.cell (S : Stand prog w src ((c, o1) :: tl) T D R o nx) : (c, o1) ∈ nx := by
  rw [S.led]; exact List.mem_append_right _ (.tail _ (List.mem_append_right _ (.head _)))
theorem Stand.cell2 (S : Stand prog w src ((c, o1) :: (c2, o2) :: tl) T D R o nx) : (c2, o2) ∈ nx := by
  rw [S.led]; exact List.mem_append_right _ (.tail _ (List.mem_append_right _ (.tail _ (.head _))))
theorem ancestors_at {k : Nat} {kt : Tok} {n : Node} {l : List Nat} (ht : T.t = tt) (hsub : ∀ q ∈ trObjs w.params T, q ∈ news) (hT : TrIs T D) (hf : Fit D) (hn : D[k]? = some n) (hup : Up D n.par l) (hl : l.length ≤ 100) :
    Tel prog w (hd.heap_1 w.params) p loose mean mg mb 20 200 news (call (.ref 35) [.ref tt, .int k kt]) (fun r news' => ∃ q vs e, r = .ref q ∧ IntsAre vs (nats l) ∧ news' = (q, listOf vs.toArray e) :: news ∧ ∀ p ∈ news, p.1 < q) := by
  subst ht; exact ancestors_ok hsub hT hf hn hup hl
theorem descendants_at {k : Nat} {kt : Tok} {n : Node} {l : List Nat} (ht : T.t = tt) (hsub : ∀ q ∈ trObjs w.params T, q ∈ news) (hT : TrIs T D) (hf : Fit D) (hn : D[k]? = some n) (hpre : Pre D n.ch l) (hl : l.length ≤ 100) :
    Tel prog w (hd.heap_1 w.params) p loose mean mg mb 20 200 news (call (.ref 28) [.ref tt, .int k kt]) (fun r news' => ∃ q vs e, r = .ref q ∧ IntsAre vs (nats l) ∧ news' = (q, listOf vs.toArray e) :: news ∧ ∀ p ∈ news, p.1 < q) := by
  subst ht; exact descendants_ok hsub hT hf hn hpre hl
theorem with_descendants_at {l : Addr} {vs : List Value} {e : Nat} {ks : List Nat} {ds : Nat → List Nat} (ht : T.t = tt) (hsub : ∀ q ∈ trObjs w.params T, q ∈ news) (hT : TrIs T D) (hf : Fit D)
    (hml : (l, listOf vs.toArray e) ∈ news) (hI : IntsAre vs (nats ks)) (hks : ∀ k ∈ ks, ∃ n, D[k]? = some n ∧ Pre D n.ch (ds k) ∧ (ds k).length ≤ 100) (hlen : ks.length ≤ 100) :
    Tel prog w (hd.heap_1 w.params) p loose mean mg mb 30 300 news (call (.ref 42) [.ref tt, .ref l]) (fun r news' => ∃ q vs e, r = .ref q ∧ IntsAre vs (nats (ks.flatMap fun k => k :: ds k)) ∧ news' = (q, listOf vs.toArray e) :: news ∧ ∀ p ∈ news, p.1 < q) := by
  subst ht; exact with_descendants_ok hsub hT hf hml hI hks hlen
theorem within_at {k : Nat} {kt : Tok} (hd' : R.d = dd) (hsub : ∀ q ∈ rsObjs R, q ∈ news) (hR : RsIs prog w R) (hnd : (R.rs.map (·.path)).Nodup) (hlen : R.rs.length ≤ 60) (hne : ∀ r ∈ R.rs, r.path ≠ []) {l : List Nat} (hl : Lasts (withinPaths R k) l) :
    Tel prog w (hd.heap_1 w.params) p loose mean mg mb 30 300 news (call (.ref 344) [.ref dd, .int k kt]) (fun v news' => ∃ q vs e, v = .ref q ∧ IntsAre vs (nats l) ∧ news' = (q, listOf vs.toArray e) :: news ∧ ∀ p ∈ news, p.1 ≠ q) := by
  subst hd'; exact within_ok hsub hR hnd hlen hne hl
theorem Stand.nodup (S : Stand prog w src tl T D R o nx) : (R.rs.map (·.path)).Nodup := by
  have := S.inv.nodup
  unfold bookOf at this
  rw [List.map_map] at this
  exact this
theorem Stand.ne (S : Stand prog w src tl T D R o nx) : ∀ r ∈ R.rs, r.path ≠ [] := fun r hr => by
  obtain ⟨k, hk⟩ := List.mem_iff_getElem?.mp hr
  exact S.inv.ne (book_get hk)
end
theorem ne_same {A : Around} {E : Value → Shared → Prop} {s : Shared} {h₀ : Heap} {L a b : Addr} {news : List (Addr × Obj)} {xs ys : List Value} {ea eb : Nat} {l : List Nat} {Q : Value → Shared → Prop} (N : News h₀ L s.heap news) (ha : (a, listOf xs.toArray ea) ∈ news) (hb : (b, listOf ys.toArray eb) ∈ news)
    (hi : IntsAre xs (nats l)) (hj : IntsAre ys (nats l)) (hu : A.units + 64 < cLine) (h : Q (.bool false) s) : wpAny (model prog w) A (compareOp .NotEq (.ref a) (.ref b)) Q E s :=
  ke_ne_ints ⟨_, (N _ ha).1, rfl, ea, rfl⟩ ⟨_, (N _ hb).1, rfl, eb, rfl⟩ hi hj hu (by simpa using h)
theorem quiet_M32c : True := by
  w_top off
  trivial
theorem ints_from {vs : List Value} : ∀ (s : Nat), (∀ (j : Nat) (u : Value), vs[j]? = some u → ∃ t, u = .int ((s + j : Nat) : Int) t) → IntsAre vs (nats (List.range' s vs.length)) := by
  induction vs with
  | nil => intro s _; exact .nil
  | cons v r ih =>
    intro s h
    obtain ⟨t, rfl⟩ := h 0 v rfl
    rw [List.length_cons, List.range'_succ, nats_cons]
    refine .cons _ _ (ih (s + 1) fun j u hu => ?_)
    obtain ⟨t2, rfl⟩ := h (j + 1) u (by simpa using hu)
    exact ⟨t2, by rw [show s + 1 + j = s + (j + 1) by omega]⟩
theorem list_rows {A : Around} {E : Value → Shared → Prop} {s : Shared} {h₀ : Heap} {L d : Addr} {m : Str → Option Value} {news : List (Addr × Obj)} {rs : List Rw} {o : Obj} {Q : Value → Shared → Prop} (hh : A.handled = none) (F : Fr h₀ L s.heap m) (N : News h₀ L s.heap news) (hp : (d, o) ∈ news) (hd : o.IsDictOf (PySem.intKind prog w) (kvsFrom 0 rs)) (lo : (d == sysModules) = false) (hn : rs.length ≤ 100)
    (h : Halt (∀ (B : Addr) c vs h' tk, IntsAre vs (nats (List.range rs.length)) → Fr h₀ L h' m → News h₀ L h' ((B, listOf (List.toArray vs) c) :: news) → (∀ q ∈ news, q.1 < B) → Q (.ref B) { s with heap := h', toks := tk })) :
    wpAny (model prog w) A (call (.type "list") [.ref d]) Q E s := by
  obtain ⟨ep, hat⟩ := (kda_dict N hp hd).dictAt
  refine kdl_N (kdl_dict (knd := PySem.intKind prog w) (kvs := kvsFrom 0 rs) (ep := ep) lo) hh F N hat (kdl_size (by rw [kvsFrom_length]; omega)) fun B c h' tk vs F' N' l1 hl hv => ?_
  rw [kvsFrom_length] at hl
  refine h B c vs h' tk ?_ F' N' l1
  rw [← hl, List.range_eq_range']
  refine ints_from 0 fun j u hu => ?_
  obtain ⟨k, x, hx, hk⟩ := hv j u hu
  obtain ⟨r, hr⟩ := get_of_lt (l := rs) (k := j) (by have := lt_of_get hx; rwa [kvsFrom_length] at this)
  rw [Nat.zero_add]
  exact key_int hr hx hk
theorem off3_mid {I C D s : Addr} {A B : List (Addr × Obj)} {o : Obj} (o' : Obj) (h : LCg.Off3 I C D (A ++ (s, o) :: B)) : LCg.Off3 I C D (A ++ (s, o') :: B) := by
  refine LCg.Off3.of fun p hp => ?_
  rcases List.mem_append.mp hp with hp | hp
  · exact h.mem p (List.mem_append_left _ hp)
  · rcases List.mem_cons.mp hp with rfl | hp
    · exact h.mem (s, o) (List.mem_append_right _ (.head _))
    · exact h.mem p (List.mem_append_right _ (.tail _ hp))
theorem ap_three {I C D : Addr} {oI oC oD : Obj} {nx : List (Addr × Obj)} (h : Ap nx) (off : LCg.Off3 I C D nx) (ne : (@Ne Nat I C) ∧ (@Ne Nat I D) ∧ (@Ne Nat C D)) : Ap ((I, oI) :: (C, oC) :: (D, oD) :: nx) := by
  refine ap_cons (ap_cons (ap_cons h fun q hq => (off.mem q hq).2.2) fun q hq => ?_) fun q hq => ?_
  · rcases List.mem_cons.mp hq with rfl | hq
    · exact Ne.symm ne.2.2
    · exact (off.mem q hq).2.1
  · rcases List.mem_cons.mp hq with rfl | hq
    · exact Ne.symm ne.1
    · rcases List.mem_cons.mp hq with rfl | hq
      · exact Ne.symm ne.2.1
      · exact (off.mem q hq).1
theorem Stand.lasts {src : Addr} {rest nx : List (Addr × Obj)} {T : Tr} {D : List Node} {R : Rs} {o : Obj} (S : Stand prog w src rest T D R o nx) :
    ∃ ds : Nat → List Nat, ∀ k, k < D.length → ∃ n, D[k]? = some n ∧ Pre D n.ch (ds k) ∧ (ds k).length ≤ 11 ∧ Lasts (withinPaths R k) (ds k) := by
  have H : ∀ k, ∃ out, k < D.length → ∃ n, D[k]? = some n ∧ Pre D n.ch out ∧ out.length ≤ 11 ∧ Lasts (withinPaths R k) out := fun k => by
    by_cases hk : k < D.length
    · obtain ⟨n, hn⟩ := get_of_lt hk
      obtain ⟨out, h1, h2, h3⟩ := S.inv.lasts hn
      exact ⟨out, fun _ => ⟨n, hn, h1, Nat.le_trans h2 S.small, h3⟩⟩
    · exact ⟨[], fun h => absurd h hk⟩
  exact ⟨fun k => Classical.choose (H k), fun k => Classical.choose_spec (H k)⟩
theorem due_len {ks : List Nat} {ds : Nat → List Nat} {n : Nat} (h : ∀ k ∈ ks, (ds k).length ≤ n) (i : Nat) : ((ks.take i).flatMap fun k => k :: ds k).length ≤ (n + 1) * i := by
  induction i with
  | zero => simp
  | succ j ih =>
    rw [List.take_add_one, List.flatMap_append, List.length_append]
    have e : (n + 1) * (j + 1) = (n + 1) * j + (n + 1) := by rw [Nat.mul_add, Nat.mul_one]
    rw [e]
    refine Nat.add_le_add ih ?_
    cases hj : ks[j]? with
    | none => simp
    | some x =>
      have := h x (List.mem_of_getElem? hj)
      simp; omega
theorem due_step {ks : List Nat} {ds : Nat → List Nat} {i k : Nat} (hk : ks[i]? = some k) : ((ks.take (i + 1)).flatMap fun k => k :: ds k) = ((ks.take i).flatMap fun k => k :: ds k) ++ k :: ds k := by
  rw [List.take_add_one, hk, List.flatMap_append]
  simp
theorem len_rows {A : Around} {E : Value → Shared → Prop} {s : Shared} {h₀ : Heap} {L d : Addr} {news : List (Addr × Obj)} {rs : List Rw} {o : Obj} {Q : Value → Shared → Prop} (N : News h₀ L s.heap news) (hp : (d, o) ∈ news) (hd : o.IsDictOf (PySem.intKind prog w) (kvsFrom 0 rs)) (lo : (d == sysModules) = false) (hn : rs.length ≤ 100)
    (h : ∀ t tk, Q (.int (rs.length : Nat) t) { s with toks := tk }) : wpAny (model prog w) A (call (.builtin "len") [.ref d]) Q E s :=
  kda_len N hp hd lo (by rw [kvsFrom_length]; omega) (by rw [kvsFrom_length]; exact h _ _)
theorem telx_weak {K : Frag} {dep uni dep' uni' : Nat} {C : Addr} {pre : List (Addr × Obj)} {tree : Sem Value} (X : TelX prog w K p loose mean mg mb dep uni C pre tree) (h1 : dep ≤ dep') (h2 : uni ≤ uni') : TelX prog w K p loose mean mg mb dep' uni' C pre tree := by
  intro dp un gd cn cs a ccd cl outer A₀ base h₀ L m s Q E B F X' N T0 hk hd hu ret
  exact X dp un gd cn cs a ccd cl outer A₀ base h₀ L m s Q E B F X' N T0 hk (by omega) (by omega) ret
section
variable {news : List (Addr × Obj)} {T : Tr} {D : List Node} {tt : Addr} {x : Int} {t : Tok}
theorem anc_x (ht : T.t = tt) (hsub : ∀ q ∈ trObjs w.params T, q ∈ news) (hbig : T.nodes.length ≤ 1000) (hx : ¬ (0 ≤ x ∧ x < T.nodes.length)) :
    TelX prog w (hd.heap_1 w.params) p loose mean mg mb 70 700 72 news (call (.ref 35) [.ref tt, .int x t]) := by
  subst ht; exact telx_weak (ancestors_raise hsub hbig hx) (by decide) (by decide)
theorem desc_x (ht : T.t = tt) (hsub : ∀ q ∈ trObjs w.params T, q ∈ news) (hbig : T.nodes.length ≤ 1000) (hx : ¬ (0 ≤ x ∧ x < T.nodes.length)) :
    TelX prog w (hd.heap_1 w.params) p loose mean mg mb 70 700 72 news (call (.ref 28) [.ref tt, .int x t]) := by
  subst ht; exact telx_weak (descendants_raise hsub hbig hx) (by decide) (by decide)
theorem with_x {l : Addr} {vs : List Value} {e b : Nat} {ks : List Nat} {ds : Nat → List Nat} (ht : T.t = tt) (hsub : ∀ q ∈ trObjs w.params T, q ∈ news) (hT : TrIs T D) (hf : Fit D)
    (hml : (l, listOf vs.toArray e) ∈ news) (hI : IntsAre vs (nats (ks ++ [b]))) (hb : T.nodes.length ≤ b) (hks : ∀ k ∈ ks, ∃ n, D[k]? = some n ∧ Pre D n.ch (ds k) ∧ (ds k).length ≤ 100) (hlen : ks.length ≤ 99) :
    TelX prog w (hd.heap_1 w.params) p loose mean mg mb 70 700 72 news (call (.ref 42) [.ref tt, .ref l]) := by
  subst ht; exact with_descendants_raise hsub hT hf hml hI hb hks hlen
end
local macro_rules | `(tactic| walk_at "compareOp NotEq ref ref") => `(tactic| (k_here; (with_reducible show wpAny _ _ (compareOp CmpOp.NotEq (Value.ref _) (Value.ref _)) _ _ _); k_dflt (refine' ne_same ?N ?a ?b ?i ?j ?u ?_; (case N => k_asm); (case a => k_mem); (case b => k_mem); (case i => with_reducible assumption); (case j => with_reducible assumption); (case u => units_room))))
local macro_rules | `(tactic| walk_at "call type:list") => `(tactic| (k_here; (with_reducible show wpAny _ _ (call (Value.type "list") [Value.ref _]) _ _ _); k_dflt (refine' list_rows ?h ?F ?N ?p ?d ?l ?n ?_; (case h => exact rfl); (case F => k_asm); (case N => k_asm); (case p => k_mem); (case d => with_reducible assumption); (case l => with_reducible assumption); (case n => with_reducible assumption))))
local macro_rules | `(tactic| walk_at "call builtin:len") => `(tactic| (k_here; (with_reducible show wpAny _ _ (call (Value.builtin _) [Value.ref _]) _ _ _); k_dflt (refine' len_rows ?N ?p ?d ?l ?n ?_; (case N => k_asm); (case p => k_mem); (case d => with_reducible assumption); (case l => with_reducible assumption); (case n => with_reducible assumption)); intro t' tk'))
theorem quiet_M33 : True := by
  w_top off
  trivial
theorem ap_two {a : Addr} {o o' : Obj} : Ap [(a + 1, o), (a, o')] := by
  unfold Ap
  simp only [List.map_cons, List.map_nil, List.nodup_cons, List.mem_singleton, List.not_mem_nil, not_false_eq_true, List.nodup_nil, and_true]
  exact Nat.succ_ne_self _
def doc3 : List Node := addNode doc2 (some 1) (Str.ofString "element")
def doc4 : List Node := addNode doc3 (some 2) (Str.ofString "text")
def doc5 : List Node := addNode doc4 (some 2) (Str.ofString "comment")
theorem fit_doc2 : Fit doc2 := fit_root.addNode (by decide) _ _
theorem fit_doc3 : Fit doc3 := fit_doc2.addNode (by decide) _ _
theorem fit_doc4 : Fit doc4 := fit_doc3.addNode (by decide) _ _
theorem fit_doc5 : Fit doc5 := fit_doc4.addNode (by decide) _ _
theorem pre_doc5 : ∃ n, doc5[0]? = some n ∧ Pre doc5 n.ch [1, 2, 3, 4] :=
  ⟨_, rfl, .cons (k := 1) rfl (.cons (k := 2) rfl (.cons (k := 3) rfl (.cons (k := 4) rfl .nil)))⟩
theorem par_doc2 : ParOk doc2 (some 1) := ⟨_, rfl, by decide⟩
theorem par_doc3 : ParOk doc3 (some 2) := ⟨_, rfl, by decide⟩
theorem par_doc4 : ParOk doc4 (some 2) := ⟨_, rfl, by decide⟩
theorem same_tA {P : Params} {T T' : Tr} {rest : List (Addr × Obj)} (_ : Ap (trObjs P T' ++ rest)) (S : Same T T') : (T.t, instObj 295 T.d) ∈ trObjs P T' ++ rest := same_t S
theorem same_dA {P : Params} {T T' : Tr} {rest : List (Addr × Obj)} (_ : Ap (trObjs P T' ++ rest)) (S : Same T T') : (T.d, dictOf [⟨PyData.keyHash P (Str.ofString "rows"), .str (Str.ofString "rows") T.tk, .ref T.r⟩] 1) ∈ trObjs P T' ++ rest := same_d S
theorem post_ok (ns : List Int) : (PySem.Challenge.rw_xm0666_01.row.claim).post [ofPy (PyData.list (List.map PyData.int ns))] (.bool true) [ofPy (PyData.list (List.map PyData.int ns))] = true := by
  refine' postW_of (X := (true == true)) ?s1 ?s2 ?s3
  case s1 => wrow_shape
  case s2 => wtm_val
  case s3 => rfl
set_option maxHeartbeats 8000000 in
theorem J : PySem.Challenge.rw_xm0666_01.Holds := hd (by
  k_go0
  rename World => w
  rename_i w1 w2 dl dr N0 X0
  have c1 : w1.data = Data.cell none := dl
  have c2 : w2.data = Data.cell none := dr
  clear dl dr X0
  show wpAny _ _ _ _ _ _
  k_fold
  ktr_step
  ktr_call (sub_self _) (tree_made ap_two)
  rintro _ _ h1 tk1 F1 N1 ⟨T1, rfl, e1, rfl, hap1⟩
  have m1 := same_tA hap1 (.refl T1)
  have m2 := same_dA hap1 (.refl T1)
  ktr_step
  ktr_call (sub_self _) (new_root_doc hap1 (trIs_nil e1) fit_nil)
  rintro _ _ h2 tk2 F2 N2 ⟨T2, tk2, rfl, S2, hT2, rfl, hap2⟩
  clear m1 m2
  have m1 := same_tA hap2 S2
  have m2 := same_dA hap2 S2
  ktr_step
  rw [← S2.t]
  ktr_call (sub_self _) (add_element_doc (par := some 0) hap2 hT2 fit_root ⟨_, rfl⟩ ⟨rootNode, rfl, by decide⟩)
  rintro _ _ h3 tk3 F3 N3 ⟨T3, tk3, rfl, S3, hT3, rfl, hap3⟩
  replace hT3 : TrIs T3 doc2 := hT3
  replace S3 := S2.trans S3
  clear m1 m2
  have m1 := same_tA hap3 S3
  have m2 := same_dA hap3 S3
  ktr_step
  rw [← S3.t]
  ktr_call (sub_self _) (add_element_doc (par := some 1) hap3 hT3 fit_doc2 ⟨_, rfl⟩ par_doc2)
  rintro _ _ h4 tk4 F4 N4 ⟨T4, tk4, rfl, S4, hT4, rfl, hap4⟩
  replace hT4 : TrIs T4 doc3 := hT4
  replace S4 := S3.trans S4
  clear m1 m2
  have m1 := same_tA hap4 S4
  have m2 := same_dA hap4 S4
  ktr_step
  rw [← S4.t]
  ktr_call (sub_self _) (add_text_doc (par := some 2) hap4 hT4 fit_doc3 ⟨_, rfl⟩ par_doc3)
  rintro _ _ h5 tk5 F5 N5 ⟨T5, tk5, rfl, S5, hT5, rfl, hap5⟩
  replace hT5 : TrIs T5 doc4 := hT5
  replace S5 := S4.trans S5
  clear m1 m2
  have m1 := same_tA hap5 S5
  have m2 := same_dA hap5 S5
  ktr_step
  rw [← S5.t]
  ktr_call (sub_self _) (add_comment_doc (par := some 2) hap5 hT5 fit_doc4 ⟨_, rfl⟩ par_doc4)
  rintro _ _ h6 tk6 F6 N6 ⟨T6, tk6, rfl, S6, hT6, rfl, hap6⟩
  replace hT6 : TrIs T6 doc5 := hT6
  replace S6 := S5.trans S6
  clear m1 m2
  have m1 := same_tA hap6 S6
  have m2 := same_dA hap6 S6
  ktr_step
  walk1
  ktr_step
  rw [← S6.t]
  obtain ⟨n5, hn5, hp5⟩ := pre_doc5
  ktr_call (sub_self _) (descendants_ok (sub_tail (sub_left (sub_self _))) hT6 fit_doc5 hn5 hp5 (by decide))
  rintro _ _ h7 tk7 F7 N7 ⟨q7, vs7, e7, rfl, hI7, rfl, l7⟩
  ktr_step
  rename News _ _ _ _ => N8
  replace N8 := News.of (l' := [(_, w1), (_, w2)]) N8 (fun q hq => .tail _ (.tail _ (.tail _ (.tail _ (List.mem_append_right _ hq)))))
  clear hap1 hap2 hap3 hap4 hap5 hap6 S2 S3 S4 S5 S6 m1 m2 N0 l7 hT2 hT3 hT4 hT5 hT6
  k_dflt (refine' pool_ok ?B ?F ?X N8 ?T ?hk ?hd ?hu ?l ?i ?n ?_; (case B => k_asm); (case F => k_asm); (case X => k_asm); (case T => k_asm); (case hk => exact rfl); (case hd => ktr_room); (case hu => ktr_units); (case l => assumption); (case i => assumption); (case n => omega))
  intro src o9 h9 tk9 hso9 hq9 F9 N9
  ktr_step
  k_dflt (refine' cell_store (o := w2) F9 N9 ?c ?m c2 ?_; (case c => rfl); (case m => exact .tail _ (.tail _ (.head _))))
  intro h10 ws F10 N10 dws
  have hq10 := off_two w1 ws hq9
  have N11 := N10 _ (upd_three ws hq9 (Nat.succ_ne_self _))
  clear N10 N9
  ktr_step
  ktr_call (sub_self _) (grown_ok hso9 (ap_cons ap_two hq10))
  rintro _ _ h12 tk12 F12 N12 ⟨q12, T, D, R, o12, nx12, rfl, rfl, S12, l12⟩
  ktr_step
  rename Fr _ _ _ _ => F13
  rename News _ _ _ _ => N13
  have N14 := News.of (l' := nx12) N13 (fun q hq => .tail _ hq)
  k_dflt (refine' cell_store (o := w1) F13 N14 ?c ?m c1 ?_; (case c => rfl); (case m => exact S12.cell))
  intro h14 wr F14 N15 dwr
  obtain ⟨up, S14⟩ := S12.upd wr
  have N16 := N15 _ up
  clear N15 N14 N13 up S12 l12
  have mc1 := S14.cell
  have mc2 := S14.cell2
  ktr_step
  ktr_call (sub_self _) (loosened_ok S14)
  rintro _ nx17 h17 tk17 F17 N17 ⟨T2, D2, R2, o17, rfl, Sm, hd2, hl2, S17⟩
  obtain rfl := S17.led
  clear mc1 mc2 N16
  have hsm := S17.small
  have hrl := S17.rlen
  have hdict := S17.rs.dict
  have md := rs_d S17.rs_sub
  rw [hd2] at md
  have mc1 := S17.cell
  have mc2 := S17.cell2
  ktr_step
  rename Fr _ _ _ _ => F18
  (with_unfolding_all refine' For_invVF F18 ?k1 ?k2 ?_; (case k1 => exact rfl); (case k2 => exact rfl))
  ktr_step
  rename Fr _ _ _ _ => F19
  rename News _ _ _ _ => N19
  refine for_dictY (knd := PySem.intKind _ w) [Str.ofString "way"] (fun i m nx => nx = trObjs w.params T2 ++ ((src, o17) :: (rsObjs R2 ++ [(_, wr), (_, ws)])))
        rfl F19 N19 md hdict (hd2 ▸ S17.rs.low) rfl ?_ ?_
  · rintro i key y v m₁ _ h tk I oI hkv his rfl hl hoI F20 N20
    have hik : i < R2.rs.length := by have := lt_of_get hkv; rwa [kvsFrom_length] at this
    obtain ⟨r, hr⟩ := get_of_lt hik
    obtain ⟨t, rfl⟩ := key_int hr hkv his
    have hv := S17.rs.value hr
    have me := rs_e S17.rs_sub hr
    have mp := rs_p S17.rs_sub hr
    have hI := S17.rs.paths _ (List.mem_of_getElem? hr)
    have hIl := hI.length
    rw [nats_length] at hIl
    have hple := S17.inv.len_le (book_get hr)
    dsimp only at hple
    have hpos := List.length_pos_iff.mpr (S17.inv.ne (book_get hr))
    dsimp only at hpos
    have hwl : r.ws.length ≤ 100 := by omega
    have hdd : ((r.ws.length : Int) - 1) = ((r.path.length - 1 : Nat) : Int) := by omega
    obtain ⟨n, hn⟩ := S17.inv.node (book_get hr)
    have hup := S17.inv.up _ _ _ hn (book_get hr)
    obtain ⟨out, hpre, hol, hlst⟩ := S17.inv.lasts hn
    clear hkv his
    show wpAny _ _ _ _ _ _
    k_fold
    ktr_step
    walk1
    ktr_step
    ktr_call (sub_self _) (ancestors_at Sm.t (sub_tail S17.tr_sub) S17.tr S17.fit hn hup (by simp; omega))
    rintro _ _ h21 tk21 F21 N21 ⟨q21, vs21, e21, rfl, hI21, rfl, l21⟩
    dsimp only at hI21
    ktr_step
    intro D3 ws3 h22 F22 N22 l22 hI22
    have hwl3 : ws3.length ≤ 100 := by have e := hI22.length; rw [nats_length, List.length_take] at e; omega
    ktr_step
    intro D4 ws4 h23 F23 N23 l23 hI23
    rw [← List.dropLast_eq_take] at hI23
    ktr_step
    rename News _ _ _ _ => N24
    have N25 := News.of N24 (fun q hq => .tail _ (.tail _ (.tail _ hq)))
    clear N24
    ktr_call (sub_self _) (descendants_at Sm.t (sub_tail S17.tr_sub) S17.tr S17.fit hn hpre (by omega))
    rintro _ _ h26 tk26 F26 N26 ⟨q26, vs26, e26, rfl, hI26, rfl, l26⟩
    ktr_step
    ktr_call (sub_self _) (within_at hd2 (sub_tail (sub_tail S17.rs_sub)) S17.rs S17.nodup (by omega) S17.ne hlst)
    rintro _ _ h27 tk27 F27 N27 ⟨q27, vs27, e27, rfl, hI27, rfl, l27⟩
    ktr_step
    rename Fr _ _ _ _ => F28
    rename News _ _ _ _ => N28
    repeat' (k_unfold; (try dsimp only))
    refine turn_next F28 (News.of N28 (fun q hq => .tail _ (.tail _ hq))) (one_in hl) hoI ?_ rfl
    intro z h1 h2
    simp only [List.mem_cons, List.not_mem_nil, or_false] at h2
    simp [h1, h2]
  · rintro m₁ _ h tk rfl hl F20 N20
    clear hl
    ktr_step
    k_dflt (refine LCg.ListComp_U (F₀ := by k_asm) (by with_unfolding_all rfl) (by decide) rfl (by decide) rfl ?_)
    have mc1 := S17.cell
    have mc2 := S17.cell2
    ktr_step
    ktr_call (sub_self _) (take_mid _ _ S17.srcOk S17.ap (by decide) (by decide))
    rintro _ _ h31 tk31 F31 N31 ⟨o31, ⟨⟨n31, t31, rfl, hn31⟩, ho31⟩, rfl⟩
    have S31 := S17.draw ho31
    clear mc1 mc2
    have hlo : (R.d == sysModules) = false := hd2 ▸ S17.rs.low
    have hn2 : R2.rs.length ≤ 100 := by omega
    have hn31' : n31 < 5 := hn31
    repeat' ((fail_if_success (with_reducible show LCg.CompSrc _ _ _ _ _ _ _ _ _ _ _ _ _ _)); walk1)
    rename Fr _ _ _ _ => F32
    rename News _ _ _ _ => N32
    rename IsRange _ _ _ _ _ _ _ _ => hR32
    refine LCg.CompSrc.range (n := n31) rfl F32 N32 hR32 (small_one (by decide) (by decide) (by omega) (by omega)) (by rw [rangeSize_one]; split <;> omega) (by rw [sizeLine_eq]; omega) fun g => ?_
    refine rest_ind (fun i ys nx => ∃ o ks, nx = trObjs w.params T2 ++ ((src, o) :: (rsObjs R2 ++ [(_, wr), (_, ws)])) ∧ SrcOk o ∧ ys.length = i ∧ IntsAre ys (nats ks) ∧ ∀ k ∈ ks, k < R2.rs.length) ?_ ?_ _ 0 [] _ (Nat.zero_add _) ⟨_, [], rfl, ho31, rfl, .nil, fun _ h => nomatch h⟩
    · rintro i ys _ v I oI C oC D m₂ h tk E' hi ⟨o, ks, rfl, hso, hyl, hys, hks⟩ ⟨t, rfl⟩ hC hx F33 N33 off ne
      have S33 := S17.draw hso
      have mc1 := S33.cell
      have mc2 := S33.cell2
      have md := rs_d S33.rs_sub
      rw [hd2] at md
      ktr_step
      intro B c vs h34 tk34 hI34 F34 N34 l34
      ktr_step
      have hrp := S17.pos
      ktr_call (sub_self _) (one_midI (A := (I, oI) :: (C, oC) :: (D, LCg.lst ys) :: trObjs w.params T2) hI34 hso (fun ox => ap_cons (ap_three S33.ap off ne) (fun q hq => Nat.ne_of_lt (l34 q hq))) (by rw [List.length_range]; omega) (by rw [List.length_range]; omega))
      rintro _ _ h35 tk35 F35 N35 ⟨o35, ⟨⟨k35, t35, rfl, hk35⟩, ho35⟩, rfl⟩
      refine ⟨_, _, trObjs w.params T2 ++ ((src, o35) :: (rsObjs R2 ++ [(_, wr), (_, ws)])), rfl, F35, News.of N35 (fun q hq => .tail _ hq), off3_mid o35 off, trivial, o35, ks ++ [k35], rfl, ho35, ?_, ?_, ?_⟩
      · first | (show ys.length + (0 + 1) = i + 1; omega) | (rw [List.length_append, List.length_singleton]; omega) | (simp [hyl]; done)
      · rw [nats_append]; exact hys.append (.cons _ _ .nil)
      · intro k hk
        rcases List.mem_append.mp hk with hk | hk
        · exact hks k hk
        · rw [List.mem_singleton.mp hk]; exact List.mem_range.mp hk35
    · rintro ys _ ⟨o36, ks, rfl, hso36, hyl, hys, hks⟩ Dc h36 tk36 F36 N36 o1c
      have S36 := S17.draw hso36
      obtain ⟨ds, hds⟩ := S36.lasts
      have hyl2 : ks.length = n31 := by have e := hys.length; rw [nats_length] at e; omega
      ktr_step
      rename Fr _ _ _ _ => F37
      (with_unfolding_all refine' For_invVF F37 ?k1 ?k2 ?_; (case k1 => exact rfl); (case k2 => exact rfl))
      ktr_step
      rename Fr _ _ _ _ => F38
      rename News _ _ _ _ => N38
      refine for_listY (vs := ys) (e := ys.length) [Str.ofString "due"] (fun i m nx => ∃ q vs e, m (Str.ofString "due") = some (.ref q) ∧ IntsAre vs (nats ((ks.take i).flatMap fun k => k :: ds k)) ∧ nx = (q, listOf vs.toArray e) :: (Dc, listOf ys.toArray ys.length) :: (trObjs w.params T2 ++ ((src, o36) :: (rsObjs R2 ++ [(_, wr), (_, ws)]))))
        rfl F38 (News.of N38 (fun q hq => .tail _ hq)) (.tail _ (.head _)) ⟨_, [], 0, rfl, .nil, rfl⟩ ?_ ?_
      · rintro i v m₁ _ h tk I oI hv ⟨q, vs, e, hdu, hId, rfl⟩ hl hoI F39 N39
        have F40 := fr_pin F39 (x := Str.ofString "due") (v := .ref q) (by exact hdu)
        clear F39
        obtain ⟨k, t, rfl, hk⟩ := nats_get hys hv
        have hkl := hks k (List.mem_of_getElem? hk)
        obtain ⟨n, hn, hpre, hdl, hlst⟩ := hds k (by omega)
        have hil := lt_of_get hk
        have hnl : (nats ((ks.take i).flatMap fun k => k :: ds k)).length ≤ 1000 := by
          rw [nats_length]
          have := due_len (n := 11) (fun k hk => let ⟨_, _, _, h, _⟩ := hds k (by have := hks k hk; omega); h) i
          omega
        have hdl2 : (nats (ds k)).length ≤ 11 := by rw [nats_length]; exact hdl
        have mc1 : (_, wr) ∈ (Dc, listOf ys.toArray ys.length) :: (trObjs w.params T2 ++ ((src, o36) :: (rsObjs R2 ++ [(_, wr), (_, ws)]))) := .tail _ S36.cell
        have mc2 : (_, ws) ∈ (Dc, listOf ys.toArray ys.length) :: (trObjs w.params T2 ++ ((src, o36) :: (rsObjs R2 ++ [(_, wr), (_, ws)]))) := .tail _ S36.cell2
        show wpAny _ _ _ _ _ _
        k_fold
        ktr_step
        rename IntsAre _ (_ ++ [_]) => hI41
        rename News _ _ _ _ => N41
        have N42 := News.of (l' := (_, listOf (List.toArray _) 0) :: (I, oI) :: (Dc, listOf ys.toArray ys.length) :: (trObjs w.params T2 ++ ((src, o36) :: (rsObjs R2 ++ [(_, wr), (_, ws)])))) N41 (fun x hx => by
          rcases List.mem_cons.mp hx with rfl | hx
          · exact .head _
          · rcases List.mem_cons.mp hx with rfl | hx
            · exact .tail _ (.tail _ (.head _))
            · exact .tail _ (.tail _ (.tail _ (.tail _ hx))))
        clear N41
        ktr_call (sub_self _) (within_at hd2 (sub_tail (sub_tail (sub_tail S36.rs_sub))) S36.rs S36.nodup (by omega) S36.ne hlst)
        rintro _ _ h43 tk43 F43 N43 ⟨q43, vs43, e43, rfl, hI43, rfl, l43⟩
        ktr_step
        rename Fr _ _ _ _ => F44
        rename News _ _ _ _ => N44
        rename IntsAre _ (_ ++ _ ++ _) => hI44
        rename (∀ x : Addr × Obj, x ∈ (q43, _) :: _ → x.1 < _) => l44
        have N45 := News.of (l' := (I, oI) :: (_, listOf (List.toArray _) 0) :: (Dc, listOf ys.toArray ys.length) :: (trObjs w.params T2 ++ ((src, o36) :: (rsObjs R2 ++ [(_, wr), (_, ws)])))) N44 (fun x hx => by
          rcases List.mem_cons.mp hx with rfl | hx
          · exact .tail _ (.tail _ (.tail _ (.head _)))
          · rcases List.mem_cons.mp hx with rfl | hx
            · exact .head _
            · exact .tail _ (.tail _ (.tail _ (.tail _ hx))))
        refine turn_next F44 N45 (one_in (.tail _ (.head _))) ?_ ?_ ⟨_, _, 0, rfl, ?_, rfl⟩
        · intro x hx
          rcases List.mem_cons.mp hx with rfl | hx
          · exact Nat.ne_of_gt (l44 (I, oI) (.tail _ (.tail _ (.head _))))
          · exact hoI x (.tail _ hx)
        · intro z h1 h2
          simp only [List.mem_cons, List.not_mem_nil, or_false] at h2
          simp [h1, h2]
        · rw [due_step hk, nats_append, nats_cons]
          rw [List.append_assoc] at hI44
          exact hI44
      · rintro m₁ _ h tk ⟨q, vs, e, hdu, hId, rfl⟩ hl F39 N39
        have F40 := fr_pin F39 (x := Str.ofString "due") (v := .ref q) (by exact hdu)
        clear F39
        rw [show ys.length = ks.length by omega, List.take_length] at hId
        have mc1 := S36.cell
        have mc2 := S36.cell2
        ktr_step
        walk1
        ktr_step
        have hks' : ∀ k ∈ ks, ∃ n, D2[k]? = some n ∧ Pre D2 n.ch (ds k) ∧ (ds k).length ≤ 100 := fun k hk => let ⟨n, a, b, c, _⟩ := hds k (by have := hks k hk; omega); ⟨n, a, b, by omega⟩
        ktr_call (sub_self _) (with_descendants_at Sm.t (sub_tail (sub_tail S36.tr_sub)) S36.tr S36.fit (.tail _ (.head _)) hys hks' (by omega))
        rintro _ _ h51 tk51 F51 N51 ⟨q51, vs51, e51, rfl, hI51, rfl, l51⟩
        ktr_step
        rename News _ _ _ _ => N52
        have N53 := News.of (l' := (Dc, listOf ys.toArray ys.length) :: (trObjs w.params T2 ++ ((src, o36) :: (rsObjs R2 ++ [(_, wr), (_, ws)])))) N52 (fun x hx => .tail _ (.tail _ hx))
        clear N52 mc1 mc2
        have mc1 := S36.cell
        have mc2 := S36.cell2
        have md := rs_d S36.rs_sub
        rw [hd2] at md
        have htl := S36.tr.len
        have hlo : (R.d == sysModules) = false := hd2 ▸ S17.rs.low
        have hn2 : R2.rs.length ≤ 100 := by omega
        walk1
        repeat' ((fail_if_success (with_reducible show wpAny _ _ (call (Value.ref _) _) _ _ _)); walk1)
        k_dflt (refine' refused_35 (T := T) ?hx ?B ?F ?X N53 ?T ?XB ?TB ?hk ?hd ?hu ?_; (case B => k_asm); (case F => k_asm); (case X => k_asm); (case T => k_asm); (case XB => k_asm); (case TB => k_asm); (case hk => exact rfl); (case hd => ktr_room); (case hu => ktr_units))
        case hx => exact anc_x Sm.t (sub_tail S36.tr_sub) (by omega) (by omega)
        intro h54 tk54 F54 N54
        clear N53
        have N53 := N54
        clear N54
        repeat' ((fail_if_success (with_reducible show wpAny _ _ (call (Value.ref _) _) _ _ _)); walk1)
        k_dflt (refine' refused_28 (T := T) ?hx ?B ?F ?X N53 ?T ?XB ?TB ?hk ?hd ?hu ?_; (case B => k_asm); (case F => k_asm); (case X => k_asm); (case T => k_asm); (case XB => k_asm); (case TB => k_asm); (case hk => exact rfl); (case hd => ktr_room); (case hu => ktr_units))
        case hx => exact desc_x Sm.t (sub_tail S36.tr_sub) (by omega) (by omega)
        intro h55 tk55 F55 N55
        clear N53
        have hkl : (nats ks).length ≤ 100 := by rw [nats_length]; omega
        ktr_step
        rename IntsAre _ (_ ++ [_]) => hI56
        have hI57 := hI56
        rw [show nats ks ++ [((R2.rs.length : Nat) : Int)] = nats (ks ++ [R2.rs.length]) from (nats_append ks [R2.rs.length]).symm] at hI57
        rename News _ _ _ _ => N56
        k_dflt (refine' refused_42 (T := T) ?hx ?B ?F ?X N56 ?T ?XB ?TB ?hk ?hd ?hu ?_; (case B => k_asm); (case F => k_asm); (case X => k_asm); (case T => k_asm); (case XB => k_asm); (case TB => k_asm); (case hk => exact rfl); (case hd => ktr_room); (case hu => ktr_units))
        case hx => exact with_x Sm.t (sub_tail (sub_tail (sub_tail S36.tr_sub))) S36.tr S36.fit (.head _) hI57 (by omega) hks' (by omega)
        intro h58 tk58 F58 N58
        repeat' (k_unfold; (try dsimp only))
        refine goodW_bool (by assumption) (by assumption) (raisesW_false ?_) ?_
        · wrow_none_raised
        · exact post_ok _)
end Mine

theorem PySem.Challenge.cw_xm0666_01_holds : PySem.Challenge.rw_xm0666_01.Holds :=
  Mine.J
