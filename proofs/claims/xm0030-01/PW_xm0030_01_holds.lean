import PyProof.Rows.All
import Wide.All
import OpenK.AllK
import Wide.FinOn
import Lean
import PySem.Challenge.RW_xm0030_01
open PySem PySem.W PyProof.Rows
set_option Elab.async false
namespace Mine
set_option synthInstance.maxSize 1 in
set_option maxRecDepth 100000 in
set_option maxHeartbeats 8000000 in
open_top hd for PySem.Challenge.rw_xm0030_01
open PySem.Calls PySem.Spec PyProof.V
set_option maxRecDepth 100000
noncomputable abbrev PR : Program := PySem.Challenge.rw_xm0030_01.row.prog

def Kept (news : List (Addr × Obj)) (h h' : Heap) : Prop := ∀ b o, h.get? b = some o → (∀ p ∈ news, p.1 ≠ b) → h'.get? b = some o

def Calls (w : World) (f : Addr) (args : List Value) (news : List (Addr × Obj)) (deep : Nat) (Ret : Value → List (Addr × Obj) → Prop) : Prop :=
  ∀ (p : Program) (loose : List Str) (mean : ExcName → Option Value) (mg mb : Str → Option Value) (dp un : Nat) (gd : Option (List Code)) (cn : Str) (cs : Scope) (a : Addr) (ccd : Value) (cl : List (Str × Addr)) (outer : List Env) (A₀ : Around) (base h₀ : Heap) (L : Addr) (m : Str → Option Value) (s : Shared) (Q E : Value → Shared → Prop),
    Below A₀ base outer h₀ → Fr h₀ L s.heap m → (hd.heap_39 w.params).In h₀ → News h₀ L s.heap news → Top p loose mean mg mb h₀ → cs.kind = .function → dp + deep < recursionLimit → un + 8 * deep + 100 < cLine →
    (∀ v news' h' tk', Ret v news' → Fr h₀ L h' m → News h₀ L h' news' → Kept news s.heap h' → Q v { s with heap := h', toks := tk' }) →
    wpAny (model PR w) (ktrTop dp un gd cn cs L a ccd cl outer) (call (.ref f) args) Q E s

/-- the end of a callee's body -/
def Out (g : Heap) (L : Addr) (Ret : Value → List (Addr × Obj) → Prop) (v : Value) (s₁ s' : Shared) : Prop :=
  ∃ h' tk' m' news', s' = { s₁ with heap := h', toks := tk' } ∧ Fr g L h' m' ∧ News g L h' news' ∧ Ret v news'
theorem Out.intro {g h' : Heap} {L : Addr} {Ret : Value → List (Addr × Obj) → Prop} {v : Value} {s₁ : Shared} {tk' : Nat} {m' : Str → Option Value} {news' all : List (Addr × Obj)}
    (F : Fr g L h' m') (N : News g L h' all) (sub : ∀ p ∈ news', p ∈ all) (r : Ret v news') : Out g L Ret v s₁ { s₁ with heap := h', toks := tk' } := ⟨h', tk', m', news', rfl, F, fun p hp => N p (sub p hp), r⟩
def bodyVal (fl : Flow) : Value := match fl with | .ret v => v | _ => .none

theorem calls_of {w : World} {f : Addr} {args : List Value} {news : List (Addr × Obj)} {deep : Nat} {Ret : Value → List (Addr × Obj) → Prop}
    {name qual : Str} {params : Arguments} {body : List Stmt} {scope : Scope} {dV kV doc pm cdv ct oc : Value} {an od : Option Addr} {osl : Array (Option Value)} {binds : List (Str × Value)}
    (ho : (hd.heap_39 w.params).lookup f = some ⟨oc, od, .func (fnOf name qual params body scope dV kV doc pm an cdv ct), osl⟩) (hcd : codeIn (hd.heap_39 w.params) cdv qual = true)
    (hbind : ∀ s, BindsTo s (fnOf name qual params body scope dV kV doc pm an cdv ct) ⟨args, []⟩ binds) (hloc : ∀ y ∈ binds, scope.names.lookup y.1 = some .local)
    (hdp : 0 < deep)
    (h : ∀ (p : Program) (loose : List Str) (mean : ExcName → Option Value) (mg mb : Str → Option Value) (dp un : Nat) (gd : Option (List Code)) (outer : List Env) (A₀ : Around) (base g : Heap) (L' : Addr) (s : Shared),
      Below A₀ base outer g → Fr g L' s.heap (fun y => binds.reverse.lookup y) → (hd.heap_39 w.params).In g → News g L' s.heap news → Top p loose mean mg mb g → (∀ q ∈ news, q.1 < L') → dp + (deep - 1) < recursionLimit → un + 8 * (deep - 1) + 105 < cLine →
      wpAny (model PR w) (ktrTop dp un gd qual scope L' f cdv [] outer) (execs body (envX qual scope L' f cdv [])) (fun fl s' => Out g L' Ret (bodyVal fl) s s') (fun _ _ => False) s)
    (hco : scope.isCoroutine = false) (hgen : scope.isGenerator = false) (hk : scope.kind = .function)
    (hcell : ∀ x ∈ scope.names, x.2 ≠ .cell) : Calls w f args news deep Ret := by
  intro p loose mean mg mb dp un gd cn cs a ccd cl outer A₀ base h₀ L m s Q E B F X N T hck hd hu ret
  refine wpAny_call ?_
  obtain ⟨FG, BG, st, lv⟩ := groundX (A := ktrTop dp un gd cn cs L a ccd cl outer) (env := envX cn cs L a ccd cl) (R := fun r s' => match r with | .ok (.ret v) => Q v s' | .ok _ => False | .error e => E e s') B F N rfl rfl hck
  have hX := X.keeps F.keep
  have ne : ∀ b o, s.heap.get? b = some o → (∀ p ∈ news, p.1 ≠ b) → (hideAll s.heap (news.map (·.1))).get? b = some o := fun b o e hn => hideAll_get _ e (fun hm => by
    obtain ⟨q, hq, e'⟩ := List.mem_map.mp hm
    exact hn q hq e')
  refine codeAny_call_def (fd := fnX name qual params body scope [] dV kV doc pm an cdv ct) (body := body) (binds := binds) (by show dp < recursionLimit; omega) (hX _ _ ho) rfl (T.nolimit.keeps F.keep) (codeRec_of hX hcd) rfl (hbind s) hcell hloc (fun h₁ hns hk₁ => ?_) hco hgen hk
  have F1 : Fr (hideAll s.heap (news.map (·.1))) s.heap.objs.size h₁ (fun y => binds.reverse.lookup y) := ⟨hns, fun b o e => hk₁ b o (of_hideAll _ e), Nat.le_of_eq (hideAll_size _ _)⟩
  have N1 : News (hideAll s.heap (news.map (·.1))) s.heap.objs.size h₁ news := fun p hp => ⟨hk₁ _ _ (N p hp).1, Nat.ne_of_lt (Heap.lt_size (N p hp).1), hideAll_none _ (List.mem_map_of_mem hp)⟩
  refine wpAny_mono (h p loose mean mg mb (dp + 1) (un + 3) gd (envX cn cs L a ccd cl :: outer) (ktrTop dp un gd cn cs L a ccd cl outer) base _ s.heap.objs.size { s with heap := h₁, toks := s.toks + binds.length } BG F1 (X.keeps st) N1 (T.keeps st)
    (fun p hp => Heap.lt_size (N p hp).1) (by omega) (by omega)) (fun fl s' hl => ?_) fun _ _ y => y.elim
  obtain ⟨h', tk', m', news', rfl, F', N', r⟩ := hl
  refine lv _ _ ⟨_, m', news', F', N', fun F2 N2 => ?_⟩
  exact ret _ news' h' tk' r F2 N2 fun b o e hn => F'.keep b o (ne b o e hn)

/-- a contract, used from a walk with a larger ledger -/
theorem calls_use {w : World} {f : Addr} {args : List Value} {news all rest : List (Addr × Obj)} {deep : Nat} {Ret : Value → List (Addr × Obj) → Prop} (C : Calls w f args news deep Ret)
    {p : Program} {loose : List Str} {mean : ExcName → Option Value} {mg mb : Str → Option Value} {dp un : Nat} {gd : Option (List Code)} {cn : Str} {cs : Scope} {a : Addr} {ccd : Value} {cl : List (Str × Addr)} {outer : List Env} {A₀ : Around} {base h₀ : Heap} {L : Addr} {m : Str → Option Value} {s : Shared} {Q E : Value → Shared → Prop}
    (B : Below A₀ base outer h₀) (F : Fr h₀ L s.heap m) (X : (hd.heap_39 w.params).In h₀) (N : News h₀ L s.heap all) (T : Top p loose mean mg mb h₀) (hck : cs.kind = .function) (hd : dp + deep < recursionLimit) (hu : un + 8 * deep + 100 < cLine)
    (sub : ∀ p ∈ news, p ∈ all) (subr : ∀ p ∈ rest, p ∈ all) (off : ∀ p ∈ rest, ∀ q ∈ news, q.1 ≠ p.1)
    (ret : ∀ v news' h' tk', Ret v news' → Fr h₀ L h' m → News h₀ L h' (rest ++ news') → Q v { s with heap := h', toks := tk' }) :
    wpAny (model PR w) (ktrTop dp un gd cn cs L a ccd cl outer) (call (.ref f) args) Q E s :=
  C p loose mean mg mb dp un gd cn cs a ccd cl outer A₀ base h₀ L m s Q E B F X (fun p hp => N p (sub p hp)) T hck hd hu fun v news' h' tk' r F' N' K => ret v news' h' tk' r F' fun p hp => by
    rcases List.mem_append.mp hp with h | h
    · exact ⟨K _ _ (N p (subr p h)).1 fun q hq e => off p h q hq e, (N p (subr p h)).2⟩
    · exact N' p h
/-- the ledger is rest ++ news -/
theorem calls_on {w : World} {f : Addr} {args : List Value} {news : List (Addr × Obj)} {deep : Nat} {Ret : Value → List (Addr × Obj) → Prop} (rest : List (Addr × Obj)) (C : Calls w f args news deep Ret)
    {p : Program} {loose : List Str} {mean : ExcName → Option Value} {mg mb : Str → Option Value} {dp un : Nat} {gd : Option (List Code)} {cn : Str} {cs : Scope} {a : Addr} {ccd : Value} {cl : List (Str × Addr)} {outer : List Env} {A₀ : Around} {base h₀ : Heap} {L : Addr} {m : Str → Option Value} {s : Shared} {Q E : Value → Shared → Prop}
    (B : Below A₀ base outer h₀) (F : Fr h₀ L s.heap m) (X : (hd.heap_39 w.params).In h₀) (N : News h₀ L s.heap (rest ++ news)) (T : Top p loose mean mg mb h₀) (hck : cs.kind = .function) (hd : dp + deep < recursionLimit) (hu : un + 8 * deep + 100 < cLine)
    (off : ∀ p ∈ rest, ∀ q ∈ news, q.1 ≠ p.1)
    (ret : ∀ v news' h' tk', Ret v news' → Fr h₀ L h' m → News h₀ L h' (rest ++ news') → Q v { s with heap := h', toks := tk' }) :
    wpAny (model PR w) (ktrTop dp un gd cn cs L a ccd cl outer) (call (.ref f) args) Q E s :=
  calls_use C B F X N T hck hd hu (fun p hp => List.mem_append_right _ hp) (fun p hp => List.mem_append_left _ hp) off ret
/-- a contract that asks for no ledger -/
theorem calls_pure {w : World} {f : Addr} {args : List Value} {all : List (Addr × Obj)} {deep : Nat} {Ret : Value → List (Addr × Obj) → Prop} (C : Calls w f args [] deep Ret)
    {p : Program} {loose : List Str} {mean : ExcName → Option Value} {mg mb : Str → Option Value} {dp un : Nat} {gd : Option (List Code)} {cn : Str} {cs : Scope} {a : Addr} {ccd : Value} {cl : List (Str × Addr)} {outer : List Env} {A₀ : Around} {base h₀ : Heap} {L : Addr} {m : Str → Option Value} {s : Shared} {Q E : Value → Shared → Prop}
    (B : Below A₀ base outer h₀) (F : Fr h₀ L s.heap m) (X : (hd.heap_39 w.params).In h₀) (N : News h₀ L s.heap all) (T : Top p loose mean mg mb h₀) (hck : cs.kind = .function) (hd : dp + deep < recursionLimit) (hu : un + 8 * deep + 100 < cLine)
    (ret : ∀ v news' h' tk', Ret v news' → Fr h₀ L h' m → News h₀ L h' (all ++ news') → Q v { s with heap := h', toks := tk' }) :
    wpAny (model PR w) (ktrTop dp un gd cn cs L a ccd cl outer) (call (.ref f) args) Q E s :=
  calls_use C B F X N T hck hd hu (fun p hp => nomatch hp) (fun p hp => hp) (fun _ _ _ hq => nomatch hq) ret
/-- as calls_on; the parting of the ledger is shown behind it -/
theorem calls_split {w : World} {f : Addr} {args : List Value} {news all rest : List (Addr × Obj)} {deep : Nat} {Ret : Value → List (Addr × Obj) → Prop} (C : Calls w f args news deep Ret)
    {p : Program} {loose : List Str} {mean : ExcName → Option Value} {mg mb : Str → Option Value} {dp un : Nat} {gd : Option (List Code)} {cn : Str} {cs : Scope} {a : Addr} {ccd : Value} {cl : List (Str × Addr)} {outer : List Env} {A₀ : Around} {base h₀ : Heap} {L : Addr} {m : Str → Option Value} {s : Shared} {Q E : Value → Shared → Prop}
    (B : Below A₀ base outer h₀) (F : Fr h₀ L s.heap m) (X : (hd.heap_39 w.params).In h₀) (N : News h₀ L s.heap all) (T : Top p loose mean mg mb h₀) (hck : cs.kind = .function) (hd : dp + deep < recursionLimit) (hu : un + 8 * deep + 100 < cLine)
    (hs : all = rest ++ news) (off : ∀ p ∈ rest, ∀ q ∈ news, q.1 ≠ p.1)
    (ret : ∀ v news' h' tk', Ret v news' → Fr h₀ L h' m → News h₀ L h' (rest ++ news') → Q v { s with heap := h', toks := tk' }) :
    wpAny (model PR w) (ktrTop dp un gd cn cs L a ccd cl outer) (call (.ref f) args) Q E s :=
  calls_on rest C B F X (hs ▸ N) T hck hd hu off ret

/-- a mark in the context: the tokens' count is not made a letter -/
structure LightMark : Prop where

section
variable {prog : Program} {w : World} {K : Type} [DecidableEq K] {knd : KeyKind prog w K} {A : Around} {E : Value → Shared → Prop} {s : Shared} {env : Env} {h₀ : Heap} {x : Str} {body : List Stmt} {Q : Flow → Shared → Prop}
theorem iter_empty {d : Addr} {o : Obj} {m : Str → Option Value} {news : List (Addr × Obj)}
    (hh : A.handled = none) (F : Fr h₀ env.locals s.heap m) (N : News h₀ env.locals s.heap news) (hp : (d, o) ∈ news) (lo : (d == sysModules) = false) (hd : o.IsDictOf knd [])
    (done : ∀ h' tk, Fr h₀ env.locals h' m → News h₀ env.locals h' news → Q .next { s with heap := h', toks := tk }) :
    wpAny (model prog w) A (pyIter (.ref d)) (fun it s₂ => LoopAtV prog w A h₀ env x body Q E it s₂) E s := by
  obtain ⟨ep, ha⟩ := KdkAt.of hd
  have hda := ha.dictAt (N _ hp).1
  have hne : d ≠ s.heap.objs.size := Nat.ne_of_lt (Heap.lt_size (N _ hp).1)
  refine wpAny_pyIter_dict lo hda ?_
  have W := Walks.dictKeys (prog := prog) (w := w) (knd := knd) hh s.heap.objs.size d hne [] ep
  refine ⟨_, _, _, _, _, _, m, news, fun _ m' news' => m' = m ∧ news' = news, rfl, W, ?_, ?_, ?_, ?_, F.push _, (fun p hp => ⟨Heap.get?_push_of_some _ (N p hp).1, (N p hp).2⟩), ⟨rfl, rfl⟩, ?_, ?_⟩
  · intro hm
    rcases List.mem_cons.mp hm with e | hm
    · exact absurd F.ns.lt (e ▸ Nat.lt_irrefl _)
    · exact (N _ hp).2.1 (List.mem_singleton.mp hm).symm
  · intro b hb
    rw [List.mem_singleton.mp hb]
    exact next_is_new F
  · intro p hp hI
    exact absurd (Heap.lt_size (N p hp).1) ((List.mem_singleton.mp hI) ▸ Nat.lt_irrefl _)
  · exact ⟨⟨_, Heap.get?_push_size _ rfl, rfl, rfl⟩, hda.push _⟩
  · intro i v m₁ news₁ s₁ own _ hi
    exact absurd hi (Nat.not_lt_zero _)
  · rintro h' tk m' news' F' N' _ ⟨rfl, rfl⟩
    exact done h' tk F' N'
end
section
open LCg LCt
variable {prog : Program} {w : World} {A : Around} {E : Value → Shared → Prop} {s : Shared} {h₀ : Heap} {L : Addr} {m : Str → Option Value} {env : Env}
theorem striter_st {I : Addr} {y : Str} {t : Tok} {T : String} : ∀ i (h h' : Heap) (o : Obj) (nw : List (Addr × Obj)), h.IsStrIter I T y t i → h.get? I = some o → h'.get? I = some o → (∀ b o, h₀.get? b = some o → h'.get? b = some o) → News h₀ L h' nw → True → h'.IsStrIter I T y t i :=
  fun i h h' o nw st e e' _ _ _ => by obtain ⟨o', q, r⟩ := st; rw [e] at q; cases q; exact ⟨o, e', r⟩
def SrcText (prog : Program) (w : World) (A : Around) (h₀ : Heap) (L : Addr) (m : Str → Option Value) (env : Env) (ct elt : PySem.Expr) (x : Str) (scope : Scope) (cl : List (Str × Addr)) (Q : Value → Shared → Prop) (xv : Value) (s₁ : Shared) : Prop :=
  ∃ y t news, xv = .str y t ∧ A.handled = none ∧ Fr h₀ L s₁.heap m ∧ News h₀ L s₁.heap news ∧ y.cps.all (· < 128) = true ∧ y.cps.size ≤ sizeLine ∧
      ∀ s₂ : Shared, (∃ h, s₂ = { s₁ with heap := h }) → CompRestT prog w A h₀ L m env ct elt x scope cl s₂ (fun _ => True) (SignAt y) (FinE h₀ L m s₂ Q) y.cps.size 0 [] news
theorem SrcText.intro {ct elt : PySem.Expr} {x : Str} {scope : Scope} {cl : List (Str × Addr)} {Q : Value → Shared → Prop} {y : Str} {t : Tok} {s₁ : Shared} {news : List (Addr × Obj)} {n : Nat} (hh : A.handled = none) (F : Fr h₀ L s₁.heap m) (N : News h₀ L s₁.heap news) (ha : y.cps.all (· < 128) = true) (hn : y.cps.size = n) (hz : n ≤ sizeLine)
    (h : ∀ g, CompRestT prog w A h₀ L m env ct elt x scope cl { s₁ with heap := g } (fun _ => True) (SignAt y) (FinE h₀ L m { s₁ with heap := g } Q) n 0 [] news) : SrcText prog w A h₀ L m env ct elt x scope cl Q (.str y t) s₁ :=
  ⟨y, t, news, rfl, hh, F, N, ha, hn ▸ hz, fun _ ⟨g, e⟩ => by subst e; subst hn; exact h g⟩
/-- a list comprehension with one test over an ASCII text's signs -/
theorem ListComp_textT {ct elt iter : PySem.Expr} {x : Str} {px : Pos} {scope : Scope} {cl : List (Str × Addr)} {pos : Pos} {Q : Value → Shared → Prop} (F₀ : Fr h₀ L s.heap m)
    (hclos : closureFor scope env = pure cl) (hcell : ∀ y ∈ scope.names, y.2 ≠ .cell) (hkind : scope.kind = .function)
    (hnames : ∀ y ∈ scope.names, y.2 = .local → scope.names.lookup y.1 = some .local) (hx : scope.names.lookup x = some .local)
    (h : wpAny (model prog w) A (eval iter env) (SrcText prog w A h₀ L m env ct elt x scope cl Q) E s)
    (hs : ∀ x, foldedSetIterable iter env x = pure x := by intro _; rfl) :
    wpAny (model prog w) A (eval (.ListComp elt [⟨.Name x px, iter, [ct], 0⟩] scope pos) env) Q E s := by
  rw [eval_ListComp]
  refine wpAny_comprehension_free (use := none) rfl hs hclos hkind hnames (wpAny_mono h (fun xv s₁ h₁ => ?_) fun _ _ e => e)
  obtain ⟨y, t, news, rfl, hh, F, N, ha, hsz, R⟩ := h₁
  refine wpAny_pyIter_ascii ha ?_
  have up : ∀ (o' : Obj) b o, s₁.heap.get? b = some o → (s₁.heap.push o').get? b = some o := fun o' b o e => Heap.get?_push_of_some _ e
  refine block_T (Walks.strAscii hh s₁.heap.objs.size y t) hsz (fun i h st => by obtain ⟨o, e, _⟩ := st; exact ⟨o, e⟩) striter_st hcell hkind hx ⟨_, Heap.get?_push_size _ rfl, rfl, rfl⟩ (fun b hb => ?_)
    (F.keeps (up _)) (N.grown (up _)) (Nat.ne_of_lt F.ns.lt) (next_is_new F) (fun p hp => Nat.ne_of_lt (Heap.lt_size (N p hp).1)) trivial (R _ ⟨_, rfl⟩) ?_
  · rw [List.mem_singleton.mp hb]
    show s₁.heap.objs.size < (s₁.heap.push _).objs.size
    rw [Heap.size_push]; exact Nat.lt_succ_self _
  · intro D C h tk m' ys news' F' N' o1 hn hC₀ hD₀ hCL hDL hCD offC fin
    refine ⟨m', hn, fun h'' hs'' => fin D h'' tk (F'.change hs'' hCL hC₀) (fun p hp => ?_) o1⟩
    refine ⟨hs''.extBut _ _ ?_ (N' p hp).1, (N' p hp).2⟩
    rcases List.mem_cons.mp hp with rfl | hp
    · exact Ne.symm hCD
    · exact offC p hp
end
section
open PySem.SeqAt
-- lists of flat data: == and != of two lists
theorem depthAll_flat : ∀ ds : List PyData, (∀ d ∈ ds, d.depth ≤ 1) → PyData.depthAll ds ≤ 1
  | [], _ => by simp [PyData.depthAll]
  | d :: r, h => by
    have h1 := h d (.head _)
    have h2 := depthAll_flat r fun x hx => h x (.tail _ hx)
    simp only [PyData.depthAll]; omega
theorem canLayAll0_all : ∀ ds : List PyData, (∀ d ∈ ds, d.canLay0 = true) → PyData.canLayAll0 ds = true
  | [], _ => by simp [PyData.canLayAll0]
  | d :: r, h => by
    simp only [PyData.canLayAll0, h d (.head _), canLayAll0_all r fun x hx => h x (.tail _ hx), Bool.and_self]
theorem shaped_flat {ds : List PyData} (h : ∀ d ∈ ds, d.canLay0 = true ∧ d.depth ≤ 1) : shaped (.list ds) = true := by
  have h1 := depthAll_flat ds fun d hd => (h d hd).2
  show (PyData.canLay0 (.list ds) && decide (PyData.depth (.list ds) ≤ 64)) = true
  rw [Bool.and_eq_true]
  exact ⟨by simp only [PyData.canLay0]; exact canLayAll0_all ds fun d hd => (h d hd).1, decide_eq_true (by simp only [PyData.depth]; omega)⟩
theorem noMix_strs : ∀ ns ms : List Str, noMixAll (ns.map PyData.str) (ms.map PyData.str) = true
  | [], [] => by simp [noMixAll]
  | [], _ :: _ => by simp [noMixAll]
  | _ :: _, [] => by simp [noMixAll]
  | _ :: r, _ :: q => by simp [noMixAll, noMix, noMix_strs r q]
theorem same_strs : ∀ ns ms : List Str, PySem.Spec.sameAll (ns.map PyData.str) (ms.map PyData.str) = decide (ns = ms)
  | [], [] => by simp [PySem.Spec.sameAll]
  | [], _ :: _ => by simp [PySem.Spec.sameAll]
  | _ :: _, [] => by simp [PySem.Spec.sameAll]
  | n :: r, k :: q => by
    simp only [List.map_cons, PySem.Spec.sameAll, PyProof.V.same_str, same_strs r q]
    by_cases h : n = k <;> simp [h]
theorem noMix_bools : ∀ ns ms : List Bool, noMixAll (ns.map PyData.bool) (ms.map PyData.bool) = true
  | [], [] => by simp [noMixAll]
  | [], _ :: _ => by simp [noMixAll]
  | _ :: _, [] => by simp [noMixAll]
  | _ :: r, _ :: q => by simp [noMixAll, noMix, noMix_bools r q]
theorem same_bools : ∀ ns ms : List Bool, PySem.Spec.sameAll (ns.map PyData.bool) (ms.map PyData.bool) = decide (ns = ms)
  | [], [] => by simp [PySem.Spec.sameAll]
  | [], _ :: _ => by simp [PySem.Spec.sameAll]
  | _ :: _, [] => by simp [PySem.Spec.sameAll]
  | n :: r, k :: q => by
    simp only [List.map_cons, PySem.Spec.sameAll, PySem.Spec.same, same_bools r q]
    by_cases h : n = k <;> simp [h]
def TextsOk (ss : List Str) : Prop := ∀ x ∈ ss, PyData.strOk x = true
theorem shaped_strs {ss : List Str} (h : TextsOk ss) : shaped (.list (ss.map PyData.str)) = true := shaped_flat fun d hd => by
  obtain ⟨x, hx, rfl⟩ := List.mem_map.mp hd
  exact ⟨by simpa [PyData.canLay0] using h x hx, by simp [PyData.depth]⟩
theorem shaped_bools {ss : List Bool} : shaped (.list (ss.map PyData.bool)) = true := shaped_flat fun d hd => by
  obtain ⟨x, hx, rfl⟩ := List.mem_map.mp hd
  exact ⟨by simp [PyData.canLay0], by simp [PyData.depth]⟩
theorem reads_carried {h : Heap} {a : Addr} {vs : List Value} {ds : List PyData} (hl : h.IsList a vs.toArray) (hc : CarriedAll vs ds) : Reads h (.ref a) (.list ds) [a] := by
  obtain ⟨o, ho, hcl, n, hd⟩ := hl
  exact Reads.list ho hcl hd (by simpa using hc.readsAll h)
section
variable {prog : Program} {w : World} {A : Around} {E : Value → Shared → Prop} {s : Shared} {a b : Addr} {vs us : List Value} {Q : Value → Shared → Prop}
theorem eq_strsC {xs ys : List Str} (hl : s.heap.IsList a vs.toArray) (hc : CarriedAll vs (xs.map .str)) (hl' : s.heap.IsList b us.toArray) (hc' : CarriedAll us (ys.map .str)) (ok : TextsOk xs) (ok' : TextsOk ys) (hu : A.units + 64 < cLine)
    (h : Q (.bool (decide (xs = ys))) s) : wpAny (model prog w) A (compareOp .Eq (.ref a) (.ref b)) Q E s :=
  eq_dataH_same (reads_carried hl hc) (reads_carried hl' hc') (shaped_strs ok) (shaped_strs ok') hu (by simp only [noMix]; exact noMix_strs xs ys) (by simp only [PySem.Spec.same]; rw [same_strs]; exact h)
theorem ne_strsC {xs ys : List Str} (hl : s.heap.IsList a vs.toArray) (hc : CarriedAll vs (xs.map .str)) (hl' : s.heap.IsList b us.toArray) (hc' : CarriedAll us (ys.map .str)) (ok : TextsOk xs) (ok' : TextsOk ys) (hu : A.units + 64 < cLine)
    (h : Q (.bool (!decide (xs = ys))) s) : wpAny (model prog w) A (compareOp .NotEq (.ref a) (.ref b)) Q E s :=
  ne_dataH_same (reads_carried hl hc) (reads_carried hl' hc') (shaped_strs ok) (shaped_strs ok') hu (by simp only [noMix]; exact noMix_strs xs ys) (by simp only [PySem.Spec.same]; rw [same_strs]; exact h)
theorem ne_boolsC {xs ys : List Bool} (hl : s.heap.IsList a vs.toArray) (hc : CarriedAll vs (xs.map .bool)) (hl' : s.heap.IsList b us.toArray) (hc' : CarriedAll us (ys.map .bool)) (hu : A.units + 64 < cLine)
    (h : Q (.bool (!decide (xs = ys))) s) : wpAny (model prog w) A (compareOp .NotEq (.ref a) (.ref b)) Q E s :=
  ne_dataH_same (reads_carried hl hc) (reads_carried hl' hc') shaped_bools shaped_bools hu (by simp only [noMix]; exact noMix_bools xs ys) (by simp only [PySem.Spec.same]; rw [same_bools]; exact h)
end
end
section
variable {prog : Program} {w : World} {A : Around} {E : Value → Shared → Prop} {s : Shared} {env : Env} {h₀ : Heap} {x : Str} {body : List Stmt} {Q : Flow → Shared → Prop}
/-- a turn's end: it leaves, or what holds between the turns holds again, beside the iterator (I, o) -/
def TurnJ (h₀ : Heap) (L : Addr) (J : (Str → Option Value) → List (Addr × Obj) → Prop) (I : Addr) (o : Obj) (s₁ : Shared) (Q : Flow → Shared → Prop) (f : Flow) (s₂ : Shared) : Prop :=
  match f with
  | .ret v => Q (.ret v) s₂
  | .brk => Q .next s₂
  | _ => ∃ h' tk m' news', s₂ = { s₁ with heap := h', toks := tk } ∧ Fr h₀ L h' m' ∧ News h₀ L h' ((I, o) :: news') ∧ (∀ p ∈ news', p.1 ≠ I) ∧ J m' news'
theorem loop_atJ {I : Addr} {fp wr : List Addr} {n : Nat} {P : Nat → Value → Prop} {St : Nat → Heap → Prop} {m₀ : Str → Option Value} {news : List (Addr × Obj)} (J : Nat → (Str → Option Value) → List (Addr × Obj) → Prop)
    (W : Walks prog w A I fp wr n P St) (hIf : I ∈ fp) (hw1 : wr = [I]) (hfp : ∀ b ∈ fp, b = I ∨ (∃ q, h₀.get? b = some q) ∨ ∃ ob, ∀ i m news, J i m news → (b, ob) ∈ news) (hI0 : h₀.get? I = none) (hob : ∀ i h, St i h → ∃ o, h.get? I = some o)
    (hLf : env.locals ∉ fp) (hnw : ∀ p ∈ news, p.1 ≠ I) (hst : St 0 s.heap) (F : Fr h₀ env.locals s.heap m₀) (N : News h₀ env.locals s.heap news) (hj : J 0 m₀ news)
    (turn : ∀ i v m₁ news₁ h tk o, i < n → P i v → J i m₁ news₁ → (∀ p ∈ news₁, p.1 ≠ I) → Fr h₀ env.locals h (fun y => if y = x then some v else m₁ y) → News h₀ env.locals h ((I, o) :: news₁) →
      wpAny (model prog w) A (execs body env) (TurnJ h₀ env.locals (J (i + 1)) I o { s with heap := h, toks := tk } Q) E { s with heap := h, toks := tk })
    (done : ∀ m₁ news₁ h tk, J n m₁ news₁ → Fr h₀ env.locals h m₁ → News h₀ env.locals h news₁ → Q .next { s with heap := h, toks := tk }) :
    LoopAtV prog w A h₀ env x body Q E (.ref I) s := by
  subst hw1
  refine ⟨I, fp, [I], n, P, St, m₀, news, J, rfl, W, hLf, fun b hb => by rw [List.mem_singleton.mp hb]; exact hI0, fun p hp hq => hnw p hp (List.mem_singleton.mp hq), hst, F, N, hj, ?_, ?_⟩
  · rintro i v m₁ news₁ s₁ own ⟨hh', tk', rfl⟩ hin hP hJ hoff hown hget hall hst' F₁ N₁
    obtain ⟨o, ho⟩ := hob _ _ hst'
    have hio : (I, o) ∈ own := hall I hIf hI0 o ho
    have off : ∀ p ∈ news₁, p.1 ≠ I := fun p hp e => hoff p hp (List.mem_singleton.mpr e)
    have N2 : News h₀ env.locals hh' ((I, o) :: news₁) := fun p hp => by
      rcases List.mem_cons.mp hp with rfl | hp
      · exact N₁ _ (List.mem_append_left _ hio)
      · exact N₁ _ (List.mem_append_right _ hp)
    refine wpAny_mono (turn i v m₁ news₁ hh' tk' o hin hP hJ off F₁ N2) (fun f s₂ p => ?_) fun _ _ e => e
    have fin : (∃ h' tk m' news', s₂ = { s with heap := h', toks := tk } ∧ Fr h₀ env.locals h' m' ∧ News h₀ env.locals h' ((I, o) :: news') ∧ (∀ p ∈ news', p.1 ≠ I) ∧ J (i + 1) m' news') →
        LoopStepU h₀ env.locals [I] own (J (i + 1)) { s with heap := hh', toks := tk' } .next s₂ := by
      rintro ⟨h', tk, m', news', e, F', N', off', hm⟩
      refine ⟨rfl, h', tk, m', news', e, F', fun p hp => ?_, fun p hp hq => off' p hp (List.mem_singleton.mp hq), hm⟩
      rcases List.mem_append.mp hp with hp | hp
      · have g1 := hget p hp
        have g2 := (N₁ p (List.mem_append_left _ hp)).2
        by_cases hpI : p.1 = I
        · have : p = (I, o) := by
            rw [hpI] at g1
            have g1' : hh'.get? I = some p.2 := g1
            rw [ho] at g1'
            exact Prod.ext hpI (Option.some.inj g1').symm
          rw [this]; exact N' _ (.head _)
        · rcases hfp p.1 (hown p hp) with e1 | ⟨q, e1⟩ | e1
          · exact absurd e1 hpI
          · rw [e1] at g2; exact absurd g2.2 (fun z => nomatch z)
          · obtain ⟨ob, hob1⟩ := e1
            have z1 : hh'.get? p.1 = some ob := (N2 _ (List.mem_cons_of_mem _ (hob1 _ _ _ hJ))).1
            have eo : p = (p.1, ob) := by
              rw [g1] at z1
              exact Prod.ext rfl (Option.some.inj z1)
            rw [eo]
            exact N' _ (List.mem_cons_of_mem _ (hob1 _ _ _ hm))
      · exact N' _ (List.mem_cons_of_mem _ hp)
    cases f with
    | ret v => exact .ret p
    | brk => exact .brk p
    | next => exact .next (fin p)
    | cont => exact .cont (fin p)
  · rintro h' tk m' news' F' N' _ hJ
    exact done m' news' h' tk hJ F' N'
theorem iter_rangeJ {r : Addr} {a₀ b₀ : Int} {t₀ u₀ v₀ : Tok} {n : Nat} {m₀ : Str → Option Value} {news : List (Addr × Obj)} (J : Nat → (Str → Option Value) → List (Addr × Obj) → Prop)
    (hh : A.handled = none) (hr : IsRange s.heap r a₀ b₀ 1 t₀ u₀ v₀) (hsmall : Builtin.Range.small a₀ b₀ 1 = true) (hn : Builtin.Range.rangeSize a₀ b₀ 1 = (n : Int)) (F : Fr h₀ env.locals s.heap m₀) (N : News h₀ env.locals s.heap news) (hj : J 0 m₀ news)
    (turn : ∀ i t m₁ news₁ I h tk o, i < n → J i m₁ news₁ → (∀ p ∈ news₁, p.1 ≠ I) → (∀ p ∈ news, p.1 < I) → Fr h₀ env.locals h (fun y => if y = x then some (.int (a₀ + (i : Int)) t) else m₁ y) → News h₀ env.locals h ((I, o) :: news₁) →
      wpAny (model prog w) A (execs body env) (TurnJ h₀ env.locals (J (i + 1)) I o { s with heap := h, toks := tk } Q) E { s with heap := h, toks := tk })
    (done : ∀ m₁ news₁ h tk, J n m₁ news₁ → Fr h₀ env.locals h m₁ → News h₀ env.locals h news₁ → Q .next { s with heap := h, toks := tk }) :
    wpAny (model prog w) A (pyIter (.ref r)) (fun it s₂ => LoopAtV prog w A h₀ env x body Q E it s₂) E s := by
  refine wpAny_pyIter_range hr hsmall ?_
  have W : Walks prog w A s.heap.objs.size [s.heap.objs.size] [s.heap.objs.size] n (fun i v => i < n ∧ ∃ t, v = .int (a₀ + i * 1) t)
      (fun i h => IsRangeIter h s.heap.objs.size (a₀ + (i : Nat) * 1) ((n : Int) - (i : Nat)) 1) := (Walks.range hh _ a₀ 1 n).bound
  refine loop_atJ J W (List.mem_singleton.mpr rfl) rfl (fun b hb => .inl (List.mem_singleton.mp hb)) (next_is_new F) (fun i h st => ⟨_, st⟩) ?_ (fun p hp => Nat.ne_of_lt (Heap.lt_size (N p hp).1)) (by show IsRangeIter _ _ _ _ _; rw [hn]; simpa using Heap.get?_push_size _ rfl) (F.push _) (fun p hp => ⟨Heap.get?_push_of_some _ (N p hp).1, (N p hp).2⟩) hj
    ?_ done
  · intro hm
    exact absurd F.ns.lt ((List.mem_singleton.mp hm) ▸ Nat.lt_irrefl _)
  · rintro i v m₁ news₁ h tk o hi ⟨_, t, rfl⟩ hJ off F₁ N₁
    rw [Int.mul_one] at F₁
    exact turn i t m₁ news₁ _ h tk o hi hJ off (fun p hp => Heap.lt_size (N p hp).1) F₁ N₁
theorem iter_listJ {l : Addr} {vs : List Value} {nv : Nat} {m₀ : Str → Option Value} {news : List (Addr × Obj)} (J : Nat → (Str → Option Value) → List (Addr × Obj) → Prop)
    (hh : A.handled = none) (hmem : ∀ i m news, J i m news → (l, ({ cls := .type "list", data := .seq vs.toArray nv } : Obj)) ∈ news) (F : Fr h₀ env.locals s.heap m₀) (N : News h₀ env.locals s.heap news) (hj : J 0 m₀ news)
    (turn : ∀ i v m₁ news₁ I h tk o, vs[i]? = some v → J i m₁ news₁ → (∀ p ∈ news₁, p.1 ≠ I) → (∀ p ∈ news, p.1 < I) → Fr h₀ env.locals h (fun y => if y = x then some v else m₁ y) → News h₀ env.locals h ((I, o) :: news₁) →
      wpAny (model prog w) A (execs body env) (TurnJ h₀ env.locals (J (i + 1)) I o { s with heap := h, toks := tk } Q) E { s with heap := h, toks := tk })
    (done : ∀ m₁ news₁ h tk, J vs.length m₁ news₁ → Fr h₀ env.locals h m₁ → News h₀ env.locals h news₁ → Q .next { s with heap := h, toks := tk }) :
    wpAny (model prog w) A (pyIter (.ref l)) (fun it s₂ => LoopAtV prog w A h₀ env x body Q E it s₂) E s := by
  have hm0 := N _ (hmem _ _ _ hj)
  have hls : s.heap.IsList l vs.toArray := ⟨_, hm0.1, rfl, nv, rfl⟩
  have hlt : l < s.heap.objs.size := Heap.lt_size hm0.1
  refine wpAny_pyIter_list hls ?_
  have W := Walks.list (prog := prog) (w := w) hh s.heap.objs.size l (Nat.ne_of_lt hlt) vs.toArray
  rw [List.size_toArray] at W
  refine loop_atJ J W (List.mem_cons_self) rfl (fun b hb => ?_) (next_is_new F) (fun i h st => by obtain ⟨o, e, _⟩ := st.1; exact ⟨o, e⟩) ?_ (fun p hp => Nat.ne_of_lt (Heap.lt_size (N p hp).1)) ⟨⟨_, Heap.get?_push_size _ rfl, rfl, rfl⟩, hls.push _⟩ (F.push _) (fun p hp => ⟨Heap.get?_push_of_some _ (N p hp).1, (N p hp).2⟩) hj ?_ done
  · rcases List.mem_cons.mp hb with e | hb
    · exact .inl e
    · rw [List.mem_singleton.mp hb]; exact .inr (.inr ⟨_, hmem⟩)
  · intro hm
    rcases List.mem_cons.mp hm with e | hm
    · exact absurd F.ns.lt (e ▸ Nat.lt_irrefl _)
    · exact hm0.2.1 (List.mem_singleton.mp hm).symm
  · rintro i v m₁ news₁ h tk o hi hP hJ off F₁ N₁
    exact turn i v m₁ news₁ _ h tk o (by simpa using hP) hJ off (fun p hp => Heap.lt_size (N p hp).1) F₁ N₁
/-- a while's turn's end: it leaves, or what holds holds again with a smaller measure -/
def WTurn (h₀ : Heap) (L : Addr) (J : Nat → (Str → Option Value) → List (Addr × Obj) → Prop) (n : Nat) (s₀ : Shared) (Q : Flow → Shared → Prop) (f : Flow) (s₂ : Shared) : Prop :=
  match f with
  | .ret v => Q (.ret v) s₂
  | .brk => Q .next s₂
  | _ => ∃ n' h' tk m' news', n' < n ∧ s₂ = { s₀ with heap := h', toks := tk } ∧ Fr h₀ L h' m' ∧ News h₀ L h' news' ∧ J n' m' news'
theorem WTurn.next {h₀ h' : Heap} {L : Addr} {J : Nat → (Str → Option Value) → List (Addr × Obj) → Prop} {n n' : Nat} {s₀ : Shared} {Q : Flow → Shared → Prop} {tk : Nat} {m' : Str → Option Value} {news' all : List (Addr × Obj)}
    (F : Fr h₀ L h' m') (N : News h₀ L h' all) (hn : n' < n) (hJ : J n' m' news') (sub : ∀ p ∈ news', p ∈ all) : WTurn h₀ L J n s₀ Q .next { s₀ with heap := h', toks := tk } := ⟨n', h', tk, m', news', hn, rfl, F, fun p hp => N p (sub p hp), hJ⟩
theorem while_J {test : PySem.Expr} {orelse : List Stmt} (J : Nat → (Str → Option Value) → List (Addr × Obj) → Prop) (hE : PassesOwn (model prog w) A env E)
    (turn : ∀ n m news h tk, J n m news → Fr h₀ env.locals h m → News h₀ env.locals h news →
      wpAny (model prog w) A (isTrue test env (eval test env)) (fun b s₂ => WhlIf b (wpAny (model prog w) A (execs body env) (WTurn h₀ env.locals J n s Q) E s₂) (wpAny (model prog w) A (execs orelse env) Q E s₂)) E { s with heap := h, toks := tk }) :
    ∀ n m news h tk, J n m news → Fr h₀ env.locals h m → News h₀ env.locals h news → WhlRest prog w A E env test body orelse Q 1 { s with heap := h, toks := tk } := by
  intro n
  induction n using Nat.strongRecOn with
  | ind n ih =>
    intro m news h tk hJ F N
    refine whl_turn (k := 0) hE (wpAny_mono (turn n m news h tk hJ F N) (fun b s₂ hb => ?_) fun _ _ e => e)
    cases b with
    | false => exact WhlIf.no rfl (by unfold WhlIf at hb; rwa [if_neg Bool.false_ne_true] at hb)
    | true =>
      refine WhlIf.yes rfl ?_
      unfold WhlIf at hb
      rw [if_pos rfl] at hb
      refine wpAny_mono hb (fun f s₃ hf => ?_) fun _ _ e => e
      cases f with
      | ret v => exact hf
      | brk => exact hf
      | next => obtain ⟨n', h', tk', m', news', hn, rfl, F', N', hJ'⟩ := hf; exact ih n' hn m' news' h' tk' hJ' F' N'
      | cont => obtain ⟨n', h', tk', m', news', hn, rfl, F', N', hJ'⟩ := hf; exact ih n' hn m' news' h' tk' hJ' F' N'
theorem while_start {test : PySem.Expr} {orelse : List Stmt} {pos : Pos} {m₀ : Str → Option Value} {news₀ : List (Addr × Obj)} (J : Nat → (Str → Option Value) → List (Addr × Obj) → Prop) (n₀ : Nat) (hE : PassesOwn (model prog w) A env E)
    (F : Fr h₀ env.locals s.heap m₀) (N : News h₀ env.locals s.heap news₀) (hj : J n₀ m₀ news₀)
    (turn : ∀ n m news h tk, J n m news → Fr h₀ env.locals h m → News h₀ env.locals h news →
      wpAny (model prog w) A (isTrue test env (eval test env)) (fun b s₂ => WhlIf b (wpAny (model prog w) A (execs body env) (WTurn h₀ env.locals J n s Q) E s₂) (wpAny (model prog w) A (execs orelse env) Q E s₂)) E { s with heap := h, toks := tk }) :
    wpAny (model prog w) A (exec (.While test body orelse pos) env) Q E s := whl_start 1 (while_J J hE turn n₀ m₀ news₀ s.heap s.toks hj F N)
end
theorem map_known {m : Str → Option Value} {y : Str} {v : Value} (h : m y = some v) : m = fun z => if z = y then some v else m z := by
  funext z
  by_cases e : z = y
  · subst e; simp [h]
  · simp [e]
section
open LCg LCt
variable {prog : Program} {w : World} {A : Around} {E : Value → Shared → Prop} {s : Shared} {env : Env}
def Grows (h h' : Heap) : Prop := ∀ b o, h.get? b = some o → h'.get? b = some o
/-- one pair in the list, and the test says no -/
def PairNo (prog : Program) (w : World) (A : Around) (env : Env) (c : PySem.Expr) (a b : Str) (scope : Scope) (cl : List (Str × Addr)) (Q : Value → Shared → Prop) (xv : Value) (s₁ : Shared) : Prop :=
  ∃ ax t v₁ v₂, xv = .ref ax ∧ s₁.heap.IsList ax #[.ref t] ∧ IsTup s₁.heap t #[v₁, v₂] ∧
    (∀ C m₂ h tk E', h.Ns C m₂ → m₂ a = some v₁ → m₂ b = some v₂ → wpAny (model prog w) A (isTrue c (compEnvC scope cl C env) (eval c (compEnvC scope cl C env))) (fun ok s' => ok = false ∧ Keeps { s₁ with heap := h, toks := tk } s') E' { s₁ with heap := h, toks := tk }) ∧
    ∀ D h tk, Grows s₁.heap h → s₁.heap.objs.size ≤ D → h.get? D = some (lst []) → Q (.ref D) { s₁ with heap := h, toks := tk }
set_option maxHeartbeats 2000000 in
theorem ListComp_pairNo {c elt iter : PySem.Expr} {a b : Str} {pa pb tp : Pos} {kk} {scope : Scope} {cl : List (Str × Addr)} {pos : Pos} {Q : Value → Shared → Prop} (hh : A.handled = none)
    (hclos : closureFor scope env = pure cl) (hcell : ∀ y ∈ scope.names, y.2 ≠ .cell) (hkind : scope.kind = .function)
    (hnames : ∀ y ∈ scope.names, y.2 = .local → scope.names.lookup y.1 = some .local) (hxa : scope.names.lookup a = some .local) (hxb : scope.names.lookup b = some .local) (hab : ¬ a = b)
    (h : wpAny (model prog w) A (eval iter env) (PairNo prog w A env c a b scope cl Q) E s)
    (hs : ∀ x, foldedSetIterable iter env x = pure x := by intro _; rfl) :
    wpAny (model prog w) A (eval (.ListComp elt [⟨.Tuple [.Name a pa, .Name b pb] kk tp, iter, [c], 0⟩] scope pos) env) Q E s := by
  rw [eval_ListComp]
  refine wpAny_comprehension_free (use := none) rfl hs hclos hkind hnames (wpAny_mono h (fun xv s₁ h₁ => ?_) fun _ _ e => e)
  obtain ⟨ax, t, v₁, v₂, rfl, hl, ht, test, fin⟩ := h₁
  refine wpAny_pyIter_list hl ?_
  -- the list, then the block's own names
  refine wpAny_newObj_type (wpAny_newFunctionEnv hcell (by intro y hy; simp at hy) (fun h₁ hns₁ hsb₁ => ?_) hkind)
  dsimp only at hns₁ hsb₁ ⊢
  generalize hI : s₁.heap.push { cls := .type "list_iterator", data := .fields #[.ref ax, .int 0 0] } = H1 at hns₁ hsb₁ ⊢
  generalize hD : H1.push { cls := .type "list", dict := none, data := .seq ([] : List Value).toArray } = H2 at hns₁ hsb₁ ⊢
  have z1 : H1.objs.size = s₁.heap.objs.size + 1 := by rw [← hI, Heap.size_push]
  have z2 : H2.objs.size = H1.objs.size + 1 := by rw [← hD, Heap.size_push]
  have nI : @Ne Nat s₁.heap.objs.size H2.objs.size := by rw [z2, z1]; exact Nat.ne_of_lt (Nat.lt_succ_of_lt (Nat.lt_succ_self _))
  have nD : @Ne Nat H1.objs.size H2.objs.size := by rw [z2]; exact Nat.ne_of_lt (Nat.lt_succ_self _)
  have nID : @Ne Nat s₁.heap.objs.size H1.objs.size := by rw [z1]; exact Nat.ne_of_lt (Nat.lt_succ_self _)
  have low : ∀ x, x < s₁.heap.objs.size → x ≠ H2.objs.size ∧ x ≠ s₁.heap.objs.size := fun x hx => ⟨Nat.ne_of_lt (by rw [z2, z1]; exact Nat.lt_succ_of_lt (Nat.lt_succ_of_lt hx)), Nat.ne_of_lt hx⟩
  have up2 : Grows s₁.heap H2 := fun x o e => by rw [← hD]; exact Heap.get?_push_of_some _ (by rw [← hI]; exact Heap.get?_push_of_some _ e)
  have up : Grows s₁.heap h₁ := fun x o e => hsb₁.extBut x o (low x (Heap.lt_size e)).1 (Heap.get?_push_of_some _ (up2 x o e))
  have it₁ : h₁.IsListIter s₁.heap.objs.size ax 0 := ⟨_, hsb₁.extBut _ _ nI (Heap.get?_push_of_some _ (by rw [← hD]; exact Heap.get?_push_of_some _ (by rw [← hI]; exact Heap.get?_push_size _ rfl))), rfl, rfl⟩
  have d₁ : h₁.get? H1.objs.size = some (lst []) := hsb₁.extBut _ _ nD (Heap.get?_push_of_some _ (by rw [← hD]; exact Heap.get?_push_size _ rfl))
  have loop : ∀ s₃ : Shared, s₃ = { s₁ with heap := h₁, toks := s₁.toks + ([] : List (Str × Value)).length } →
      codeAny (model prog w) A (.compLoop (.ListComp elt [⟨.Tuple [.Name a pa, .Name b pb] kk tp, iter, [c], 0⟩] scope pos) 0 (.ref s₁.heap.objs.size) (.ref H1.objs.size) (compEnvC scope cl H2.objs.size env))
        (compPost (model prog w) A E none Q (.ref H1.objs.size) H2.objs.size) s₃ := by
    rintro s₃ rfl
    refine kct_loop (fun k s' => ∃ h' tk i m', s' = { s₁ with heap := h', toks := tk } ∧ i ≤ 1 ∧ k = 1 - i ∧ Grows s₁.heap h' ∧ h'.IsListIter s₁.heap.objs.size ax i ∧ h'.Ns H2.objs.size m' ∧ h'.get? H1.objs.size = some (lst [])) ?_ 1
      ⟨h₁, _, 0, _, rfl, Nat.zero_le _, rfl, up, it₁, hns₁, d₁⟩
    rintro k s' ⟨h', tk, i, m', rfl, hi, rfl, up', it', ns', d'⟩
    have hl' : h'.IsList ax #[.ref t] := hl.at fun o e => up' _ o e
    have lax : ax < s₁.heap.objs.size := by obtain ⟨o, e, _⟩ := hl; exact Heap.lt_size e
    have hi' : i = 0 ∨ i = 1 := by omega
    rcases hi' with rfl | rfl
    ·
      refine wpAny_pyNext_list_item it' hl' (x := .ref t) rfl fun h₂ it₂ hs₂ => ?_
      have up2 : Grows s₁.heap h₂ := fun x o e => hs₂.extBut x o (low x (Heap.lt_size e)).2 (up' x o e)
      refine wpAny_letOwnedTupleGo_listiter (s := { s₁ with heap := h₂, toks := tk }) it₂ ?_
      refine assign_Tuple_tuple hh (ht.keeps up2) rfl rfl fun h₅ he => ?_
      have he' : Grows h₂ h₅ := fun x o e => he x o (Nat.ne_of_lt (Heap.lt_size e)) e
      have ns₅ : h₅.Ns H2.objs.size m' := (ns'.at' fun o e => hs₂.extBut _ o (Ne.symm nI) e).at' fun o e => he' _ o e
      refine assignInOrder_cons (wpAny_assign_Name (wpAny_storeName_local (lookup_relabel_local hxa) ns₅ (fun h₆ hn₆ hs₆ => ?_) (by simp [compEnvC, relabel, hkind])))
      refine assignInOrder_cons (wpAny_assign_Name (wpAny_storeName_local (lookup_relabel_local hxb) hn₆ (fun h₇ hn₇ hs₇ => ?_) (by simp [compEnvC, relabel, hkind])))
      refine assignInOrder_nil ?_
      have old : ∀ x o, x ≠ H2.objs.size → h₂.get? x = some o → h₇.get? x = some o := fun x o hx e => hs₇.extBut x o hx (hs₆.extBut x o hx (he' x o e))
      refine wpAny_mono (test H2.objs.size _ h₇ _ _ hn₇ (by simp [hab]) (by simp)) (fun ok s₄ h₄ => ?_) fun _ _ e => e
      obtain ⟨rfl, h₈, tk₈, rfl, k₈⟩ := h₄
      simp only [Bool.false_eq_true, if_false]
      refine ⟨0, Nat.zero_lt_succ _, h₈, tk₈, 1, _, rfl, Nat.le_refl _, rfl, fun x o e => k₈ x o (old x o (low x (Heap.lt_size e)).1 (up2 x o e)), it₂.at fun o e => k₈ _ o (old _ o nI e), hn₇.at' fun o e => k₈ _ o e, k₈ _ _ (old _ _ nD (hs₂.extBut _ _ (Ne.symm nID) d'))⟩
    ·
      refine wpAny_pyNext_list_end hh it' hl' rfl fun h₂ hs₂ => ?_
      have up2 : Grows s₁.heap h₂ := fun x o e => hs₂ x o (low x (Heap.lt_size e)).2 (up' x o e)
      refine ⟨m', ns'.at' fun o e => hs₂ _ o (Ne.symm nI) e, fun h₃ hs₃ => fin H1.objs.size h₃ tk (fun x o e => hs₃.extBut x o (low x (Heap.lt_size e)).1 (up2 x o e)) (by rw [z1]; exact Nat.le_succ _) (hs₃.extBut _ _ nD (hs₂ _ _ (Ne.symm nID) d'))⟩
  exact codeAny_compStart_list (loop _ rfl) (wpAny_pyIter_listiter (s := { s₁ with heap := h₁, toks := s₁.toks + ([] : List (Str × Value)).length }) it₁ (loop _ rfl))
end

section
variable {prog : Program} {w : World} {A : Around} {E : Value → Shared → Prop} {s : Shared} {h₀ h h' : Heap} {L D : Addr} {m : Str → Option Value} {news : List (Addr × Obj)} {o : Obj}
theorem news_found (F : Fr h₀ L h m) (N : News h₀ L h news) (up : Grows h h') (hz : h.objs.size ≤ D) (hd : h'.get? D = some o) : News h₀ L h' ((D, o) :: news) := fun p hp => by
  rcases List.mem_cons.mp hp with rfl | hp
  · refine ⟨hd, fun e => ?_, ?_⟩
    · have e' : D = L := e
      exact absurd (Nat.lt_of_lt_of_le F.ns.lt hz) (by rw [e']; exact Nat.lt_irrefl _)
    · show h₀.get? D = none
      cases q : h₀.get? D with
      | none => rfl
      | some o' => exact absurd (Nat.lt_of_lt_of_le (Heap.lt_size (F.keep _ _ q)) hz) (Nat.lt_irrefl _)
  · exact ⟨up _ _ (N p hp).1, (N p hp).2⟩
theorem news_below (N : News h₀ L h news) (hz : h.objs.size ≤ D) : ∀ p ∈ news, p.1 < D := fun p hp => Nat.lt_of_lt_of_le (Heap.lt_size (N p hp).1) hz
/-- a pair's test «a < 0» upon an int that is not below nought -/
theorem pairNo_lt {c : PySem.Expr} {x b : Str} {px pc pos : Pos} {kc} {scope : Scope} {cl : List (Str × Addr)} {env : Env} {Q : Value → Shared → Prop} {ax t : Addr} {i : Int} {ti : Tok} {v₂ : Value}
    (hc : c = .Compare (.Name x px) [.Lt] [.Constant (.int 0) kc pc] pos)
    (hk : ∀ C, (compEnvC scope cl C env).scope.kind = .function) (hl : ∀ C, (compEnvC scope cl C env).kindOf x = some .local) (hd : (x == ("__debug__" : Str)) = false)
    (hL : s.heap.IsList ax #[.ref t]) (hT : IsTup s.heap t #[.int i ti, v₂]) (F : Fr h₀ L s.heap m) (N : News h₀ L s.heap news) (hi : 0 ≤ i)
    (k : ∀ D h' tk, Fr h₀ L h' m → News h₀ L h' ((D, LCg.lst []) :: news) → (∀ p ∈ news, p.1 < D) → Q (.ref D) { s with heap := h', toks := tk }) :
    PairNo prog w A env c x b scope cl Q (.ref ax) s := by
  subst hc
  refine ⟨ax, t, _, _, rfl, hL, hT, fun C m₂ h tk E' hn ha hb => ?_, fun D h' tk up hz hD => k D h' tk (F.keeps up) (news_found F N up hz hD) (news_below N hz)⟩
  refine wpAny_isTrue_Compare1 (ldVarK (s := { s with heap := h, toks := tk }) hn ha ?_ (hk C) (hl C) hd)
  refine wpAny_Constant_int (PyProof.Rows.lt_int ?_)
  rw [decide_eq_false (by omega)]
  exact wpAny_truthy_bool ⟨rfl, _, _, rfl, fun _ _ e => e⟩
end

theorem sign_open {y : Str} {i : Nat} {v : Value} {c : Nat} (h : SignAt y i v) (e : y.cps[i]? = some c) : ∃ u, v = .str ⟨#[c]⟩ u := by
  obtain ⟨c', u, e', rfl⟩ := h
  rw [e] at e'; cases e'; exact ⟨u, rfl⟩
theorem ring_sz : (Str.ofString "RING").cps.size = 4 := by decide
theorem ring_ascii : ((Str.ofString "RING").cps.all fun x => decide (x < 128)) = true := by decide +kernel
theorem ring_at (i : Nat) (v : Value) (h : SignAt (Str.ofString "RING") i v) : i < 4 → ∃ c u, v = .str ⟨#[c]⟩ u ∧ 65 ≤ c ∧ c ≤ 90 := by
  intro hi
  match i, hi with
  | 0, _ => obtain ⟨u, rfl⟩ := sign_open h (c := 82) (by decide); exact ⟨_, _, rfl, by decide, by decide⟩
  | 1, _ => obtain ⟨u, rfl⟩ := sign_open h (c := 73) (by decide); exact ⟨_, _, rfl, by decide, by decide⟩
  | 2, _ => obtain ⟨u, rfl⟩ := sign_open h (c := 78) (by decide); exact ⟨_, _, rfl, by decide, by decide⟩
  | 3, _ => obtain ⟨u, rfl⟩ := sign_open h (c := 71) (by decide); exact ⟨_, _, rfl, by decide, by decide⟩
theorem ring_open {i : Nat} {v : Value} (h : SignAt (Str.ofString "RING") i v) : ∃ c u, v = .str ⟨#[c]⟩ u ∧ (33:Int) ≤ (c : Int) ∧ (c : Int) ≤ 126 := by
  obtain ⟨c, u, e, rfl⟩ := h
  have hi : i < 4 := by
    have := (Array.getElem?_eq_some_iff.mp e).1
    rw [ring_sz] at this; exact this
  obtain ⟨c', u', e', a, b⟩ := ring_at i _ ⟨c, u, e, rfl⟩ hi
  cases e'
  exact ⟨_, _, rfl, by omega, by omega⟩
theorem isList_news {h₀ h : Heap} {L a : Addr} {news : List (Addr × Obj)} {vs : List Value} {n : Nat} (N : News h₀ L h news) (hm : (a, ({ cls := .type "list", data := .seq vs.toArray n } : Obj)) ∈ news) : h.IsList a vs.toArray := ⟨_, (N _ hm).1, rfl, n, rfl⟩
theorem TurnJ.next {h₀ h' : Heap} {L I : Addr} {J : (Str → Option Value) → List (Addr × Obj) → Prop} {o : Obj} {s₁ : Shared} {Q : Flow → Shared → Prop} {tk : Nat} {m' : Str → Option Value} {news' all : List (Addr × Obj)}
    (F : Fr h₀ L h' m') (N : News h₀ L h' all) (hJ : J m' news') (sub : ∀ p ∈ (I, o) :: news', p ∈ all) (off : ∀ p ∈ news', p.1 ≠ I) : TurnJ h₀ L J I o s₁ Q .next { s₁ with heap := h', toks := tk } := ⟨h', tk, m', news', rfl, F, fun p hp => N p (sub p hp), off, hJ⟩
theorem TurnJ.ret {h₀ : Heap} {L I : Addr} {J : (Str → Option Value) → List (Addr × Obj) → Prop} {o : Obj} {s₁ s₂ : Shared} {Q : Flow → Shared → Prop} {v : Value} (h : Q (.ret v) s₂) : TurnJ h₀ L J I o s₁ Q (.ret v) s₂ := h

def FileOk (w : World) (o : Obj) (r : Str) : Prop := ∃ kvs, o.IsDictOf (PySem.strKind PR w) kvs ∧ FlatPairs PyData.str kvs [(.str (Str.ofString "RING"), .str r)]
def MadeOk (w : World) (o : Obj) (b : Str) (rec : Int) : Prop := ∃ kvs, o.IsDictOf (PySem.strKind PR w) kvs ∧ FlatPairs PyData.str kvs
  [(.str (Str.ofString "mode"), .str (Str.ofString "R")), (.str (Str.ofString "name"), .str (Str.ofString "RING")), (.str (Str.ofString "at"), .int 0), (.str (Str.ofString "size"), .int 1), (.str (Str.ofString "buffer"), .str b), (.str (Str.ofString "record"), .int rec)]
def OpenOk (w : World) (o : Obj) (md : Addr) : Prop := o.IsDictOf (intKind PR w) [(1, .ref md)]
def FieldsOk (w : World) (o : Obj) (tp : Addr) : Prop := o.IsDictOf (PySem.strKind PR w) [(Str.ofString "K$", .ref tp)]
abbrev tupT (a b c : Tok) : Obj := { cls := .type "tuple", data := .seq #[.int 1 a, .int 0 b, .int 1 c] }
abbrev tupR (a : Tok) : Obj := { cls := .type "tuple", data := .seq #[.str (Str.ofString "R") a] }
abbrev W7 (es : List DictEntry) (n : Nat) (wx wd fd od ld md tp : Addr) (ofd ood old omd : Obj) (ta tb tc : Tok) : List (Addr × Obj) :=
  [(md, omd), (fd, ofd), (od, ood), (ld, old), (tp, tupT ta tb tc), (wx, instObj 128 wd), (wd, dictOf es n)]
def txt (r : List Nat) : Str := ⟨r.toArray⟩
/-- the world's seven objects: its file RING bears r, the record's buffer b, its number rec -/
structure RW (w : World) (es : List DictEntry) (wx wd fd od ld md tp : Addr) (ofd ood old omd : Obj) (r : List Nat) (b : Nat) (rec : Int) : Prop where
  gF : getL (Str.ofString "files") es = some (some (.ref fd))
  gO : getL (Str.ofString "open") es = some (some (.ref od))
  gL : getL (Str.ofString "fields") es = some (some (.ref ld))
  h1 : @LT.lt Nat _ wd wx
  h2 : @LT.lt Nat _ wx fd
  h3 : @LT.lt Nat _ fd od
  h4 : @LT.lt Nat _ od ld
  h5 : @LT.lt Nat _ ld md
  h6 : @LT.lt Nat _ md tp
  l1 : (fd == sysModules) = false
  l2 : (od == sysModules) = false
  l3 : (ld == sysModules) = false
  l4 : (md == sysModules) = false
  file : FileOk w ofd (txt r)
  opn : OpenOk w ood md
  fields : FieldsOk w old tp
  made : MadeOk w omd (txt [b]) rec
  len : (txt r).length ≤ 5
theorem txt_len (r : List Nat) : (txt r).length = r.length := by show r.toArray.size = _; exact List.size_toArray
theorem txt_app (a b : List Nat) : txt a ++ txt b = txt (a ++ b) := by
  show (⟨a.toArray ++ b.toArray⟩ : Str) = ⟨(a ++ b).toArray⟩
  rw [List.append_toArray]
theorem txt_cut {r : List Nat} {i j : Int} (h0 : 0 ≤ i) (h1 : i ≤ j) (h2 : j ≤ r.length) : Txt.slice (txt r) (some i) (some j) = txt ((r.drop i.toNat).take (j - i).toNat) := by
  have := slice_closesL (x := txt r) h0 h1 (by rw [txt_len]; exact h2)
  exact eq_of_beq this
theorem txt_cutTo {r : List Nat} {j : Int} (h1 : 0 ≤ j) (h2 : j ≤ r.length) : Txt.slice (txt r) none (some j) = txt (r.take j.toNat) := by
  have := eq_of_beq (slice_closes_toL (x := txt r) h1 (by rw [txt_len]; exact h2))
  rw [this]
  show (⟨((r.drop (0 : Int).toNat).take (j - 0).toNat).toArray⟩ : Str) = _
  rw [Int.sub_zero]; rfl
theorem txt_cutFrom {r : List Nat} {i : Int} (h0 : 0 ≤ i) (h2 : i ≤ r.length) : Txt.slice (txt r) (some i) none = txt (r.drop i.toNat) := by
  have := eq_of_beq (slice_closes_fromL (x := txt r) (b := r.length) h0 (by rw [txt_len]; exact h2) (by rw [txt_len]))
  rw [this]
  show (⟨((r.drop i.toNat).take ((r.length : Int) - i).toNat).toArray⟩ : Str) = _
  rw [List.take_of_length_le (by rw [List.length_drop]; omega)]; rfl
theorem txt_cutFromBeyond {r : List Nat} {i : Int} (h2 : r.length ≤ i) : Txt.slice (txt r) (some i) none = txt [] := by
  have e : Txt.slice (txt r) (some i) none = Txt.slice (txt r) (some (r.length : Int)) none := by
    unfold Txt.slice
    rw [indices_beyond (n := (txt r).length) (by rw [txt_len]; exact h2), txt_len]
  rw [e, txt_cutFrom (by omega) (by omega)]
  simp
theorem txt_one (c : Nat) : txt [c] = ⟨#[c]⟩ := rfl
theorem drop_take_one (r : List Nat) (i : Nat) (h : i < r.length) : (r.drop i).take 1 = [r.getD i 0] := by
  rw [List.take_one, List.head?_drop]
  simp [List.getD_eq_getElem?_getD, h]
def gotText (r : List Nat) (k : Int) : Str := Txt.slice (Txt.slice (txt r) (some ((k - 1) * 1)) (some ((k - 1) * 1 + 1)) ++ Txt.mul { cps := #[Int.toNat 0] } 1) none (some 1)
theorem got_text (r : List Nat) (k : Int) (h1 : 1 ≤ k) (h2 : k ≤ (txt r).length) : gotText r k = txt [r.getD (k - 1).toNat 0] := by
  rw [txt_len] at h2
  unfold gotText
  rw [txt_cut (by omega) (by omega) (by omega)]
  have e : (((k - 1) * 1 + 1) - (k - 1) * 1).toNat = 1 := by omega
  have e' : ((k - 1) * 1).toNat = (k - 1).toNat := by rw [Int.mul_one]
  rw [e, e', drop_take_one _ _ (by omega), show Txt.mul { cps := #[Int.toNat 0] } 1 = txt [0] from rfl, txt_app, txt_cutTo (by decide) (by simp)]
  rfl
theorem buf_cut (b : Nat) : Txt.slice (txt [b]) (some 0) (some (0 + 1)) = txt [b] := by rw [txt_cut (by decide) (by decide) (by simp)]; rfl
theorem buf_cut1 (b : Nat) : Txt.slice (txt [b]) none (some 1) = txt [b] := by rw [txt_cutTo (by decide) (by simp)]; rfl
theorem one_len (b : Nat) : (txt [b]).length = 1 := txt_len _
theorem mul_none : Txt.mul (Str.ofString " ") 0 = txt [] := rfl
theorem placed_text (c : Nat) : Txt.slice (txt [c]) none (some 1) ++ Txt.mul (Str.ofString " ") (1 - ↑(Txt.slice (txt [c]) none (some 1)).length) = txt [c] := by
  rw [buf_cut1, one_len]
  show txt [c] ++ Txt.mul (Str.ofString " ") 0 = _
  rw [mul_none, txt_app]; rfl
theorem buf_set (b c : Nat) : Txt.slice (txt [b]) none (some 0) ++ txt [c] ++ Txt.slice (txt [b]) (some (0 + 1)) none = txt [c] := by
  rw [txt_cutTo (by decide) (by simp), txt_cutFrom (by decide) (by simp), txt_app, txt_app]; rfl
theorem mul_low (x : Str) {n : Int} (h : n ≤ 0) : Txt.mul x n = txt [] := by unfold Txt.mul; rw [if_pos (by omega)]; rfl
theorem pad_text (r : List Nat) (k : Int) (h : k ≤ (txt r).length + 1) : txt r ++ Txt.mul { cps := #[Int.toNat 0] } ((k - 1) * 1 - ((txt r).length : Nat)) = txt r := by
  rw [mul_low _ (by omega), txt_app, List.append_nil]
def putAt (r : List Nat) (i : Nat) (b : Nat) : List Nat := r.take i ++ [b] ++ r.drop (i + 1)
theorem put_text (r : List Nat) (k : Int) (b : Nat) (h1 : 1 ≤ k) (h : k ≤ (txt r).length + 1) : Txt.slice (txt r) none (some ((k - 1) * 1)) ++ txt [b] ++ Txt.slice (txt r) (some ((k - 1) * 1 + 1)) none = txt (putAt r (k - 1).toNat b) := by
  rw [txt_len] at h
  have e : ((k - 1) * 1).toNat = (k - 1).toNat := by rw [Int.mul_one]
  rw [txt_cutTo (by omega) (by omega), e]
  unfold putAt
  by_cases h2 : k ≤ r.length
  · rw [txt_cutFrom (by omega) (by omega), txt_app, txt_app, show ((k - 1) * 1 + 1).toNat = (k - 1).toNat + 1 by omega]
  · rw [txt_cutFromBeyond (by omega), txt_app, txt_app, List.drop_of_length_le (by omega)]
theorem putAt_len (r : List Nat) (i b : Nat) (h : i ≤ r.length) : (putAt r i b).length ≤ max r.length (i + 1) := by
  unfold putAt
  simp only [List.length_append, List.length_take, List.length_drop, List.length_singleton]
  omega
/-- where the sign stands, or the first free record from k on -/
def spotFrom (r : List Nat) (c : Nat) : Nat → Int → Int
  | 0, k => k
  | n + 1, k => if r.getD k.toNat 0 = c ∨ r.getD k.toNat 0 = 45 then k else spotFrom r c n (Int.fmod (k + 1) 5)
theorem fm3 (c : Nat) : 0 ≤ Int.fmod c 3 ∧ Int.fmod c 3 < 3 := ⟨Int.fmod_nonneg_of_pos _ (by decide), Int.fmod_lt_of_pos _ (by decide)⟩
theorem fm5 (k : Int) : 0 ≤ Int.fmod k 5 ∧ Int.fmod k 5 < 5 := ⟨Int.fmod_nonneg_of_pos _ (by decide), Int.fmod_lt_of_pos _ (by decide)⟩
theorem dash : Str.ofString "-" = txt [45] := by decide
theorem txt_eq1 {a b : Nat} : (txt [a] == txt [b]) = decide (a = b) := by
  rw [Bool.eq_iff_iff, beq_iff_eq, decide_eq_true_eq]
  constructor
  · intro h
    have := congrArg (fun x : Str => x.cps.toList) h
    simpa [txt] using this
  · rintro rfl; rfl
theorem any_spot {a c : Nat} : ([txt [c], Str.ofString "-"].any fun x => x == txt [a]) = true ↔ a = c ∨ a = 45 := by
  rw [dash]
  simp only [List.any_cons, List.any_nil, Bool.or_false, txt_eq1, Bool.or_eq_true, decide_eq_true_eq]
  omega
theorem spot_hit {r : List Nat} {c i : Nat} {k k₀ : Int} (hi : i < 5) (hs : spotFrom r c (5 - i) k = spotFrom r c 5 k₀) (h : ([txt [c], Str.ofString "-"].any fun x => x == txt [r.getD k.toNat 0]) = true) : k = spotFrom r c 5 k₀ := by
  obtain ⟨j, hj⟩ : ∃ j, 5 - i = j + 1 := ⟨4 - i, by omega⟩
  rw [← hs, hj, spotFrom, if_pos (any_spot.mp h)]
theorem spot_on {r : List Nat} {c i : Nat} {k k₀ : Int} (hi : i < 5) (hs : spotFrom r c (5 - i) k = spotFrom r c 5 k₀) (h : ([txt [c], Str.ofString "-"].any fun x => x == txt [r.getD k.toNat 0]) = false) : spotFrom r c (5 - (i + 1)) (Int.fmod (k + 1) 5) = spotFrom r c 5 k₀ := by
  obtain ⟨j, hj⟩ : ∃ j, 5 - i = j + 1 := ⟨4 - i, by omega⟩
  rw [← hs, hj, spotFrom, if_neg (fun e => by rw [any_spot.mpr e] at h; cases h), show 5 - (i + 1) = j by omega]
def SpotJ (w : World) (es : List DictEntry) (n : Nat) (wx wd fd od ld md tp : Addr) (ofd ood old : Obj) (ta tb tc : Tok) (r : List Nat) (c : Nat) (t2 : Tok) (k₀ : Int) (i : Nat) (m : Str → Option Value) (news : List (Addr × Obj)) : Prop :=
  ∃ k t omd b rec, m (Str.ofString "world") = some (.ref wx) ∧ m (Str.ofString "sign") = some (.str (txt [c]) t2) ∧ m (Str.ofString "at") = some (.int k t) ∧ 0 ≤ k ∧ k < 5 ∧ spotFrom r c (5 - i) k = spotFrom r c 5 k₀ ∧
    news = W7 es n wx wd fd od ld md tp ofd ood old omd ta tb tc ∧ RW w es wx wd fd od ld md tp ofd ood old omd r b rec
theorem putAt_len' (r : List Nat) (k : Int) (c : Nat) (k1 : 0 ≤ k) (h : k ≤ (txt r).length) : (txt (putAt r k.toNat c)).length = max (txt r).length (k.toNat + 1) := by
  rw [txt_len] at h
  rw [txt_len, txt_len]
  unfold putAt
  simp only [List.length_append, List.length_take, List.length_drop, List.length_singleton]
  omega
section
variable {w : World} {es : List DictEntry} {wx wd fd od ld md tp : Addr} {ofd ood old omd : Obj} {r : List Nat} {b c : Nat} {rec k : Int}
theorem put_len5 (_H : RW w es wx wd fd od ld md tp ofd ood old omd (putAt r k.toNat c) b rec) (h : (txt r).length = 5) (k1 : 0 ≤ k) (k2 : k < 5) : (txt (putAt r k.toNat c)).length = 5 := by
  rw [putAt_len' r k c k1 (by omega)]; omega
theorem put_lenM (_H : RW w es wx wd fd od ld md tp ofd ood old omd (putAt r k.toNat c) b rec) (k1 : 0 ≤ k) (h : k ≤ (txt r).length) : (txt (putAt r k.toNat c)).length = max (txt r).length (k.toNat + 1) := putAt_len' r k c k1 h
/-- an address above the seven -/
def Over7 (wx wd fd od ld md tp I : Nat) : Prop := md < I ∧ fd < I ∧ od < I ∧ ld < I ∧ tp < I ∧ wx < I ∧ wd < I
theorem allLt7 {n : Nat} {ta tb tc : Tok} {I : Addr} (h : ∀ q ∈ W7 es n wx wd fd od ld md tp ofd ood old omd ta tb tc, q.1 < I) : Over7 wx wd fd od ld md tp I :=
  ⟨h _ (.head _), h _ (.tail _ (.head _)), h _ (.tail _ (.tail _ (.head _))), h _ (.tail _ (.tail _ (.tail _ (.head _)))), h _ (.tail _ (.tail _ (.tail _ (.tail _ (.head _))))), h _ (.tail _ (.tail _ (.tail _ (.tail _ (.tail _ (.head _)))))), h _ (.tail _ (.tail _ (.tail _ (.tail _ (.tail _ (.tail _ (.head _))))))) ⟩
theorem off7 {n : Nat} {ta tb tc : Tok} {I : Addr} {o : Obj} (h : Over7 wx wd fd od ld md tp I) : ∀ p ∈ [((I, o) : Addr × Obj)], ∀ q ∈ W7 es n wx wd fd od ld md tp ofd ood old omd ta tb tc, q.1 ≠ p.1 := by
  obtain ⟨h1, h2, h3, h4, h5, h6, h7⟩ := h
  intro p hp q hq
  rw [List.mem_singleton.mp hp]
  simp only [W7, List.mem_cons, List.not_mem_nil, or_false] at hq
  rcases hq with rfl | rfl | rfl | rfl | rfl | rfl | rfl <;> exact Nat.ne_of_lt (by assumption)
theorem all7 {n : Nat} {ta tb tc : Tok} {I : Addr} (h : Over7 wx wd fd od ld md tp I) : ∀ q ∈ W7 es n wx wd fd od ld md tp ofd ood old omd ta tb tc, q.1 ≠ I := off7 (o := ood) h _ (List.mem_singleton.mpr rfl)
end
theorem spot_bounds (r : List Nat) (c : Nat) : ∀ n k, 0 ≤ k → k < 5 → 0 ≤ spotFrom r c n k ∧ spotFrom r c n k < 5
  | 0, k, h1, h2 => ⟨h1, h2⟩
  | n + 1, k, h1, h2 => by
    unfold spotFrom
    split
    · exact ⟨h1, h2⟩
    · exact spot_bounds r c n _ (fm5 _).1 (fm5 _).2
theorem spot_in (r : List Nat) (c : Nat) : 0 ≤ spotFrom r c 5 (Int.fmod c 3) ∧ spotFrom r c 5 (Int.fmod c 3) < 5 := spot_bounds r c 5 _ (fm3 c).1 (Int.lt_trans (fm3 c).2 (by decide))
/-- algorithm R from the hole on: hole and place, n records left -/
def takeFrom : Nat → Int → Int → List Nat → List Nat
  | 0, _, _, r => r
  | n + 1, hole, k, r =>
    let k' := Int.fmod (k + 1) 5
    let a := r.getD k'.toNat 0
    if a = 45 then r
    else if Int.fmod (k' - hole) 5 ≤ Int.fmod (k' - Int.fmod a 3) 5 then takeFrom n k' k' (putAt (putAt r hole.toNat a) k'.toNat 45)
    else takeFrom n hole k' r
def TakeJ (w : World) (es : List DictEntry) (n : Nat) (wx wd fd od ld md tp : Addr) (ood old : Obj) (ta tb tc : Tok) (r₀ : List Nat) (i : Nat) (m : Str → Option Value) (news : List (Addr × Obj)) : Prop :=
  ∃ hole th k t r ofd omd b rec, m (Str.ofString "world") = some (.ref wx) ∧ m (Str.ofString "hole") = some (.int hole th) ∧ m (Str.ofString "at") = some (.int k t) ∧ 0 ≤ hole ∧ hole < 5 ∧ 0 ≤ k ∧ k < 5 ∧ (txt r).length = 5 ∧ takeFrom (4 - i) hole k r = r₀ ∧
    news = W7 es n wx wd fd od ld md tp ofd ood old omd ta tb tc ∧ RW w es wx wd fd od ld md tp ofd ood old omd r b rec
theorem dash_iff {a : Nat} : (txt [a] == Str.ofString "-") = decide (a = 45) := by rw [dash, txt_eq1]
theorem take_stop {i : Nat} {hole k : Int} {r r₀ : List Nat} (hi : i < 4) (hs : takeFrom (4 - i) hole k r = r₀) (h : (txt [r.getD (Int.fmod (k + 1) 5).toNat 0] == Str.ofString "-") = true) : r₀ = r := by
  obtain ⟨j, hj⟩ : ∃ j, 4 - i = j + 1 := ⟨3 - i, by omega⟩
  rw [dash_iff, decide_eq_true_eq] at h
  rw [← hs, hj, takeFrom]
  simp only [h, if_true]
theorem take_move {i : Nat} {hole k : Int} {r r₀ : List Nat} (hi : i < 4) (hs : takeFrom (4 - i) hole k r = r₀) (h : (txt [r.getD (Int.fmod (k + 1) 5).toNat 0] == Str.ofString "-") = false)
    (g : Int.fmod (Int.fmod (k + 1) 5 - hole) 5 ≤ Int.fmod (Int.fmod (k + 1) 5 - Int.fmod (r.getD (Int.fmod (k + 1) 5).toNat 0) 3) 5) :
    takeFrom (4 - (i + 1)) (Int.fmod (k + 1) 5) (Int.fmod (k + 1) 5) (putAt (putAt r hole.toNat (r.getD (Int.fmod (k + 1) 5).toNat 0)) (Int.fmod (k + 1) 5).toNat 45) = r₀ := by
  obtain ⟨j, hj⟩ : ∃ j, 4 - i = j + 1 := ⟨3 - i, by omega⟩
  rw [dash_iff, decide_eq_false_iff_not] at h
  rw [← hs, hj, takeFrom, show 4 - (i + 1) = j by omega]
  simp only [h, g, if_true, if_false]
theorem take_on {i : Nat} {hole k : Int} {r r₀ : List Nat} (hi : i < 4) (hs : takeFrom (4 - i) hole k r = r₀) (h : (txt [r.getD (Int.fmod (k + 1) 5).toNat 0] == Str.ofString "-") = false)
    (g : ¬ Int.fmod (Int.fmod (k + 1) 5 - hole) 5 ≤ Int.fmod (Int.fmod (k + 1) 5 - Int.fmod (r.getD (Int.fmod (k + 1) 5).toNat 0) 3) 5) :
    takeFrom (4 - (i + 1)) hole (Int.fmod (k + 1) 5) r = r₀ := by
  obtain ⟨j, hj⟩ : ∃ j, 4 - i = j + 1 := ⟨3 - i, by omega⟩
  rw [dash_iff, decide_eq_false_iff_not] at h
  rw [← hs, hj, takeFrom, show 4 - (i + 1) = j by omega]
  simp only [h, g, if_false]

/-- the first free place from k on, and the ways so far -/
def probe (row : List Nat) : Nat → Int → Int → Int × Int
  | 0, k, wy => (k, wy)
  | n + 1, k, wy => if row.getD k.toNat 0 = 45 then (k, wy) else probe row n (Int.fmod (k + 1) 5) (wy + 1)
def layStep (st : List Nat × Int) (c : Nat) : List Nat × Int := (st.1.set (probe st.1 5 (Int.fmod c 3) st.2).1.toNat c, (probe st.1 5 (Int.fmod c 3) st.2).2)
def laid (cs : List Nat) : List Nat × Int := cs.foldl layStep ([45, 45, 45, 45, 45], 0)
/-- a free place among the n from k on -/
def freeIn (row : List Nat) : Nat → Int → Prop
  | 0, _ => False
  | n + 1, k => row.getD k.toNat 0 = 45 ∨ freeIn row n (Int.fmod (k + 1) 5)
theorem freeIn_all {row : List Nat} (h5 : row.length = 5) (hd : 45 ∈ row) {k : Int} (h0 : 0 ≤ k) (h1 : k < 5) : freeIn row 5 k := by
  match row, h5 with
  | [a, b, c, d, e], _ =>
    simp only [List.mem_cons, List.not_mem_nil, or_false] at hd
    rcases (by omega : k = 0 ∨ k = 1 ∨ k = 2 ∨ k = 3 ∨ k = 4) with rfl | rfl | rfl | rfl | rfl <;>
      (simp only [freeIn, or_false]; rcases hd with h | h | h | h | h <;> simp [h, Int.fmod])
theorem count_set (row : List Nat) (k c : Nat) : row.count 45 ≤ (row.set k c).count 45 + 1 := by
  induction row generalizing k with
  | nil => simp
  | cons a r ih =>
    cases k with
    | zero => rw [List.set_cons_zero, List.count_cons, List.count_cons]; split <;> split <;> omega
    | succ k => rw [List.set_cons_succ, List.count_cons, List.count_cons]; have := ih k; omega
theorem laid_snoc (cs : List Nat) (c : Nat) : laid (cs ++ [c]) = layStep (laid cs) c := by unfold laid; rw [List.foldl_append]; rfl
theorem laid_take (cs : List Nat) (i : Nat) (c : Nat) (h : cs[i]? = some c) : laid (cs.take (i + 1)) = layStep (laid (cs.take i)) c := by
  rw [List.take_add_one, h]; exact laid_snoc _ _
theorem lay_count : ∀ (cs : List Nat) (st : List Nat × Int), st.1.count 45 ≤ (cs.foldl layStep st).1.count 45 + cs.length
  | [], _ => by simp
  | c :: r, st => by
    have h1 := lay_count r (layStep st c)
    have h2 := count_set st.1 (probe st.1 5 (Int.fmod c 3) st.2).1.toNat c
    rw [List.foldl_cons, List.length_cons]
    have h3 : (layStep st c).1 = st.1.set (probe st.1 5 (Int.fmod c 3) st.2).1.toNat c := rfl
    rw [h3] at h1
    omega
theorem lay_len : ∀ (cs : List Nat) (st : List Nat × Int), (cs.foldl layStep st).1.length = st.1.length
  | [], _ => rfl
  | c :: r, st => by rw [List.foldl_cons, lay_len r]; exact List.length_set ..
theorem laid_len (cs : List Nat) : (laid cs).1.length = 5 := lay_len cs _
theorem laid_free (cs : List Nat) (h : cs.length ≤ 4) : 45 ∈ (laid cs).1 := by
  have := lay_count cs ([45, 45, 45, 45, 45], 0)
  have e : ([45, 45, 45, 45, 45] : List Nat).count 45 = 5 := by decide
  refine List.count_pos_iff.mp ?_
  show 0 < (cs.foldl layStep ([45, 45, 45, 45, 45], 0)).1.count 45
  rw [show (([45, 45, 45, 45, 45], 0) : List Nat × Int).1.count 45 = 5 from e] at this
  omega
abbrev signsOf (cs : List Nat) : List Str := cs.map fun c => txt [c]
def LayJ (rl hl : Addr) (vs : List Value) (nv : Nat) (cs : List Nat) (i : Nat) (m : Str → Option Value) (news : List (Addr × Obj)) : Prop :=
  ∃ vsr nr t, m (Str.ofString "row") = some (.ref rl) ∧ m (Str.ofString "ways") = some (.int (laid (cs.take i)).2 t) ∧ StrsAre vsr (signsOf (laid (cs.take i)).1) ∧ @LT.lt Nat _ hl rl ∧ news = [(rl, listOf vsr.toArray nr), (hl, listOf vs.toArray nv)]
def LayW (rl hl : Addr) (vs : List Value) (nv : Nat) (row : List Nat) (vsr : List Value) (nr : Nat) (c : Nat) (ts : Tok) (goal : Int × Int) (I : Addr) (o : Obj) (n : Nat) (m : Str → Option Value) (news : List (Addr × Obj)) : Prop :=
  ∃ k t wy t', m (Str.ofString "row") = some (.ref rl) ∧ m (Str.ofString "sign") = some (.str (txt [c]) ts) ∧ m (Str.ofString "at") = some (.int k t) ∧ m (Str.ofString "ways") = some (.int wy t') ∧ 0 ≤ k ∧ k < 5 ∧ freeIn row n k ∧ probe row n k wy = goal ∧
    news = [(I, o), (rl, listOf vsr.toArray nr), (hl, listOf vs.toArray nv)]
theorem probe_hit {row : List Nat} {n : Nat} {k wy : Int} {g : Int × Int} (hp : probe row (n + 1) k wy = g) (h : (txt [row.getD k.toNat 0] == Str.ofString "-") = true) : g = (k, wy) := by
  rw [dash_iff, decide_eq_true_eq] at h
  rw [← hp, probe, if_pos h]
theorem probe_on {row : List Nat} {n : Nat} {k wy : Int} {g : Int × Int} (hp : probe row (n + 1) k wy = g) (hf : freeIn row (n + 1) k) (h : (txt [row.getD k.toNat 0] == Str.ofString "-") = false) :
    probe row n (Int.fmod (k + 1) 5) (wy + 1) = g ∧ freeIn row n (Int.fmod (k + 1) 5) := by
  rw [dash_iff, decide_eq_false_iff_not] at h
  exact ⟨by rw [← hp, probe, if_neg h], hf.resolve_left h⟩
theorem lay_next {cs : List Nat} {i c n : Nat} {k wy : Int} (hc : cs[i]? = some c) (hp : probe (laid (cs.take i)).1 (n + 1) k wy = probe (laid (cs.take i)).1 5 (Int.fmod c 3) (laid (cs.take i)).2)
    (h : (txt [(laid (cs.take i)).1.getD k.toNat 0] == Str.ofString "-") = true) : laid (cs.take (i + 1)) = ((laid (cs.take i)).1.set k.toNat c, wy) := by
  rw [laid_take cs i c hc]
  unfold layStep
  rw [probe_hit hp h]
abbrev tupL (rl : Addr) (wy : Int) (t : Tok) : Obj := { cls := .type "tuple", data := .seq #[.ref rl, .int wy t] }

section
variable {prog : Program} {w : World} {A : Around} {E : Value → Shared → Prop} {s : Shared} {h₀ : Heap} {L D : Addr} {m : Str → Option Value} {news news' : List (Addr × Obj)} {vs : List Value} {ss : List Str} {n : Nat} {k : Int} {x : Str} {t u : Tok}
theorem strs_set {x : Str} {t : Tok} : ∀ {vs : List Value} {ss : List Str}, StrsAre vs ss → ∀ k : Nat, StrsAre (vs.set k (.str x t)) (ss.set k x)
  | _, _, .nil, _ => .nil
  | _, _, .cons _ _ h, 0 => .cons _ _ h
  | _, _, .cons c d h, k + 1 => .cons c d (strs_set h k)
theorem store_strs {Q : Unit → Shared → Prop} (F : Fr h₀ L s.heap m) (N : News h₀ L s.heap news) (U : Upd D (listOf vs.toArray n) (listOf (vs.set k.toNat (.str x t)).toArray n) news news') (hb : StrsAre vs ss) (h0 : 0 ≤ k) (h1 : k < ss.length) (hfit : k < 2 ^ 63)
    (h : ∀ h', Fr h₀ L h' m → News h₀ L h' news' → StrsAre (vs.set k.toNat (.str x t)) (ss.set k.toNat x) → Q () { s with heap := h' }) : wpAny (model prog w) A (setItem (.ref D) (.int k u) (.str x t)) Q E s := by
  obtain ⟨pre, post, rfl, rfl, a, b'⟩ := U.split
  have z := N (D, listOf vs.toArray n) (List.mem_append.mpr (.inr (.head _)))
  have hz : vs.length = ss.length := hb.length
  refine ki_setAt z.1 h0 hfit (by rw [List.size_toArray]; omega) (h _ (F.change (Heap.SameBut.update ..) z.2.1 z.2.2) (ki_turn _ N a b' ?_ ?_) (strs_set hb _))
  · show vs.toArray.setIfInBounds k.toNat (.str x t) = (vs.set k.toNat (.str x t)).toArray
    simp
  · simp
end
theorem strs_at {vs : List Value} {ss : List Str} (h : StrsAre vs ss) {i : Nat} {v : Value} (e : vs[i]? = some v) : ∃ x t, v = .str x t ∧ ss[i]? = some x := by
  induction h generalizing i with
  | nil => simp at e
  | cons x t h ih =>
    cases i with
    | zero => simp at e; exact ⟨_, _, e.symm, rfl⟩
    | succ i => exact ih e
theorem signs_at {vs : List Value} {cs : List Nat} (h : StrsAre vs (signsOf cs)) {i : Nat} {v : Value} (e : vs[i]? = some v) : ∃ c t, v = .str (txt [c]) t ∧ cs[i]? = some c := by
  obtain ⟨x, t, rfl, e'⟩ := strs_at h e
  rw [List.getElem?_map] at e'
  cases hc : cs[i]? with
  | none => rw [hc] at e'; cases e'
  | some c => rw [hc] at e'; cases e'; exact ⟨c, t, rfl, rfl⟩
theorem signs_set (cs : List Nat) (k : Nat) (c : Nat) : (signsOf cs).set k (txt [c]) = signsOf (cs.set k c) := by
  unfold signsOf; rw [List.map_set]
theorem news_bd {h₀ h : Heap} {L : Addr} {a b c d : Addr × Obj} (N : News h₀ L h [a, b, c, d]) : News h₀ L h [b, d] := fun p hp => N p (by
  rcases List.mem_cons.mp hp with e | hp
  · subst e; simp
  · rw [List.mem_singleton.mp hp]; simp)
section
variable {prog : Program} {w : World} {A : Around} {E : Value → Shared → Prop} {s : Shared} {value slice : PySem.Expr} {l : Addr} {vs : List Value} {cs : List Nat} {i : Int} {u : Tok} {Q : Value → Shared → Prop}
theorem item_signs (hl : s.heap.IsList l vs.toArray) (hw : StrsAre vs (signsOf cs)) (h0 : 0 ≤ i) (h1 : i < (cs.length : Int)) (hfit : i < 2 ^ 63) (h : ∀ t', Q (.str (txt [cs.getD i.toNat 0]) t') s)
    (hs : subscripted slice false (.ref l) (.int i u) = operate [.ref l, .int i u] (getItem (.ref l) (.int i u)) := by with_unfolding_all rfl) :
    wpAny (model prog w) A (subscriptTail value slice (.ref l) (.int i u)) Q E s := by
  have hlt : i.toNat < cs.length := by omega
  obtain ⟨t', e⟩ := hw.get i.toNat (txt [cs.getD i.toNat 0]) (by rw [List.getElem?_map, List.getD_eq_getElem?_getD, List.getElem?_eq_getElem hlt]; rfl)
  exact tail_any hl.typeIs slot_list_getitem.lookup (wpAny_getItem_list hl h0 hfit (x := .str _ t') (by simpa using e) (h t')) hs
end
theorem whl_ne {a b : Str} {X Y : Prop} (hx : (a == b) = false → X) (hy : (a == b) = true → Y) : WhlIf (a != b) X Y := by
  unfold WhlIf
  cases h : a == b
  · rw [if_pos (by simp [bne, h])]; exact hx h
  · rw [if_neg (by simp [bne, h])]; exact hy h
def nthL {α : Type} : List α → Nat → List α
  | [], _ => []
  | a :: _, 0 => [a]
  | _ :: r, n + 1 => nthL r n
def pickL {α : Type} (l : List α) : List Nat → List α
  | [] => []
  | i :: is => nthL l i ++ pickL l is
theorem nthL_mem {α : Type} {p : α} : ∀ {l : List α} {i : Nat}, p ∈ nthL l i → p ∈ l
  | [], _, h => nomatch h
  | _ :: _, 0, h => by rw [List.mem_singleton.mp h]; exact .head _
  | _ :: _, _ + 1, h => .tail _ (nthL_mem (l := _) h)
theorem news_pick (is : List Nat) {h₀ h : Heap} {L : Addr} {l : List (Addr × Obj)} (N : News h₀ L h l) : News h₀ L h (pickL l is) := by
  induction is with
  | nil => exact fun p hp => nomatch hp
  | cons i is ih =>
    intro p hp
    rcases List.mem_append.mp hp with h | h
    · exact N p (nthL_mem h)
    · exact ih p h

section
variable {f : Nat → Nat}
theorem getD_map45 (hf : ∀ x, f x = 45 ↔ x = 45) (r : List Nat) (k : Nat) : (r.map f).getD k 0 = 45 ↔ r.getD k 0 = 45 := by
  rw [List.getD_eq_getElem?_getD, List.getD_eq_getElem?_getD, List.getElem?_map]
  cases r[k]? with
  | none => simp
  | some x => simpa using hf x
theorem probe_map (hf : ∀ x, f x = 45 ↔ x = 45) (r : List Nat) : ∀ n k wy, probe (r.map f) n k wy = probe r n k wy
  | 0, _, _ => rfl
  | n + 1, k, wy => by
    unfold probe
    rw [probe_map hf r n]
    by_cases h : r.getD k.toNat 0 = 45
    · rw [if_pos h, if_pos ((getD_map45 hf r _).mpr h)]
    · rw [if_neg h, if_neg (fun e => h ((getD_map45 hf r _).mp e))]
theorem lay_map (hf : ∀ x, f x = 45 ↔ x = 45) (hm : ∀ x, f x % 3 = x % 3) : ∀ (cs : List Nat) (st : List Nat × Int), (cs.map f).foldl layStep (st.1.map f, st.2) = ((cs.foldl layStep st).1.map f, (cs.foldl layStep st).2)
  | [], _ => rfl
  | c :: cs, st => by
    rw [List.map_cons, List.foldl_cons, List.foldl_cons, ← lay_map hf hm cs (layStep st c)]
    congr 1
    unfold layStep
    have e : Int.fmod ((f c : Nat) : Int) 3 = Int.fmod (c : Int) 3 := by
      rw [Int.fmod_eq_emod_of_nonneg _ (by decide), Int.fmod_eq_emod_of_nonneg _ (by decide)]
      have := hm c
      omega
    rw [e, probe_map hf, List.map_set]
theorem laid_map (hf : ∀ x, f x = 45 ↔ x = 45) (hm : ∀ x, f x % 3 = x % 3) (cs : List Nat) : laid (cs.map f) = ((laid cs).1.map f, (laid cs).2) := by
  have h45 : f 45 = 45 := (hf 45).mpr rfl
  have := lay_map hf hm cs ([45, 45, 45, 45, 45], 0)
  simp only [List.map_cons, List.map_nil, h45] at this
  exact this
end
/-- the sign's class -/
def cls3 (x : Nat) : Nat := if x = 45 then 45 else 48 + x % 3
theorem cls3_45 (x : Nat) : cls3 x = 45 ↔ x = 45 := by unfold cls3; split <;> omega
theorem cls3_mod (x : Nat) : cls3 x % 3 = x % 3 := by unfold cls3; split <;> omega
def canon3 (l : List Nat) : List Nat := List.replicate (l.count 48) 48 ++ List.replicate (l.count 49) 49 ++ List.replicate (l.count 50) 50
def lists3 : Nat → List (List Nat)
  | 0 => [[]]
  | n + 1 => (lists3 n).flatMap fun l => [48 :: l, 49 :: l, 50 :: l]
theorem lists3_mem : ∀ (l : List Nat), (∀ x ∈ l, x = 48 ∨ x = 49 ∨ x = 50) → l ∈ lists3 l.length
  | [], _ => List.mem_singleton.mpr rfl
  | x :: l, h => by
    have ih := lists3_mem l fun y hy => h y (.tail _ hy)
    refine List.mem_flatMap.mpr ⟨l, ih, ?_⟩
    rcases h x (.head _) with e | e | e <;> simp [e]
def freeOf (r : List Nat) : List Bool := r.map fun x => decide (x = 45)
theorem check_perm : ∀ n ∈ [0, 1, 2, 3, 4], ∀ l ∈ lists3 n, (laid l).2 = (laid (canon3 l)).2 ∧ freeOf (laid l).1 = freeOf (laid (canon3 l)).1 := by decide +kernel
theorem freeOf_cls3 (r : List Nat) : freeOf (r.map cls3) = freeOf r := by
  unfold freeOf
  rw [List.map_map]
  refine List.map_congr_left fun x _ => ?_
  simp [cls3_45]
/-- neither the ways nor the free places hang on the order -/
theorem laid_perm {cs ds : List Nat} (hp : ds.Perm cs) (h4 : cs.length ≤ 4) (hc : ∀ c ∈ cs, c ≠ 45) : (laid ds).2 = (laid cs).2 ∧ freeOf (laid ds).1 = freeOf (laid cs).1 := by
  have key : ∀ es : List Nat, es.length ≤ 4 → (∀ c ∈ es, c ≠ 45) → (laid es).2 = (laid (canon3 (es.map cls3))).2 ∧ freeOf (laid es).1 = freeOf (laid (canon3 (es.map cls3))).1 := by
    intro es hl hn
    have hm := lists3_mem (es.map cls3) (fun x hx => by
      obtain ⟨c, hc, rfl⟩ := List.mem_map.mp hx
      unfold cls3; rw [if_neg (hn c hc)]; omega)
    rw [List.length_map] at hm
    have := check_perm es.length (by generalize es.length = n at hl; simp only [List.mem_cons, List.not_mem_nil, or_false]; omega) _ hm
    rw [laid_map cls3_45 cls3_mod, freeOf_cls3] at this
    exact this
  have h1 := key cs h4 hc
  have h2 := key ds (by rw [hp.length_eq]; exact h4) (fun c h => hc c (hp.mem_iff.mp h))
  have e : canon3 (ds.map cls3) = canon3 (cs.map cls3) := by
    unfold canon3
    rw [(hp.map cls3).count_eq, (hp.map cls3).count_eq, (hp.map cls3).count_eq]
  rw [e] at h2
  exact ⟨h2.1.trans h1.1.symm, h2.2.trans h1.2.symm⟩

theorem mem_set_or {r : List Nat} {k c x : Nat} (h : x ∈ r.set k c) : x = c ∨ x ∈ r := by
  rcases List.mem_or_eq_of_mem_set h with h | h
  · exact .inr h
  · exact .inl h
theorem lay_mem : ∀ (cs : List Nat) (st : List Nat × Int) (x : Nat), x ∈ (cs.foldl layStep st).1 → x ∈ st.1 ∨ x ∈ cs
  | [], _, _, h => .inl h
  | c :: cs, st, x, h => by
    rcases lay_mem cs (layStep st c) x h with h | h
    · rcases mem_set_or h with h | h
      · exact .inr (h ▸ .head _)
      · exact .inl h
    · exact .inr (.tail _ h)
theorem laid_mem {cs : List Nat} {x : Nat} (h : x ∈ (laid cs).1) : x = 45 ∨ x ∈ cs := by
  rcases lay_mem cs _ x h with h | h
  · simp only [List.mem_cons, List.not_mem_nil, or_false] at h; exact .inl (by omega)
  · exact .inr h
theorem putAt_set {r : List Nat} {i b : Nat} (h : i < r.length) : putAt r i b = r.set i b := by
  unfold putAt
  rw [List.set_eq_take_append_cons_drop, if_pos h]; simp
theorem getD_mem {r : List Nat} {k : Nat} : r.getD k 0 = 0 ∨ r.getD k 0 ∈ r := by
  rw [List.getD_eq_getElem?_getD]
  cases e : r[k]? with
  | none => exact .inl rfl
  | some x => exact .inr (List.mem_of_getElem? e)
theorem spot_new {r : List Nat} {c : Nat} (hc : c ∉ r) (h0 : c ≠ 0) : ∀ n k wy, spotFrom r c n k = (probe r n k wy).1
  | 0, _, _ => rfl
  | n + 1, k, wy => by
    unfold spotFrom probe
    have hne : r.getD k.toNat 0 ≠ c := fun e => by
      rcases getD_mem (r := r) (k := k.toNat) with h | h
      · exact h0 (e ▸ h)
      · exact hc (e ▸ h)
    by_cases h : r.getD k.toNat 0 = 45
    · rw [if_pos (.inr h), if_pos h]
    · rw [if_neg (fun e => e.elim hne h), if_neg h]; exact spot_new hc h0 n _ _
/-- a new sign: the ring is laid with it last -/
theorem ins_new {cs : List Nat} {c : Nat} (hc : c ∉ cs) (h45 : c ≠ 45) (h0 : c ≠ 0) : putAt (laid cs).1 (spotFrom (laid cs).1 c 5 (Int.fmod c 3)).toNat c = (laid (cs ++ [c])).1 := by
  have hs := spot_in (laid cs).1 c
  have hl := laid_len cs
  have hn : c ∉ (laid cs).1 := fun h => by
    rcases laid_mem h with h | h
    · exact h45 h
    · exact hc h
  rw [putAt_set (by rw [hl]; omega), spot_new hn h0 5 _ (laid cs).2, laid_snoc]; rfl
def canI : Nat → List Nat → List Nat
  | _, [] => []
  | i, c :: cs => (66 + 3 * i + c % 3) :: canI (i + 1) cs
def fI : Nat → List Nat → Nat → Nat
  | _, [], x => x
  | i, c :: cs, x => if x = 66 + 3 * i + c % 3 then c else fI (i + 1) cs x
def canL : Nat → Nat → List (List Nat)
  | _, 0 => [[]]
  | i, n + 1 => (canL (i + 1) n).flatMap fun l => [(66 + 3 * i) :: l, (66 + 3 * i + 1) :: l, (66 + 3 * i + 2) :: l]
theorem canL_mem : ∀ (cs : List Nat) (i : Nat), canI i cs ∈ canL i cs.length
  | [], _ => List.mem_singleton.mpr rfl
  | c :: cs, i => by
    refine List.mem_flatMap.mpr ⟨_, canL_mem cs (i + 1), ?_⟩
    have : c % 3 = 0 ∨ c % 3 = 1 ∨ c % 3 = 2 := by omega
    rcases this with e | e | e <;> simp [canI, e]
theorem canI_low : ∀ (cs : List Nat) (i x : Nat), x ∈ canI i cs → 66 + 3 * i ≤ x
  | c :: cs, i, x, h => by
    rcases List.mem_cons.mp h with e | h
    · omega
    · have := canI_low cs (i + 1) x h; omega
theorem fI_mod : ∀ (cs : List Nat) (i x : Nat), fI i cs x % 3 = x % 3
  | [], _, _ => rfl
  | c :: cs, i, x => by unfold fI; split; (· omega); (· exact fI_mod cs _ x)
theorem fI_zero : ∀ (cs : List Nat) (i : Nat), fI i cs 0 = 0
  | [], _ => rfl
  | c :: cs, i => by unfold fI; rw [if_neg (by omega)]; exact fI_zero cs _
theorem fI_45 : ∀ (cs : List Nat) (i x : Nat), (∀ c ∈ cs, c ≠ 45) → (fI i cs x = 45 ↔ x = 45)
  | [], _, _, _ => Iff.rfl
  | c :: cs, i, x, h => by
    unfold fI
    split
    · have := h c (.head _); omega
    · exact fI_45 cs _ x fun d hd => h d (.tail _ hd)
theorem canI_map : ∀ (cs : List Nat) (i : Nat), (canI i cs).map (fI i cs) = cs
  | [], _ => rfl
  | c :: cs, i => by
    unfold canI
    rw [List.map_cons]
    congr 1
    · unfold fI; rw [if_pos rfl]
    · have ih := canI_map cs (i + 1)
      refine Eq.trans (List.map_congr_left fun x hx => ?_) ih
      have := canI_low cs (i + 1) x hx
      show (if x = 66 + 3 * i + c % 3 then c else fI (i + 1) cs x) = _
      rw [if_neg (by omega)]
theorem inj_of_nodup {f : Nat → Nat} : ∀ {l : List Nat}, (l.map f).Nodup → ∀ x ∈ l, ∀ y ∈ l, f x = f y → x = y
  | a :: l, h, x, hx, y, hy, e => by
    rw [List.map_cons, List.nodup_cons] at h
    rcases List.mem_cons.mp hx with e1 | h1 <;> rcases List.mem_cons.mp hy with e2 | h2
    · rw [e1, e2]
    · exact absurd (List.mem_map.mpr ⟨y, h2, by rw [← e, e1]⟩) h.1
    · exact absurd (List.mem_map.mpr ⟨x, h1, by rw [e, e2]⟩) h.1
    · exact inj_of_nodup h.2 x h1 y h2 e
section
variable {f : Nat → Nat}
theorem getD_map (h0 : f 0 = 0) (r : List Nat) (k : Nat) : (r.map f).getD k 0 = f (r.getD k 0) := by
  rw [List.getD_eq_getElem?_getD, List.getD_eq_getElem?_getD, List.getElem?_map]
  cases r[k]? <;> simp [h0]
theorem fmod_map (hm : ∀ x, f x % 3 = x % 3) (c : Nat) : Int.fmod ((f c : Nat) : Int) 3 = Int.fmod (c : Int) 3 := by
  rw [Int.fmod_eq_emod_of_nonneg _ (by decide), Int.fmod_eq_emod_of_nonneg _ (by decide)]
  have := hm c
  omega
theorem spot_map (hf : ∀ x, f x = 45 ↔ x = 45) (h0 : f 0 = 0) {r : List Nat} {c : Nat} (hc0 : f c ≠ 0) (hi : ∀ x ∈ r, f x = f c → x = c) : ∀ n k, spotFrom (r.map f) (f c) n k = spotFrom r c n k
  | 0, _ => rfl
  | n + 1, k => by
    unfold spotFrom
    rw [spot_map hf h0 hc0 hi n, getD_map h0]
    have e1 : f (r.getD k.toNat 0) = f c ↔ r.getD k.toNat 0 = c := ⟨fun e => by
      rcases getD_mem (r := r) (k := k.toNat) with h | h
      · rw [h, h0] at e; exact absurd e.symm hc0
      · exact hi _ h e, fun e => by rw [e]⟩
    have e2 : f (r.getD k.toNat 0) = 45 ↔ r.getD k.toNat 0 = 45 := hf _
    simp only [e1, e2]
theorem put_map (r : List Nat) (i b : Nat) : (putAt r i b).map f = putAt (r.map f) i (f b) := by
  unfold putAt; simp [List.map_take, List.map_drop]
theorem take_map (hf : ∀ x, f x = 45 ↔ x = 45) (h0 : f 0 = 0) (hm : ∀ x, f x % 3 = x % 3) : ∀ n hole k (r : List Nat), takeFrom n hole k (r.map f) = (takeFrom n hole k r).map f
  | 0, _, _, _ => rfl
  | n + 1, hole, k, r => by
    have h45 : f 45 = 45 := (hf 45).mpr rfl
    unfold takeFrom
    simp only [getD_map h0, hf, fmod_map hm]
    split
    · rfl
    · split
      · rw [← take_map hf h0 hm n, put_map, put_map, h45]
      · exact take_map hf h0 hm n _ _ r
end
theorem check_old : ∀ n ∈ [0, 1, 2, 3, 4], ∀ l ∈ canL 0 n, ∀ c ∈ l, (laid l).1.getD (spotFrom (laid l).1 c 5 (Int.fmod c 3)).toNat 0 = c := by decide +kernel
theorem check_take : ∀ n ∈ [0, 1, 2, 3, 4], ∀ l ∈ canL 0 n, ∀ c ∈ l,
    takeFrom 4 (spotFrom (laid l).1 c 5 (Int.fmod c 3)) (spotFrom (laid l).1 c 5 (Int.fmod c 3)) (putAt (laid l).1 (spotFrom (laid l).1 c 5 (Int.fmod c 3)).toNat 45) = (laid (l.filter (fun x => decide (x ≠ c)))).1 := by decide +kernel
/-- what is known of the held signs -/
structure HeldOk (cs : List Nat) : Prop where
  len : cs.length ≤ 4
  nd : cs.Nodup
  lo : ∀ c ∈ cs, 65 ≤ c ∧ c ≤ 74
theorem HeldOk.ne45 {cs : List Nat} (H : HeldOk cs) : ∀ c ∈ cs, c ≠ 45 := fun c h => by have := H.lo c h; omega
theorem held_through {cs : List Nat} (H : HeldOk cs) {c : Nat} (hc : c ∈ cs) : ∃ (l : List Nat) (f : Nat → Nat) (d : Nat), (∀ x, f x = 45 ↔ x = 45) ∧ f 0 = 0 ∧ (∀ x, f x % 3 = x % 3) ∧ l.map f = cs ∧ d ∈ l ∧ f d = c ∧
    (∀ x ∈ l, f x = f d → x = d) ∧ (∀ x ∈ (laid l).1, f x = f d → x = d) ∧ l ∈ canL 0 cs.length := by
  have hmap := canI_map cs 0
  have h45 := fun x => fI_45 cs 0 x H.ne45
  obtain ⟨d, hd, e⟩ := List.mem_map.mp (show c ∈ (canI 0 cs).map (fI 0 cs) by rw [hmap]; exact hc)
  have hinj : ∀ x ∈ canI 0 cs, fI 0 cs x = fI 0 cs d → x = d := fun x hx e => inj_of_nodup (hmap.symm ▸ H.nd) x hx d hd e
  refine ⟨canI 0 cs, fI 0 cs, d, h45, fI_zero cs 0, fI_mod cs 0, hmap, hd, e, hinj, fun x hx e' => ?_, canL_mem cs 0⟩
  rcases laid_mem hx with rfl | h
  · rw [(h45 45).mpr rfl, e] at e'
    exact absurd e'.symm (H.ne45 c hc)
  · exact hinj x h e'
theorem len_in {n : Nat} (h : n ≤ 4) : n ∈ [0, 1, 2, 3, 4] := by
  simp only [List.mem_cons, List.not_mem_nil, or_false]; omega
/-- a sign that lies there is found, and the ring stays -/
theorem ins_old {cs : List Nat} (H : HeldOk cs) {c : Nat} (hc : c ∈ cs) : putAt (laid cs).1 (spotFrom (laid cs).1 c 5 (Int.fmod c 3)).toNat c = (laid cs).1 := by
  obtain ⟨l, f, d, h45, h0, hm, rfl, hd, rfl, hi, hi2, hl⟩ := held_through H hc
  have hc0 : f d ≠ 0 := by have := H.lo _ hc; omega
  rw [laid_map h45 hm, fmod_map hm, spot_map h45 h0 hc0 hi2, ← put_map]
  congr 1
  have hs := spot_in (laid l).1 d
  rw [putAt_set (by rw [laid_len]; omega)]
  have := check_old _ (len_in H.len) l hl d hd
  conv => lhs; arg 3; rw [← this]
  refine List.ext_getElem? fun i => ?_
  rw [List.getElem?_set]
  split
  · next e => subst e; rw [if_pos (by rw [laid_len]; omega), List.getD_eq_getElem?_getD, List.getElem?_eq_getElem (by rw [laid_len]; omega)]; rfl
  · rfl
/-- algorithm R leaves the ring that is laid without the sign -/
theorem take_laid {cs : List Nat} (H : HeldOk cs) {c : Nat} (hc : c ∈ cs) :
    takeFrom 4 (spotFrom (laid cs).1 c 5 (Int.fmod c 3)) (spotFrom (laid cs).1 c 5 (Int.fmod c 3)) (putAt (laid cs).1 (spotFrom (laid cs).1 c 5 (Int.fmod c 3)).toNat 45) = (laid (cs.filter (fun x => decide (x ≠ c)))).1 := by
  obtain ⟨l, f, d, h45, h0, hm, rfl, hd, rfl, hi, hi2, hl⟩ := held_through H hc
  have hc0 : f d ≠ 0 := by have := H.lo _ hc; omega
  have hf45 : f 45 = 45 := (h45 45).mpr rfl
  have := check_take _ (len_in H.len) l hl d hd
  rw [laid_map h45 hm, fmod_map hm, spot_map h45 h0 hc0 hi2]
  simp only
  conv => lhs; arg 4; arg 3; rw [← hf45]
  rw [← put_map, take_map h45 h0 hm, this]
  have e : (l.map f).filter (fun x => decide (x ≠ f d)) = (l.filter (fun x => decide (x ≠ d))).map f := by
    rw [List.filter_map]
    congr 1
    refine List.filter_congr fun x hx => ?_
    show decide (f x ≠ f d) = decide (x ≠ d)
    by_cases h : x = d
    · subst h; simp
    · rw [decide_eq_true (p := x ≠ d) h]; exact decide_eq_true fun e => h (hi x hx e)
  rw [e, laid_map h45 hm]
theorem HeldOk.nil : HeldOk [] := ⟨by simp, .nil, fun _ h => nomatch h⟩
theorem HeldOk.snoc {cs : List Nat} (H : HeldOk cs) {c : Nat} (hc : c ∉ cs) (h4 : cs.length < 4) (lo : 65 ≤ c ∧ c ≤ 74) : HeldOk (cs ++ [c]) :=
  ⟨by simp; omega, List.nodup_append.mpr ⟨H.nd, by simp, fun a ha b hb e => by rw [List.mem_singleton.mp hb] at e; exact hc (e ▸ ha)⟩, fun d hd => by
    rcases List.mem_append.mp hd with h | h
    · exact H.lo d h
    · rw [List.mem_singleton.mp h]; exact lo⟩
theorem HeldOk.filter {cs : List Nat} (H : HeldOk cs) (p : Nat → Bool) : HeldOk (cs.filter p) :=
  ⟨Nat.le_trans (List.length_filter_le ..) H.len, H.nd.filter _, fun d hd => H.lo d (List.mem_filter.mp hd).1⟩

theorem putAt_rep (i : Nat) : putAt (List.replicate i 45) (0 + (i : Int)).toNat 45 = List.replicate (i + 1) 45 := by
  have e : (0 + (i : Int)).toNat = i := by omega
  rw [e]
  unfold putAt
  rw [List.take_of_length_le (by simp), List.drop_of_length_le (by simp), List.append_nil]
  exact List.replicate_succ'.symm
theorem rep_len (i : Nat) : (txt (List.replicate i 45)).length = i := by rw [txt_len, List.length_replicate]

theorem RW.start {w : World} {es : List DictEntry} {n : Nat} {wx wd fd od ld md tp : Addr} {ofd ood old omd : Obj} {ta tb tc : Tok} {p1 p2 p3 p4 : Addr × Obj} {h₀ h : Heap} {L : Addr} {kv : List (Str × Value)}
    (_N : News h₀ L h (p1 :: p2 :: p3 :: p4 :: W7 es n wx wd fd od ld md tp ofd ood old omd ta tb tc))
    (gF : getL (Str.ofString "files") es = some (some (.ref fd))) (gO : getL (Str.ofString "open") es = some (some (.ref od))) (gL : getL (Str.ofString "fields") es = some (some (.ref ld)))
    (h1 : @LT.lt Nat _ wd wx) (h2 : @LT.lt Nat _ wx fd) (h3 : @LT.lt Nat _ fd od) (h4 : @LT.lt Nat _ od ld) (h5 : @LT.lt Nat _ ld md) (h6 : @LT.lt Nat _ md tp)
    (l1 : (fd == sysModules) = false) (l2 : (od == sysModules) = false) (l3 : (ld == sysModules) = false) (l4 : (md == sysModules) = false)
    (HF : FileOk w ofd ⟨#[]⟩) (HO : OpenOk w ood md) (HL : FieldsOk w old tp) (hM : omd.IsDictOf (PySem.strKind PR w) kv)
    (fM : FlatPairs PyData.str kv [(.str (Str.ofString "mode"), .str (Str.ofString "R")), (.str (Str.ofString "name"), .str (Str.ofString "RING")), (.str (Str.ofString "at"), .int 0), (.str (Str.ofString "size"), .int 1), (.str (Str.ofString "buffer"), .str ⟨#[0]⟩), (.str (Str.ofString "record"), .int 0)]) :
    RW w es wx wd fd od ld md tp ofd ood old omd [] 0 0 :=
  ⟨gF, gO, gL, h1, h2, h3, h4, h5, h6, l1, l2, l3, l4, HF, HO, HL, ⟨kv, hM, fM⟩, by decide⟩

/-- the addresses of the ledger between the turns -/
structure Sep (hl cl bl sl wx wd fd od ld md tp : Nat) : Prop where
  c1 : cl < sl
  c2 : sl < bl
  c3 : bl < wd
  h1 : wd < wx
  h2 : wx < fd
  h3 : fd < od
  h4 : od < ld
  h5 : ld < md
  h6 : md < tp
  h7 : ∀ b ∈ [cl, bl, sl, md, fd, od, ld, tp, wx, wd], hl ≠ b
theorem Sep.start {hl cl bl sl wx wd fd od ld md tp : Nat} (c1 : cl < sl) (c2 : sl < bl) (c3 : bl < wd) (h1 : wd < wx) (h2 : wx < fd) (h3 : fd < od) (h4 : od < ld) (h5 : ld < md) (h6 : md < tp) (h7 : ld < hl) (h8 : hl ≠ md) (h9 : hl ≠ tp) : Sep hl cl bl sl wx wd fd od ld md tp :=
  ⟨c1, c2, c3, h1, h2, h3, h4, h5, h6, by
    simp only [List.mem_cons, List.not_mem_nil, or_false]
    rintro b (rfl | rfl | rfl | rfl | rfl | rfl | rfl | rfl | rfl | rfl) <;> omega⟩
theorem Sep.nd {hl cl bl sl wx wd fd od ld md tp : Nat} (S : Sep hl cl bl sl wx wd fd od ld md tp) : [hl, cl, bl, sl, md, fd, od, ld, tp, wx, wd].Nodup := by
  obtain ⟨c1, c2, c3, h1, h2, h3, h4, h5, h6, h7⟩ := S
  refine List.nodup_cons.mpr ⟨fun hm => h7 _ hm rfl, ?_⟩
  clear h7
  simp only [List.nodup_cons, List.mem_cons, not_or, List.not_mem_nil, not_false_eq_true, and_true, List.nodup_nil]
  omega
theorem Sep.next {hl hl' cl bl sl wx wd fd od ld md tp : Nat} (S : Sep hl cl bl sl wx wd fd od ld md tp) (h : ∀ b ∈ [cl, bl, sl, md, fd, od, ld, tp, wx, wd], hl' ≠ b) : Sep hl' cl bl sl wx wd fd od ld md tp := { S with h7 := h }
theorem Sep.hi {hl hl' cl bl sl wx wd fd od ld md tp : Nat} (S : Sep hl cl bl sl wx wd fd od ld md tp) (h : tp < hl') : ∀ b ∈ [cl, bl, sl, md, fd, od, ld, tp, wx, wd], hl' ≠ b := by
  obtain ⟨c1, c2, c3, h1, h2, h3, h4, h5, h6, h7⟩ := S
  clear h7
  simp only [List.mem_cons, List.not_mem_nil, or_false]
  rintro b (rfl | rfl | rfl | rfl | rfl | rfl | rfl | rfl | rfl | rfl) <;> omega
theorem off_of {as bs : List (Addr × Obj)} (h : ∀ a ∈ as.map (·.1), ∀ b ∈ bs.map (·.1), b ≠ a) : ∀ p ∈ as, ∀ q ∈ bs, q.1 ≠ p.1 := fun p hp q hq => h _ (List.mem_map_of_mem hp) _ (List.mem_map_of_mem hq)
theorem all_of {as : List (Addr × Obj)} {I : Addr} (h : ∀ a ∈ as.map (·.1), a ≠ I) : ∀ p ∈ as, p.1 ≠ I := fun p hp => h _ (List.mem_map_of_mem hp)
section
variable {hl cl bl sl wx wd fd od ld md tp : Nat} {as : List Nat}
theorem off_app {as bs cs : List Nat} (h1 : ∀ a ∈ as, ∀ b ∈ cs, b ≠ a) (h2 : ∀ a ∈ bs, ∀ b ∈ cs, b ≠ a) : ∀ a ∈ as ++ bs, ∀ b ∈ cs, b ≠ a := fun a ha => (List.mem_append.mp ha).elim (h1 a) (h2 a)
/-- fresh addresses ahead -/
theorem off_hi {as bs : List Nat} {t : Nat} (h1 : ∀ a ∈ as, t < a) (h2 : ∀ b ∈ bs, b ≤ t) : ∀ a ∈ as, ∀ b ∈ bs, b ≠ a := fun a ha b hb e => by have := h1 a ha; have := h2 b hb; omega
theorem Sep.keep (S : Sep hl cl bl sl wx wd fd od ld md tp) : ∀ a ∈ [hl, cl, bl, sl], ∀ b ∈ [md, fd, od, ld, tp, wx, wd], b ≠ a := by
  have := (List.nodup_append (l₁ := [hl, cl, bl, sl])).mp S.nd
  exact fun a ha b hb e => this.2.2 a ha b hb e.symm
theorem Sep.later (S : Sep hl cl bl sl wx wd fd od ld md tp) : ∀ a ∈ [hl, cl, md, fd, od, ld, tp, wx, wd], ∀ b ∈ [bl, sl], b ≠ a := by
  obtain ⟨c1, c2, c3, h1, h2, h3, h4, h5, h6, h7⟩ := S
  have g1 := h7 bl (by simp)
  have g2 := h7 sl (by simp)
  clear h7
  simp only [List.mem_cons, List.not_mem_nil, or_false]
  rintro a (rfl | rfl | rfl | rfl | rfl | rfl | rfl | rfl | rfl) b (rfl | rfl) <;> omega
theorem Sep.laid (S : Sep hl cl bl sl wx wd fd od ld md tp) : ∀ a ∈ [cl, bl, sl, md, fd, od, ld, tp, wx, wd], ∀ b ∈ [hl], b ≠ a := by
  have := (List.nodup_cons.mp S.nd).1
  intro a ha b hb e
  rw [List.mem_singleton.mp hb] at e
  exact this (e ▸ ha)
end
theorem addr_of {as : List (Addr × Obj)} {I : Addr} (h : ∀ p ∈ as, p.1 ≠ I) : ∀ a ∈ as.map (·.1), a ≠ I := fun a ha => by
  obtain ⟨p, hp, e⟩ := List.mem_map.mp ha
  exact e ▸ h p hp
abbrev Led (es : List DictEntry) (n : Nat) (wx wd fd od ld md tp : Addr) (ofd ood old omd : Obj) (ta tb tc : Tok) (bl cl sl hl : Addr) (us : List Value) (nu : Nat) (vs : List Value) (nv : Nat) (co : Obj) (j : Nat) (t : Tok) (nb : Nat) : List (Addr × Obj) :=
  (hl, listOf vs.toArray nv) :: (cl, co) :: (bl, listOf #[.ref sl, .int (j : Nat) t] nb) :: (sl, listOf us.toArray nu) :: W7 es n wx wd fd od ld md tp ofd ood old omd ta tb tc
/-- what holds between the turns; P of the held signs, the ring and the bag's place -/
def AllJ (w : World) (K : Nat) (P : List Nat → List Nat → Nat → Prop) (m : Str → Option Value) (news : List (Addr × Obj)) : Prop :=
  ∃ es n wx wd fd od ld md tp ofd ood old omd ta tb tc bl cl sl hl us ns nu vs nv cs co cv j t nb r b rec, m (Str.ofString "bag") = some (.ref bl) ∧ m (Str.ofString "world") = some (.ref wx) ∧ m (Str.ofString "held") = some (.ref hl) ∧ cl = K ∧
    IntsAre us ns ∧ ns.length ≤ 15 ∧ StrsAre vs (signsOf cs) ∧ Sep hl cl bl sl wx wd fd od ld md tp ∧ co.data = .cell cv ∧ RW w es wx wd fd od ld md tp ofd ood old omd r b rec ∧ P cs r j ∧
    news = Led es n wx wd fd od ld md tp ofd ood old omd ta tb tc bl cl sl hl us nu vs nv co j t nb
theorem AllJ.mk {w : World} {K : Nat} {P : List Nat → List Nat → Nat → Prop} {es : List DictEntry} {n : Nat} {wx wd fd od ld md tp : Addr} {ofd ood old omd : Obj} {ta tb tc : Tok} {bl cl sl hl : Addr} {us : List Value} {ns : List Int} {nu : Nat} {vs : List Value} {nv : Nat} {cs : List Nat} {co : Obj} {cv : Option Value} {j : Nat} {t : Tok} {nb : Nat} {r : List Nat} {b : Nat} {rec : Int} {m : Str → Option Value}
    (H : RW w es wx wd fd od ld md tp ofd ood old omd r b rec) (S : Sep hl cl bl sl wx wd fd od ld md tp) (e1 : m (Str.ofString "bag") = some (.ref bl)) (e2 : m (Str.ofString "world") = some (.ref wx)) (e3 : m (Str.ofString "held") = some (.ref hl))
    (hI : IntsAre us ns) (h15 : ns.length ≤ 15) (hv : StrsAre vs (signsOf cs)) (hc : co.data = .cell cv) (hP : P cs r j) (hK : cl = K) : AllJ w K P m (Led es n wx wd fd od ld md tp ofd ood old omd ta tb tc bl cl sl hl us nu vs nv co j t nb) :=
  ⟨es, n, wx, wd, fd, od, ld, md, tp, ofd, ood, old, omd, ta, tb, tc, bl, cl, sl, hl, us, ns, nu, vs, nv, cs, co, cv, j, t, nb, r, b, rec, e1, e2, e3, hK, hI, h15, hv, S, hc, H, hP, rfl⟩
/-- the first loop's J at its start -/
theorem AllJ.start {w : World} {es : List DictEntry} {n : Nat} {wx wd fd od ld md tp : Addr} {ofd ood old omd : Obj} {ta tb tc : Tok} {bl cl sl hl : Addr} {us : List Value} {ns : List Int} {nu nv : Nat} {co : Obj} {cv : Option Value} {t : Tok} {nb b : Nat} {rec : Int} {m : Str → Option Value} {h₀ h : Heap} {L : Addr}
    (H : RW w es wx wd fd od ld md tp ofd ood old omd [] b rec) (_F : Fr h₀ L h m) (N : News h₀ L h ((bl, listOf #[.ref sl, .int 0 t] nb) :: (sl, listOf us.toArray nu) :: (cl, co) :: (hl, listOf #[] nv) :: W7 es n wx wd fd od ld md tp ofd ood old omd ta tb tc))
    (e1 : m (Str.ofString "bag") = some (.ref bl)) (e2 : m (Str.ofString "world") = some (.ref wx)) (e3 : m (Str.ofString "held") = some (.ref hl))
    (hI : IntsAre us (ns.take 15)) (hc : co.data = .cell cv) (S : Sep hl cl bl sl wx wd fd od ld md tp) :
    ∃ news, News h₀ L h news ∧ AllJ w cl (fun cs r j => cs = [] ∧ r = List.replicate 0 45 ∧ j = 0) m news :=
  ⟨_, fun p hp => N p (by
    rcases List.mem_cons.mp hp with e | hp
    · subst e; simp
    rcases List.mem_cons.mp hp with e | hp
    · subst e; simp
    rcases List.mem_cons.mp hp with e | hp
    · subst e; simp
    rcases List.mem_cons.mp hp with e | hp
    · subst e; simp
    exact .tail _ (.tail _ (.tail _ (.tail _ hp)))), AllJ.mk (vs := []) (cs := []) (j := 0) (t := t) (nb := nb) (nu := nu) (nv := nv) (n := n) (ta := ta) (tb := tb) (tc := tc) H S e1 e2 e3 hI (by rw [List.length_take]; omega) .nil hc ⟨rfl, rfl, rfl⟩ rfl⟩
theorem range_small {x : Int} (h0 : 0 ≤ x) (h1 : x < 3) : Builtin.Range.small 0 (5 + x) 1 = true := by
  have : x = 0 ∨ x = 1 ∨ x = 2 := by omega
  rcases this with rfl | rfl | rfl <;> decide
theorem news_sub {h₀ h : Heap} {L : Addr} {l all : List (Addr × Obj)} (N : News h₀ L h all) (sub : ∀ p ∈ l, p ∈ all) : News h₀ L h l := fun p hp => N p (sub p hp)
theorem item_abc (x : Int) : Txt.item (Str.ofString "ABCDEFGHIJ") (Int.fmod x 10) = txt [65 + (Int.fmod x 10).toNat] := by
  have h0 : 0 ≤ Int.fmod x 10 := Int.fmod_nonneg_of_pos _ (by decide)
  have h1 : Int.fmod x 10 < 10 := Int.fmod_lt_of_pos _ (by decide)
  generalize Int.fmod x 10 = k at h0 h1
  have : k = 0 ∨ k = 1 ∨ k = 2 ∨ k = 3 ∨ k = 4 ∨ k = 5 ∨ k = 6 ∨ k = 7 ∨ k = 8 ∨ k = 9 := by omega
  rcases this with rfl | rfl | rfl | rfl | rfl | rfl | rfl | rfl | rfl | rfl <;> decide
theorem abc_bounds (x : Int) : 65 ≤ 65 + (Int.fmod x 10).toNat ∧ 65 + (Int.fmod x 10).toNat ≤ 74 := by
  have h0 : 0 ≤ Int.fmod x 10 := Int.fmod_nonneg_of_pos _ (by decide)
  have h1 : Int.fmod x 10 < 10 := Int.fmod_lt_of_pos _ (by decide)
  omega
section
variable {prog : Program} {w : World} {A : Around} {E : Value → Shared → Prop} {s : Shared} {env : Env} {h₀ : Heap} {L : Addr}
/-- a statement's end that goes on -/
def NextJ (h₀ : Heap) (L : Addr) (J : (Str → Option Value) → List (Addr × Obj) → Prop) (s₁ : Shared) (f : Flow) (s₂ : Shared) : Prop := f = .next ∧ ∃ h' tk m' news', s₂ = { s₁ with heap := h', toks := tk } ∧ Fr h₀ L h' m' ∧ News h₀ L h' news' ∧ J m' news'
theorem NextJ.mk {J : (Str → Option Value) → List (Addr × Obj) → Prop} {h' : Heap} {tk : Nat} {m' : Str → Option Value} {news' all : List (Addr × Obj)} (F : Fr h₀ L h' m') (N : News h₀ L h' all) (hJ : J m' news') (sub : ∀ p ∈ news', p ∈ all) : NextJ h₀ L J s .next { s with heap := h', toks := tk } :=
  ⟨rfl, h', tk, m', news', rfl, F, news_sub N sub, hJ⟩
/-- a statement that brings J, then the rest -/
theorem execs_cut {st : Stmt} {rest : List Stmt} {m : Str → Option Value} {Q : Flow → Shared → Prop} (_F : Fr h₀ L s.heap m) (J : (Str → Option Value) → List (Addr × Obj) → Prop)
    (h1 : wpAny (model prog w) A (exec st env) (NextJ h₀ L J s) E s)
    (h2 : ∀ h' tk m' news', Fr h₀ L h' m' → News h₀ L h' news' → J m' news' → wpAny (model prog w) A (execs rest env) Q E { s with heap := h', toks := tk }) :
    wpAny (model prog w) A (execs (st :: rest) env) Q E s := by
  refine wpAny_execs_cons (wpAny_mono h1 (fun f s₂ hf => ?_) fun _ _ e => e)
  obtain ⟨rfl, h', tk, m', news', rfl, F, N, hJ⟩ := hf
  exact h2 h' tk m' news' F N hJ
/-- a test's end -/
def TestJ (h₀ : Heap) (L : Addr) (m : Str → Option Value) (news : List (Addr × Obj)) (P : Bool → Prop) (s : Shared) (b : Bool) (s₂ : Shared) : Prop := ∃ h' tk, s₂ = { s with heap := h', toks := tk } ∧ Fr h₀ L h' m ∧ News h₀ L h' news ∧ P b
theorem TestJ.mk {m : Str → Option Value} {news all : List (Addr × Obj)} {P : Bool → Prop} {b : Bool} {h' : Heap} {tk : Nat} (F : Fr h₀ L h' m) (N : News h₀ L h' all) (sub : ∀ p ∈ news, p ∈ all) (h : P b) : TestJ h₀ L m news P s b { s with heap := h', toks := tk } := ⟨h', tk, rfl, F, news_sub N sub, h⟩
theorem if_join {test : PySem.Expr} {body orelse : List Stmt} {pos : Pos} {m : Str → Option Value} {Q : Flow → Shared → Prop} (_F : Fr h₀ L s.heap m) (news : List (Addr × Obj)) (P : Bool → Prop)
    (h : wpAny (model prog w) A (isTrue test env (eval test env)) (TestJ h₀ L m news P s) E s)
    (hy : ∀ h' tk, Fr h₀ L h' m → News h₀ L h' news → P true → wpAny (model prog w) A (execs body env) Q E { s with heap := h', toks := tk })
    (hn : ∀ h' tk, Fr h₀ L h' m → News h₀ L h' news → P false → wpAny (model prog w) A (execs orelse env) Q E { s with heap := h', toks := tk }) :
    wpAny (model prog w) A (exec (.If test body orelse pos) env) Q E s := by
  refine wpAny_If (wpAny_mono h (fun b s₂ hb => ?_) fun _ _ e => e)
  obtain ⟨h', tk, rfl, F, N, hP⟩ := hb
  cases b with
  | true => exact hy h' tk F N hP
  | false => exact hn h' tk F N hP
end
theorem Sep.cell {hl cl bl sl wx wd fd od ld md tp : Nat} (S : Sep hl cl bl sl wx wd fd od ld md tp) : ∀ a ∈ [hl, bl, sl, md, fd, od, ld, tp, wx, wd], a ≠ cl := by
  obtain ⟨c1, c2, c3, h1, h2, h3, h4, h5, h6, h7⟩ := S
  have g1 := h7 cl (by simp)
  clear h7
  simp only [List.mem_cons, List.not_mem_nil, or_false]
  rintro a (rfl | rfl | rfl | rfl | rfl | rfl | rfl | rfl | rfl | rfl) <;> omega
/-- the ledger behind the sign's store: iterator, cell, and the rest -/
abbrev Led2 (I : Addr) (oI : Obj) (es : List DictEntry) (n : Nat) (wx wd fd od ld md tp : Addr) (ofd ood old omd : Obj) (ta tb tc : Tok) (bl cl sl hl : Addr) (us : List Value) (nu : Nat) (vs : List Value) (nv : Nat) (co : Obj) (j : Nat) (t : Tok) (nb : Nat) : List (Addr × Obj) :=
  (I, oI) :: Led es n wx wd fd od ld md tp ofd ood old omd ta tb tc bl cl sl hl us nu vs nv co j t nb
theorem all_ne_cell {I : Addr} {oI : Obj} {es : List DictEntry} {n : Nat} {wx wd fd od ld md tp : Addr} {ofd ood old omd : Obj} {ta tb tc : Tok} {bl cl sl hl : Addr} {us : List Value} {nu : Nat} {vs : List Value} {nv : Nat} {j : Nat} {t : Tok} {nb : Nat} (S : Sep hl cl bl sl wx wd fd od ld md tp) (hI : cl ≠ I) :
    ∀ p ∈ (I, oI) :: (hl, listOf vs.toArray nv) :: (bl, listOf #[.ref sl, .int (j : Nat) t] nb) :: (sl, listOf us.toArray nu) :: W7 es n wx wd fd od ld md tp ofd ood old omd ta tb tc, p.1 ≠ cl := by
  intro p hp
  rcases List.mem_cons.mp hp with e | hp
  · subst e; exact hI.symm
  · exact S.cell _ (show p.1 ∈ [hl, bl, sl, md, fd, od, ld, tp, wx, wd] from List.mem_map_of_mem (f := fun q : Addr × Obj => q.1) hp)
section
variable {M : Model} {A : Around} {E : Value → Shared → Prop} {s : Shared} {h₀ : Heap} {L a : Addr} {m : Str → Option Value} {cn : Str} {cs : Scope} {ccd : Value} {cl : List (Str × Addr)} {x : Str} {v : Value} {Q : Unit → Shared → Prop} {news rest : List (Addr × Obj)} {c : Addr} {o : Obj} {v₀ : Option Value}
theorem store_cell (F : Fr h₀ L s.heap m) (N : News h₀ L s.heap news) (hc : cl.lookup x = some c) (hm : ∀ p ∈ (c, o) :: rest, p ∈ news) (hn : ∀ p ∈ rest, p.1 ≠ c) (hd : o.data = .cell v₀)
    (h : ∀ h' o', Fr h₀ L h' m → News h₀ L h' ((c, o') :: rest) → o'.data = .cell (some v) → Q () { s with heap := h' })
    (hk : cs.kind = .function := by rfl) (hx : (envX cn cs L a ccd cl).kindOf x = some .cell := by rfl) : wpAny M A (storeName (envX cn cs L a ccd cl) x v) Q E s :=
  storeX_C F (news_sub N hm) hc (UpdF.head hn) hd h hk hx
end
/-- beside the iterator -/
def IterJ (I : Addr) (o : Obj) (J : (Str → Option Value) → List (Addr × Obj) → Prop) (m : Str → Option Value) (news : List (Addr × Obj)) : Prop := ∃ news', news = (I, o) :: news' ∧ (∀ p ∈ news', p.1 ≠ I) ∧ J m news'
theorem TurnJ.iter {h₀ h' : Heap} {L I : Addr} {J : (Str → Option Value) → List (Addr × Obj) → Prop} {o : Obj} {s₁ : Shared} {Q : Flow → Shared → Prop} {tk : Nat} {m' : Str → Option Value} {news all : List (Addr × Obj)}
    (F : Fr h₀ L h' m') (N : News h₀ L h' all) (hJ : IterJ I o J m' news) (sub : ∀ p ∈ news, p ∈ all) : TurnJ h₀ L J I o s₁ Q .next { s₁ with heap := h', toks := tk } := by
  obtain ⟨news', rfl, off, hJ⟩ := hJ
  exact TurnJ.next F N hJ sub off
abbrev Led3 (I : Addr) (oI : Obj) (es : List DictEntry) (n : Nat) (wx wd fd od ld md tp : Addr) (ofd ood old omd : Obj) (ta tb tc : Tok) (bl cl sl hl : Addr) (us : List Value) (nu : Nat) (vs : List Value) (nv : Nat) (co : Obj) (j : Nat) (t : Tok) (nb : Nat) : List (Addr × Obj) :=
  (cl, co) :: (I, oI) :: (hl, listOf vs.toArray nv) :: (bl, listOf #[.ref sl, .int (j : Nat) t] nb) :: (sl, listOf us.toArray nu) :: W7 es n wx wd fd od ld md tp ofd ood old omd ta tb tc
theorem signs_nil {cs : List Nat} : signsOf cs = [] ↔ cs = [] := List.map_eq_nil_iff
theorem signs_any {cs : List Nat} {c : Nat} : ((signsOf cs).any fun x => x == txt [c]) = true ↔ c ∈ cs := by
  rw [List.any_eq_true]
  constructor
  · rintro ⟨x, hx, e⟩
    obtain ⟨d, hd, rfl⟩ := List.mem_map.mp hx
    rw [txt_eq1, decide_eq_true_eq] at e
    exact e ▸ hd
  · intro h
    exact ⟨_, List.mem_map_of_mem h, by rw [txt_eq1]; simp⟩
theorem signs_ok (cs : List Nat) (h : ∀ c ∈ cs, 45 ≤ c ∧ c ≤ 74) : TextsOk (signsOf cs) := by
  intro x hx
  obtain ⟨c, hc, rfl⟩ := List.mem_map.mp hx
  obtain ⟨h1, h2⟩ := h c hc
  show (#[c] : Array Nat).all (fun x => decide (x < 0x110000)) = true
  simp
  omega
theorem nil_yes {cs : List Nat} (h : decide (signsOf cs = []) = true) : cs.length < 4 := by
  rw [signs_nil.mp (of_decide_eq_true h)]; decide
theorem nil_no {cs : List Nat} (h : decide (signsOf cs = []) = false) : cs ≠ [] := fun e => of_decide_eq_false h (signs_nil.mpr e)
theorem any_no {cs : List Nat} {c : Nat} (h : ((signsOf cs).any fun x => x == txt [c]) = false) : c ∉ cs := fun e => by rw [signs_any.mpr e] at h; cases h
theorem laid_txt (cs : List Nat) : (txt (laid cs).1).length = 5 := by rw [txt_len, laid_len]
theorem Sep.keep3 {I hl cl bl sl wx wd fd od ld md tp : Nat} (S : Sep hl cl bl sl wx wd fd od ld md tp) (hI : ∀ a ∈ [hl, cl, bl, sl, md, fd, od, ld, tp, wx, wd], a ≠ I) : ∀ a ∈ [cl, I, hl, bl, sl], ∀ b ∈ [md, fd, od, ld, tp, wx, wd], b ≠ a := by
  intro a ha b hb
  have hk := S.keep
  simp only [List.mem_cons, List.not_mem_nil, or_false] at ha
  rcases ha with rfl | rfl | rfl | rfl | rfl
  · exact hk _ (by simp) b hb
  · exact hI b (List.mem_append_right [hl, cl, bl, sl] hb)
  · exact hk _ (by simp) b hb
  · exact hk _ (by simp) b hb
  · exact hk _ (by simp) b hb
section
variable {prog : Program} {w : World} {A : Around} {E : Value → Shared → Prop} {s : Shared} {h₀ : Heap} {L : Addr} {m : Str → Option Value} {news : List (Addr × Obj)}
theorem add_held {l b : Addr} {vs ws : List Value} {Q : Value → Shared → Prop} (F : Fr h₀ L s.heap m) (N : News h₀ L s.heap news) (hl : s.heap.IsList l vs.toArray) (hb : s.heap.IsList b ws.toArray) (hsz : vs.length + ws.length ≤ sizeLine)
    (h : ∀ D h', Fr h₀ L h' m → News h₀ L h' ((D, listOf (vs ++ ws).toArray 0) :: news) → (∀ p ∈ news, p.1 < D) → Q (.ref D) { s with heap := h' }) :
    wpAny (model prog w) A (binaryOp .Add (.ref l) (.ref b)) Q E s :=
  add_lists (hsz := hsz) F N hl hb fun h' F' N' => h _ h' F' N' fun p hp => Heap.lt_size (N p hp).1
end
theorem signs_snoc {vs : List Value} {cs : List Nat} (h : StrsAre vs (signsOf cs)) (c : Nat) (t : Tok) : StrsAre (vs ++ [.str (txt [c]) t]) (signsOf (cs ++ [c])) := by
  unfold signsOf
  rw [List.map_append]
  exact h.append' (.cons _ _ .nil)
theorem held_size {vs : List Value} {cs : List Nat} (h : StrsAre vs (signsOf cs)) (h4 : cs.length ≤ 4) : vs.length + 1 ≤ sizeLine := by
  have e := h.length
  rw [List.length_map] at e
  rw [e]
  exact Nat.le_trans (by omega : cs.length + 1 ≤ 5) (by decide)
theorem off_swap {I hl D : Nat} {l : List Nat} (h : ∀ a ∈ hl :: l, a ≠ I) (hD : I < D) : ∀ a ∈ D :: l, a ≠ I := fun a ha => by
  rcases List.mem_cons.mp ha with e | ha
  · omega
  · exact h a (.tail _ ha)
section
variable {prog : Program} {w : World} {A : Around} {E : Value → Shared → Prop} {s : Shared} {h₀ : Heap} {L : Addr} {m : Str → Option Value} {news : List (Addr × Obj)}
theorem add_sign {l b : Addr} {vs : List Value} {cs : List Nat} {c : Nat} {t : Tok} {Q : Value → Shared → Prop} (hv : StrsAre vs (signsOf cs)) (h4 : cs.length ≤ 4) (F : Fr h₀ L s.heap m) (N : News h₀ L s.heap news) (hl : s.heap.IsList l vs.toArray) (hb : s.heap.IsList b [Value.str (txt [c]) t].toArray)
    (h : ∀ D h' us, StrsAre us (signsOf (cs ++ [c])) → Fr h₀ L h' m → News h₀ L h' ((D, listOf us.toArray 0) :: news) → (∀ p ∈ news, p.1 < D) → Q (.ref D) { s with heap := h' }) :
    wpAny (model prog w) A (binaryOp .Add (.ref l) (.ref b)) Q E s :=
  add_held F N hl hb (held_size hv h4) fun D h' F' N' lt => h D h' _ (signs_snoc hv c t) F' N' lt
end
section
variable {cs : List Nat} (h : cs ≠ []) (x : Int)
include h
theorem pick_pos : (0 : Int) < (cs.length : Int) := by
  have := List.length_pos_iff.mpr h
  omega
theorem pick_lo : 0 ≤ Int.fmod x (cs.length : Int) := Int.fmod_nonneg_of_pos _ (pick_pos h)
theorem pick_hi : Int.fmod x (cs.length : Int) < (cs.length : Int) := Int.fmod_lt_of_pos _ (pick_pos h)
theorem pick_fit (h4 : cs.length ≤ 4) : Int.fmod x (cs.length : Int) < 2 ^ 63 := by
  have := pick_hi h x
  omega
theorem pick_in : cs.getD (Int.fmod x (cs.length : Int)).toNat 0 ∈ cs := by
  have h1 := pick_hi h x
  have h0 := pick_lo h x
  rw [List.getD_eq_getElem?_getD, List.getElem?_eq_getElem (by omega)]
  exact List.getElem_mem _
end
theorem ne_news {news : List (Addr × Obj)} {D : Addr} (hn : ∀ p ∈ news, p.1 ≠ D) (l : List (Addr × Obj)) (sub : ∀ p ∈ l, p ∈ news) : ∀ a ∈ l.map (·.1), D ≠ a := fun a ha => by
  obtain ⟨p, hp, e⟩ := List.mem_map.mp ha
  exact e ▸ (hn p (sub p hp)).symm
theorem off_swap' {I hl D : Nat} {l : List Nat} (h : ∀ a ∈ hl :: l, a ≠ I) (hD : D ≠ I) : ∀ a ∈ D :: l, a ≠ I := fun a ha => by
  rcases List.mem_cons.mp ha with e | ha
  · exact e ▸ hD
  · exact h a (.tail _ ha)

def pickNe (c : Nat) : Value → Bool
  | .str x _ => x != txt [c]
  | _ => false
theorem pickNe_sign (c d : Nat) (t : Tok) : pickNe c (.str (txt [d]) t) = decide (d ≠ c) := by
  show (txt [d] != txt [c]) = _
  unfold bne
  rw [txt_eq1]
  by_cases h : d = c <;> simp [h]
theorem filter_signs (c : Nat) : ∀ {cs : List Nat} {vs : List Value}, StrsAre vs (signsOf cs) → StrsAre (vs.filter (pickNe c)) (signsOf (cs.filter fun d => decide (d ≠ c)))
  | [], vs, h => by
    cases h
    exact .nil
  | d :: cs, vs, h => by
    cases h with
    | cons x t h =>
      have ih := filter_signs c h
      rw [List.filter_cons, List.filter_cons, pickNe_sign]
      by_cases e : d = c
      · subst e; simpa using ih
      · have e' : decide (d ≠ c) = true := decide_eq_true e
        rw [e']
        simp only [if_true]
        exact .cons _ _ ih
theorem paired_eq {l₁ l₂ : List Value} (h : Paired (fun a b => b = a) l₁ l₂) : l₂ = l₁ := by
  induction h with
  | nil => rfl
  | cons e _ ih => rw [e, ih]
theorem same_items {vs us : List Value} (hl : us.length = vs.toArray.size) (h : ∀ (j : Nat) v, us[j]? = some v → vs.toArray[j]? = some v) : us = vs := by
  refine List.ext_getElem? fun j => ?_
  cases e : us[j]? with
  | some v => have := h j v e; simpa using this.symm
  | none =>
    have := List.getElem?_eq_none_iff.mp e
    rw [List.size_toArray] at hl
    exact (List.getElem?_eq_none_iff.mpr (by omega)).symm
def isDash (v y : Value) : Prop := match v with
  | .str x _ => y = .bool (x == Str.ofString "-")
  | _ => False
theorem dash_bools : ∀ {cs : List Nat} {vs ys : List Value}, StrsAre vs (signsOf cs) → Paired isDash vs ys → CarriedAll ys ((freeOf cs).map .bool)
  | [], _, _, h, q => by
    cases h
    cases q
    exact .nil
  | d :: cs, _, _, h, q => by
    cases h with
    | cons x t h =>
      cases q with
      | cons e q =>
        have e' : _ = Value.bool (txt [d] == Str.ofString "-") := e
        rw [e', dash_iff]
        exact .cons (.bool _) (dash_bools h q)
section
variable {prog : Program} {w : World} {A : Around} {E : Value → Shared → Prop} {s : Shared} {env : Env} {h₀ : Heap} {m : Str → Option Value} {news : List (Addr × Obj)}
theorem assign_filter {x y sg : Str} {px py pe pc ps pos spos cpos : Pos} {iter : PySem.Expr} {scope : Scope} {cl : List (Str × Addr)} {l cell : Addr} {oc : Obj} {vs : List Value} {nv : Nat} {cs : List Nat} {c : Nat} {tc : Tok} {Q : Flow → Shared → Prop}
    (hh : A.handled = none) (hv : StrsAre vs (signsOf cs)) (h4 : cs.length ≤ 4) (F : Fr h₀ env.locals s.heap m) (N : News h₀ env.locals s.heap news) (hm : (l, listOf vs.toArray nv) ∈ news)
    (hcm : (cell, oc) ∈ news) (hcd : oc.data = .cell (some (.str (txt [c]) tc)))
    (hiter : ∀ Q' : Value → Shared → Prop, Q' (.ref l) s → wpAny (model prog w) A (eval iter env) Q' E s)
    (hsw : swapsWith (.ListComp (.Name x pe) [⟨.Name x px, iter, [.Compare (.Name x pc) [.NotEq] [.Name sg ps] cpos], 0⟩] scope pos) (some (.Name y py)) spos.line env = pure true)
    (hclos : closureFor scope env = pure cl) (hcell : ∀ z ∈ scope.names, z.2 ≠ .cell) (hkind : scope.kind = .function)
    (hnames : ∀ z ∈ scope.names, z.2 = .local → scope.names.lookup z.1 = some .local) (hx : scope.names.lookup x = some .local)
    (hy : env.kindOf y = some .local) (hp : (env.scope.kind == .class || (env.scope.kind == .module && env.locals != env.globals)) = false)
    (hcc : cl.lookup sg = some cell) (hk : ∀ C, (compEnvC scope cl C env).scope.kind = .function) (hxl : ∀ C, (compEnvC scope cl C env).kindOf x = some .local) (hsl : ∀ C, (compEnvC scope cl C env).kindOf sg = some .cell)
    (hdx : (x == ("__debug__" : Str)) = false) (hds : (sg == ("__debug__" : Str)) = false) (hs : ∀ x, foldedSetIterable iter env x = pure x)
    (h : ∀ D h' tk us ne, Fr h₀ env.locals h' (fun z => if z = y then some (.ref D) else m z) → News h₀ env.locals h' ((D, listOf us.toArray ne) :: news) → (∀ p ∈ news, p.1 ≠ D) → StrsAre us (signsOf (cs.filter fun d => decide (d ≠ c))) → Q .next { s with heap := h', toks := tk }) :
    wpAny (model prog w) A (exec (.Assign [.Name y py] (.ListComp (.Name x pe) [⟨.Name x px, iter, [.Compare (.Name x pc) [.NotEq] [.Name sg ps] cpos], 0⟩] scope pos) spos) env) Q E s := by
  have hls : s.heap.IsList l vs.toArray := ⟨_, (N _ hm).1, rfl, nv, rfl⟩
  have hlt : l < s.heap.objs.size := Heap.lt_size (N _ hm).1
  have hvl : vs.length = cs.length := by rw [hv.length, List.length_map]
  refine wpAny_Assign_ListComp_free (pickNe c) (fun v y => y = v) hsw hclos hcell hkind hnames hx hy hp (hiter _ (wpAny_pyIter_list hls ?_)) hs
  have old : ∀ b o, s.heap.get? b = some o → ∀ o', (s.heap.push o').get? b = some o := fun b o e o' => Heap.get?_push_of_some _ e
  have hLI : env.locals ≠ s.heap.objs.size := Nat.ne_of_lt F.ns.lt
  refine ⟨s.heap.objs.size, _, _, _, _, _, m, rfl, Walks.list hh s.heap.objs.size l (Nat.ne_of_lt hlt) vs.toArray, ?_, ⟨⟨_, Heap.get?_push_size _ rfl, rfl, rfl⟩, hls.push _⟩, ?_, ?_, (F.push _).ns, ⟨?_, ?_⟩, ?_⟩
  · rw [List.size_toArray, hvl]; exact Nat.le_trans h4 (by decide)
  · intro b hb
    show b < (s.heap.push _).objs.size
    rw [Heap.size_push]
    rcases List.mem_cons.mp hb with e | hb
    · rw [e]; exact Nat.lt_succ_self _
    · rw [List.mem_singleton.mp hb]; exact Nat.lt_succ_of_lt hlt
  · intro hm'
    exact hLI (List.mem_singleton.mp hm')
  · intro C i v s₃ m₃ E' _ hP hn hmx hkeep _
    refine wpAny_tests_one ?_
    have hPv : vs[i]? = some v := by simpa using hP
    obtain ⟨d, t, rfl, _⟩ := signs_at hv hPv
    have hcg : s₃.heap.get? cell = some oc := hkeep _ _ (fun hq => Nat.lt_irrefl _ ((List.mem_singleton.mp hq) ▸ Heap.lt_size (N _ hcm).1)) (old _ _ (N _ hcm).1 _)
    refine wpAny_isTrue_Compare1 (ldVarK hn hmx ?_ (hk C) (hxl C) hdx)
    refine wpAny_Name (wpAny_loadName_cell (hk C) (hsl C) hcc ⟨oc, hcg, hcd⟩ ?_) hds
    refine PyProof.Rows.ne_str (wpAny_truthy_bool ⟨rfl, _, _, rfl, fun _ _ e => e⟩)
  · intro C i v s₃ m₃ E' _ hP hpv hn hmx hkeep _
    exact ldVarK hn hmx ⟨rfl, _, _, rfl, fun _ _ e => e⟩ (hk C) (hxl C) hdx
  · intro D h' tk ys us hD hl hpl hlen hP hF hn hkeep
    have eus := same_items hlen fun j v e => hP j v e
    subst eus
    have eys := paired_eq hF
    obtain ⟨ne, hg⟩ := hpl
    have hkeep' : ∀ b o, b ≠ env.locals → s.heap.get? b = some o → h'.get? b = some o := fun b o hb e => hkeep b o hb (fun hq => Nat.lt_irrefl _ ((List.mem_singleton.mp hq) ▸ Heap.lt_size e)) (old b o e _)
    have hneD : ∀ b o, s.heap.get? b = some o → b ≠ D := fun b o e eb => by
      have := old b o e { cls := .type "list_iterator", data := .fields #[.ref l, .int 0 0] }
      rw [eb] at this
      have hD' : (s.heap.push { cls := .type "list_iterator", data := .fields #[.ref l, .int 0 0] }).get? D = none := hD
      rw [hD'] at this
      cases this
    have hL0 : h₀.get? env.locals = none := by
      cases e : h₀.get? env.locals with
      | none => rfl
      | some o => exact absurd (Nat.lt_of_lt_of_le (Heap.lt_size e) F.above) (Nat.lt_irrefl _)
    refine h D h' tk (us.filter (pickNe c)) ne ⟨hn, fun b o e => hkeep' b o (fun eb => by rw [eb, hL0] at e; cases e) (F.keep b o e), F.above⟩ (fun p hp => ?_) (fun p hp => hneD _ _ (N p hp).1) (filter_signs c hv)
    rcases List.mem_cons.mp hp with rfl | hp
    · refine ⟨?_, fun e => ?_, ?_⟩
      · show h'.get? D = some (listOf (us.filter (pickNe c)).toArray ne)
        rw [hg, ← eys]
      · obtain ⟨o, _, _, ho, _⟩ := F.ns
        exact hneD _ _ ho e.symm
      · show h₀.get? D = none
        cases q : h₀.get? D with
        | none => rfl
        | some o => exact absurd rfl (hneD D o (F.keep _ _ q))
    · exact ⟨hkeep' _ _ (N p hp).2.1 (N p hp).1, (N p hp).2⟩
theorem dash_comp {x : Str} {px pc pk pos cpos : Pos} {kc} {iter : PySem.Expr} {scope : Scope} {cl : List (Str × Addr)} {l : Addr} {vs : List Value} {nv : Nat} {cs : List Nat} {Q : Value → Shared → Prop}
    (hh : A.handled = none) (hv : StrsAre vs (signsOf cs)) (h5 : cs.length ≤ 5) (F : Fr h₀ env.locals s.heap m) (N : News h₀ env.locals s.heap news) (hm : (l, listOf vs.toArray nv) ∈ news)
    (hiter : ∀ Q' : Value → Shared → Prop, Q' (.ref l) s → wpAny (model prog w) A (eval iter env) Q' E s)
    (hclos : closureFor scope env = pure cl) (hcell : ∀ z ∈ scope.names, z.2 ≠ .cell) (hkind : scope.kind = .function)
    (hnames : ∀ z ∈ scope.names, z.2 = .local → scope.names.lookup z.1 = some .local) (hx : scope.names.lookup x = some .local)
    (hk : ∀ C, (compEnvC scope cl C env).scope.kind = .function) (hxl : ∀ C, (compEnvC scope cl C env).kindOf x = some .local)
    (hdx : (x == ("__debug__" : Str)) = false) (hs : ∀ x, foldedSetIterable iter env x = pure x)
    (h : ∀ D h' tk us ne, Fr h₀ env.locals h' m → News h₀ env.locals h' ((D, listOf us.toArray ne) :: news) → (∀ p ∈ news, p.1 ≠ D) → CarriedAll us ((freeOf cs).map .bool) → Q (.ref D) { s with heap := h', toks := tk }) :
    wpAny (model prog w) A (eval (.ListComp (.Compare (.Name x pc) [.Eq] [.Constant (.str (Str.ofString "-")) kc pk] cpos) [⟨.Name x px, iter, [], 0⟩] scope pos) env) Q E s := by
  have hls : s.heap.IsList l vs.toArray := ⟨_, (N _ hm).1, rfl, nv, rfl⟩
  have hlt : l < s.heap.objs.size := Heap.lt_size (N _ hm).1
  have hvl : vs.length = cs.length := by rw [hv.length, List.length_map]
  refine wpAny_ListComp_free (fun _ => true) isDash hclos hcell hkind hnames hx (hiter _ (wpAny_pyIter_list hls ?_)) hs
  have old : ∀ b o, s.heap.get? b = some o → ∀ o', (s.heap.push o').get? b = some o := fun b o e o' => Heap.get?_push_of_some _ e
  refine ⟨s.heap.objs.size, _, _, _, _, _, rfl, Walks.list hh s.heap.objs.size l (Nat.ne_of_lt hlt) vs.toArray, ?_, ⟨⟨_, Heap.get?_push_size _ rfl, rfl, rfl⟩, hls.push _⟩, ?_, ⟨?_, ?_⟩, ?_⟩
  · rw [List.size_toArray, hvl]; exact Nat.le_trans h5 (by decide)
  · intro b hb
    show b < (s.heap.push _).objs.size
    rw [Heap.size_push]
    rcases List.mem_cons.mp hb with e | hb
    · rw [e]; exact Nat.lt_succ_self _
    · rw [List.mem_singleton.mp hb]; exact Nat.lt_succ_of_lt hlt
  · intro C i v s₃ m₃ E' _ hP hn hmx hkeep _
    exact wpAny_tests_nil ⟨rfl, _, _, rfl, fun _ _ e => e⟩
  · intro C i v s₃ m₃ E' _ hP hpv hn hmx hkeep _
    have hPv : vs[i]? = some v := by simpa using hP
    obtain ⟨d, t, rfl, _⟩ := signs_at hv hPv
    refine wpAny_Compare1 (ldVarK hn hmx ?_ (hk C) (hxl C) hdx)
    refine wpAny_Constant_str ?_
    exact PyProof.Rows.eq_str ⟨rfl, _, _, rfl, fun _ _ e => e⟩
  · intro D h' tk ys us hD hl hpl hlen hP hF hkeep
    have eus := same_items hlen fun j v e => hP j v e
    subst eus
    obtain ⟨ne, hg⟩ := hpl
    have hkeep' : ∀ b o, s.heap.get? b = some o → h'.get? b = some o := fun b o e => hkeep b o (fun hq => Nat.lt_irrefl _ ((List.mem_singleton.mp hq) ▸ Heap.lt_size e)) (old b o e _)
    have hneD : ∀ b o, s.heap.get? b = some o → b ≠ D := fun b o e eb => by
      have := old b o e { cls := .type "list_iterator", data := .fields #[.ref l, .int 0 0] }
      rw [eb] at this
      have hD' : (s.heap.push { cls := .type "list_iterator", data := .fields #[.ref l, .int 0 0] }).get? D = none := hD
      rw [hD'] at this
      cases this
    refine h D h' tk ys.toList ne (F.keeps hkeep') (fun p hp => ?_) (fun p hp => hneD _ _ (N p hp).1) (dash_bools hv (by rw [List.filter_eq_self.mpr (fun _ _ => rfl)] at hF; exact hF))
    rcases List.mem_cons.mp hp with rfl | hp
    · refine ⟨?_, fun e => ?_, ?_⟩
      · show h'.get? D = some (listOf ys.toList.toArray ne)
        rw [hg]
      · obtain ⟨o, _, _, ho, _⟩ := F.ns
        exact hneD _ _ ho e.symm
      · show h₀.get? D = none
        cases q : h₀.get? D with
        | none => rfl
        | some o => exact absurd rfl (hneD D o (F.keep _ _ q))
    · exact ⟨hkeep' _ _ (N p hp).1, (N p hp).2⟩
end

theorem join_row {row : List Nat} (h : row.length = 5) : Txt.join (Str.ofString "") (signsOf row) = txt row := by
  match row, h with
  | [a, b, c, d, e], _ => rfl
theorem join_fits {row : List Nat} (h : row.length = 5) : ((signsOf row).map (·.length)).sum + (signsOf row).length * (Str.ofString "").length ≤ 16777216 := by
  match row, h with
  | [a, b, c, d, e], _ => exact (by decide : 5 ≤ 16777216)
def signOf (x : Str) : Nat := x.cps.toList.headD 0
theorem signOf_txt (c : Nat) : signOf (txt [c]) = c := rfl
theorem perm_signs {ss : List Str} {cs : List Nat} (h : ss.Perm (signsOf cs)) : ∃ ds : List Nat, ss = signsOf ds ∧ ds.Perm cs := by
  refine ⟨ss.map signOf, ?_, ?_⟩
  · unfold signsOf
    rw [List.map_map]
    conv => lhs; rw [← List.map_id ss]
    refine List.map_congr_left fun x hx => ?_
    obtain ⟨c, _, rfl⟩ := List.mem_map.mp (h.mem_iff.mp hx)
    rfl
  · have := h.map signOf
    unfold signsOf at this
    rw [List.map_map] at this
    have e : cs.map (signOf ∘ fun c => txt [c]) = cs := by
      conv => rhs; rw [← List.map_id cs]
      exact List.map_congr_left fun _ _ => rfl
    rw [e] at this
    exact this
theorem signs_reverse {vs : List Value} {cs : List Nat} (h : StrsAre vs (signsOf cs)) : StrsAre vs.reverse (signsOf cs.reverse) := by
  induction cs generalizing vs with
  | nil => cases h; exact .nil
  | cons c cs ih =>
    cases h with
    | cons x t h =>
      rw [List.reverse_cons, List.reverse_cons]
      exact signs_snoc (ih h) c t
section
variable {prog : Program} {w : World} {A : Around} {E : Value → Shared → Prop} {s : Shared} {env : Env} {h₀ : Heap} {L : Addr} {m : Str → Option Value} {news : List (Addr × Obj)}
theorem ne_self {x : Str} {t u : Tok} {Q : Value → Shared → Prop} (h : Q (.bool false) s) : wpAny (model prog w) A (compareOp .NotEq (.str x t) (.str x u)) Q E s := by
  refine PyProof.Rows.ne_str ?_
  have e : (x != x) = false := by simp
  rw [e]; exact h
theorem sorted_signs {l : Addr} {vs : List Value} {nv : Nat} {cs : List Nat} {Q : Value → Shared → Prop} (hv : StrsAre vs (signsOf cs)) (h4 : cs.length ≤ 4) (F : Fr h₀ L s.heap m) (N : News h₀ L s.heap news) (hm : (l, listOf vs.toArray nv) ∈ news)
    (h : ∀ D h' us ds ne, Fr h₀ L h' m → News h₀ L h' ((D, listOf us.toArray ne) :: news) → (∀ p ∈ news, p.1 < D) → StrsAre us (signsOf ds) → ds.Perm cs → Q (.ref D) { s with heap := h' }) :
    wpAny (model prog w) A (call (.builtin "sorted") [.ref l]) Q E s := by
  have hvl : vs.length = cs.length := by rw [hv.length, List.length_map]
  refine sorted_N_str F N (News.isList N hm) hv (by omega) fun h' us ss e F' N' hS hp _ => ?_
  obtain ⟨ds, rfl, hd⟩ := perm_signs hp
  exact h _ h' us ds e F' N' (fun p hp => Nat.lt_succ_of_lt (Heap.lt_size (N p hp).1)) hS hd
theorem iter_tupJ {x : Str} {body : List Stmt} {Q : Flow → Shared → Prop} {l : Addr} {vs : List Value} {nv : Nat} {m₀ : Str → Option Value} (J : Nat → (Str → Option Value) → List (Addr × Obj) → Prop)
    (hh : A.handled = none) (hmem : ∀ i m news, J i m news → (l, ({ cls := .type "tuple", data := .seq vs.toArray nv } : Obj)) ∈ news) (F : Fr h₀ env.locals s.heap m₀) (N : News h₀ env.locals s.heap news) (hj : J 0 m₀ news)
    (turn : ∀ i v m₁ news₁ I h tk o, vs[i]? = some v → J i m₁ news₁ → (∀ p ∈ news₁, p.1 ≠ I) → (∀ p ∈ news, p.1 < I) → Fr h₀ env.locals h (fun y => if y = x then some v else m₁ y) → News h₀ env.locals h ((I, o) :: news₁) →
      wpAny (model prog w) A (execs body env) (TurnJ h₀ env.locals (J (i + 1)) I o { s with heap := h, toks := tk } Q) E { s with heap := h, toks := tk })
    (done : ∀ m₁ news₁ h tk, J vs.length m₁ news₁ → Fr h₀ env.locals h m₁ → News h₀ env.locals h news₁ → Q .next { s with heap := h, toks := tk }) :
    wpAny (model prog w) A (pyIter (.ref l)) (fun it s₂ => LoopAtV prog w A h₀ env x body Q E it s₂) E s := by
  have hm0 := N _ (hmem _ _ _ hj)
  have hls : IsTup s.heap l vs.toArray := ⟨_, hm0.1, rfl, nv, rfl⟩
  have hlt : l < s.heap.objs.size := Heap.lt_size hm0.1
  refine wpAny_pyIter_tuple hls ?_
  have W := Walks.tuple (prog := prog) (w := w) hh s.heap.objs.size l (Nat.ne_of_lt hlt) vs.toArray
  rw [List.size_toArray] at W
  refine loop_atJ J W (List.mem_cons_self) rfl (fun b hb => ?_) (next_is_new F) (fun i h st => by obtain ⟨o, e, _⟩ := st.1; exact ⟨o, e⟩) ?_ (fun p hp => Nat.ne_of_lt (Heap.lt_size (N p hp).1)) ⟨⟨_, Heap.get?_push_size _ rfl, rfl, rfl⟩, hls.push _⟩ (F.push _) (fun p hp => ⟨Heap.get?_push_of_some _ (N p hp).1, (N p hp).2⟩) hj ?_ done
  · rcases List.mem_cons.mp hb with e | hb
    · exact .inl e
    · rw [List.mem_singleton.mp hb]; exact .inr (.inr ⟨_, hmem⟩)
  · intro hm
    rcases List.mem_cons.mp hm with e | hm
    · exact absurd F.ns.lt (e ▸ Nat.lt_irrefl _)
    · exact hm0.2.1 (List.mem_singleton.mp hm).symm
  · rintro i v m₁ news₁ h tk o hi hP hJ off F₁ N₁
    exact turn i v m₁ news₁ _ h tk o (by simpa using hP) hJ off (fun p hp => Heap.lt_size (N p hp).1) F₁ N₁
end
theorem rev_size {vs : List Value} {cs : List Nat} (h : StrsAre vs (signsOf cs)) (h4 : cs.length ≤ 4) : vs.toArray.size ≤ sizeLine := by
  rw [List.size_toArray, h.length, List.length_map]
  exact Nat.le_trans h4 (by decide)

/-- a contract that keeps its own ledger: nothing need be apart -/
theorem calls_read {w : World} {f : Addr} {args : List Value} {news : List (Addr × Obj)} (all : List (Addr × Obj)) {deep : Nat} {Ret : Value → List (Addr × Obj) → Prop} (C : Calls w f args news deep Ret) (hret : ∀ v news', Ret v news' → ∀ p ∈ news, p ∈ news')
    {p : Program} {loose : List Str} {mean : ExcName → Option Value} {mg mb : Str → Option Value} {dp un : Nat} {gd : Option (List Code)} {cn : Str} {cs : Scope} {a : Addr} {ccd : Value} {cl : List (Str × Addr)} {outer : List Env} {A₀ : Around} {base h₀ : Heap} {L : Addr} {m : Str → Option Value} {s : Shared} {Q E : Value → Shared → Prop} {N₀ : List (Addr × Obj)}
    (B : Below A₀ base outer h₀) (F : Fr h₀ L s.heap m) (X : (hd.heap_39 w.params).In h₀) (N : News h₀ L s.heap N₀) (T : Top p loose mean mg mb h₀) (hck : cs.kind = .function) (hd : dp + deep < recursionLimit) (hu : un + 8 * deep + 100 < cLine)
    (suba : ∀ p ∈ all, p ∈ N₀) (subn : ∀ p ∈ news, p ∈ N₀)
    (ret : ∀ v news' h' tk', Ret v news' → Fr h₀ L h' m → News h₀ L h' (all ++ news') → Q v { s with heap := h', toks := tk' }) :
    wpAny (model PR w) (ktrTop dp un gd cn cs L a ccd cl outer) (call (.ref f) args) Q E s :=
  C p loose mean mg mb dp un gd cn cs a ccd cl outer A₀ base h₀ L m s Q E B F X (fun p hp => N p (subn p hp)) T hck hd hu fun v news' h' tk' r F' N' K => ret v news' h' tk' r F' fun p hp => by
    rcases List.mem_append.mp hp with h | h
    · refine ⟨?_, (N p (suba p h)).2⟩
      by_cases hq : ∃ q ∈ news, q.1 = p.1
      · obtain ⟨q, hqn, hqp⟩ := hq
        have e1 := (N p (suba p h)).1
        have e2 := (N q (subn q hqn)).1
        have e3 := (N' q (hret v news' r q hqn)).1
        rw [hqp] at e2 e3
        rw [e1] at e2
        rw [e3, Option.some.inj e2]
      · exact K _ _ (N p (suba p h)).1 fun q hqn e => hq ⟨q, hqn, e⟩
    · exact N' p h
/-- what holds between the two orders -/
def OrdJ (bl wx hl rl : Addr) (wy : Int) (tw : Tok) (NL : List (Addr × Obj)) (_ : Nat) (m : Str → Option Value) (news : List (Addr × Obj)) : Prop :=
  m (Str.ofString "bag") = some (.ref bl) ∧ m (Str.ofString "world") = some (.ref wx) ∧ m (Str.ofString "held") = some (.ref hl) ∧ m (Str.ofString "row") = some (.ref rl) ∧ m (Str.ofString "ways") = some (.int wy tw) ∧ news = NL
theorem two_orders {o1 o3 : Addr} {i : Nat} {v : Value} {us1 us3 : List Value} {n1 n3 : Nat} {ds1 ds3 cs : List Nat} {NL : List (Addr × Obj)} (h : ([.ref o1, .ref o3] : List Value)[i]? = some v)
    (m1 : (o1, listOf us1.toArray n1) ∈ NL) (m3 : (o3, listOf us3.toArray n3) ∈ NL) (h1 : StrsAre us1 (signsOf ds1)) (h3 : StrsAre us3 (signsOf ds3)) (p1 : ds1.Perm cs) (p3 : ds3.Perm cs) :
    ∃ oa us na ds, v = .ref oa ∧ (oa, listOf us.toArray na) ∈ NL ∧ StrsAre us (signsOf ds) ∧ ds.Perm cs := by
  match i with
  | 0 => simp at h; exact ⟨_, _, _, _, h.symm, m1, h1, p1⟩
  | 1 => simp at h; exact ⟨_, _, _, _, h.symm, m3, h3, p3⟩
  | n + 2 => simp at h
section
variable {prog : Program} {w : World} {A : Around} {E : Value → Shared → Prop} {s : Shared}
theorem ne_bools_same {a b : Addr} {vs us : List Value} {xs : List Bool} {Q : Value → Shared → Prop} (hl : s.heap.IsList a vs.toArray) (hc : CarriedAll vs (xs.map .bool)) (hl' : s.heap.IsList b us.toArray) (hc' : CarriedAll us (xs.map .bool)) (hu : A.units + 64 < cLine)
    (h : Q (.bool false) s) : wpAny (model prog w) A (compareOp .NotEq (.ref a) (.ref b)) Q E s := by
  refine ne_boolsC hl hc hl' hc' hu ?_
  rw [decide_eq_true rfl]
  exact h
end
theorem mem_one {p : Addr × Obj} {l all : List (Addr × Obj)} (h : p ∈ l) (sub : ∀ q ∈ l, q ∈ all) : ∀ q ∈ [p], q ∈ all := fun q hq => by
  rw [List.mem_singleton.mp hq]; exact sub _ h
theorem ne_int_self {prog : Program} {w : World} {A : Around} {E : Value → Shared → Prop} {s : Shared} {i : Int} {t u : Tok} {Q : Value → Shared → Prop} (h : Q (.bool false) s) : wpAny (model prog w) A (compareOp .NotEq (.int i t) (.int i u)) Q E s := by
  refine PyProof.Rows.ne_int ?_
  have e : (i != i) = false := by simp
  first | (rw [e]; exact h) | (simpa using h)

local macro_rules | `(tactic| k_room) => `(tactic| ktr_room)
local macro_rules | `(tactic| k_units) => `(tactic| ktr_units)
-- every key asks the words below first
local macro_rules | `(tactic| walk_at $s:str) => `(tactic| k_dflt (k_extra $s))
-- the written part is kept for a file that reads the head from elsewhere; then the words of this file, said once
example (_ : PySem.Challenge.rw_xm0030_01 = PySem.Challenge.rw_xm0030_01) : hd.heap_39 = hd.heap_39 ∧ PySem.Challenge.rw_xm0030_01 = PySem.Challenge.rw_xm0030_01 := by
  k_fill
  k_with_none
  -- into a def's body, and its end
  k_with "MINE ENTER" => (
    refine' calls_of ?k1 ?k2 ?k3 ?k4 (by decide) ?_ ?c1 ?c2 ?c3 ?c4
    case k1 => k_is
    case k2 => k_is
    case k3 => exact fun _ => BindsTo.of_eq rfl
    case k4 => exact locs rfl
    case c1 => exact rfl
    case c2 => exact rfl
    case c3 => exact rfl
    case c4 => decide
    intro p loose mean mg mb dp un gd outer A₀ base g' L' s B' F' X' N' T' l1 hroom hunits
    (try dsimp only)
    (try k_lt l1)
    (try k_fold))
  k_with "MINE END" => ((iterate 8 (first | k_unfold | refine TurnJ.ret ?_ | dsimp only | skip)); (try dsimp only [bodyVal]))
  -- the ledger's parting, and that its parts are apart
  k_with "MINE PART" => (first | with_unfolding_all exact (rfl : _ = [] ++ _) | with_unfolding_all exact (rfl : _ = [_] ++ _) | with_unfolding_all exact (rfl : _ = [_, _] ++ _) | with_unfolding_all exact (rfl : _ = [_, _, _] ++ _) | with_unfolding_all exact (rfl : _ = [_, _, _, _] ++ _) | with_unfolding_all exact (rfl : _ = [_, _, _, _, _] ++ _) | with_unfolding_all exact (rfl : _ = [_, _, _, _, _, _] ++ _))
  k_with "MINE OFF" => (first | exact List.forall_mem_nil _ | exact off7 (by assumption) | (refine List.forall_mem_cons.mpr ⟨by ((try dsimp only [W7]); k_all), ?_⟩; walk_at "MINE OFF"))
  k_with "execs cons" => (k_here; (first | k_fold | ((have hmk9 := (by assumption : LightMark)); clear hmk9; refine wpAny_execs_cons ?_)))
  k_with "exec If" => (k_here; k_fold)
  k_with "execs nil" => (refine wpAny_execs_nil ?_)
  -- a call by its contract: the premises but the contract's own
  k_with "call ref" => (k_here; (with_reducible show wpAny _ _ (call (Value.ref 42) _) _ _ _); refine calls_pure (check_name_ok _ _) (by k_asm) (by k_asm) (by k_asm) (by k_asm) (by k_asm) (by first | exact rfl | assumption) (by ktr_room) (by ktr_units) ?_; intro v' n' h' tk' hr' F' N'; obtain ⟨hv', hn'⟩ := hr'; subst hv'; subst hn'; (try simp only [List.append_nil] at N'); (try dsimp only); (try k_fold))
  k_with "call ref" => (k_here; (with_reducible show wpAny _ _ (call (Value.ref 96) _) _ _ _); refine calls_pure (record_told_ok _ _ _ _ (by omega) (by omega)) (by k_asm) (by k_asm) (by k_asm) (by k_asm) (by k_asm) (by first | exact rfl | assumption) (by ktr_room) (by ktr_units) ?_; intro v' n' h' tk' hr' F' N'; obtain ⟨hv', hn'⟩ := hr'; subst hv'; subst hn'; (try simp only [List.append_nil] at N'); (try dsimp only); (try k_fold))
  k_with "call ref" => (k_here; (with_reducible show wpAny _ _ (call (Value.ref 82) _) _ _ _); refine calls_pure (placed_ok _ _) (by k_asm) (by k_asm) (by k_asm) (by k_asm) (by k_asm) (by first | exact rfl | assumption) (by ktr_room) (by ktr_units) ?_; intro v' n' h' tk' hr' F' N'; obtain ⟨⟨t', hv'⟩, hn'⟩ := hr'; subst hv'; subst hn'; (try simp only [List.append_nil] at N'); (try dsimp only); (try k_fold))
  k_with "call ref" => (k_here; (with_reducible show wpAny _ _ (call (Value.ref 63) _) _ _ _); refine calls_split (channel_of_ok _ (by assumption) (by omega)) (by k_asm) (by k_asm) (by k_asm) (by k_asm) (by k_asm) (by first | exact rfl | assumption) (by ktr_room) (by ktr_units) (by walk_at "MINE PART") (by walk_at "MINE OFF") ?_; intro v' n' h' tk' hr' F' N'; obtain ⟨hv', hn'⟩ := hr'; subst hv'; subst hn'; (try simp only [W7, List.nil_append, List.cons_append] at N'); (try dsimp only); (try k_fold))
  k_with "call ref" => (k_here; (with_reducible show wpAny _ _ (call (Value.ref 103) _) _ _ _); refine calls_split (get_record_ok _ (by assumption) (by omega) (by omega)) (by k_asm) (by k_asm) (by k_asm) (by k_asm) (by k_asm) (by first | exact rfl | assumption) (by ktr_room) (by ktr_units) (by walk_at "MINE PART") (by walk_at "MINE OFF") ?_; intro v' n' h' tk' hr' F' N'; obtain ⟨hv', o', hn', H'⟩ := hr'; subst hv'; subst hn'; (try simp only [W7, List.nil_append, List.cons_append] at N'); (try dsimp only); (try k_fold))
  k_with "call ref" => (k_here; (with_reducible show wpAny _ _ (call (Value.ref 89) _) _ _ _); refine calls_split (set_placed_ok _ (by assumption)) (by k_asm) (by k_asm) (by k_asm) (by k_asm) (by k_asm) (by first | exact rfl | assumption) (by ktr_room) (by ktr_units) (by walk_at "MINE PART") (by walk_at "MINE OFF") ?_; intro v' n' h' tk' hr' F' N'; obtain ⟨hv', o', hn', H'⟩ := hr'; subst hv'; subst hn'; (try simp only [W7, List.nil_append, List.cons_append] at N'); (try dsimp only); (try k_fold))
  k_with "call ref" => (k_here; (with_reducible show wpAny _ _ (call (Value.ref 110) _) _ _ _); refine calls_split (put_record_ok _ (by assumption) (by omega) (by omega) (by omega)) (by k_asm) (by k_asm) (by k_asm) (by k_asm) (by k_asm) (by first | exact rfl | assumption) (by ktr_room) (by ktr_units) (by walk_at "MINE PART") (by walk_at "MINE OFF") ?_; intro v' n' h' tk' hr' F' N'; obtain ⟨hv', o1', o2', hn', H'⟩ := hr'; subst hv'; subst hn'; (try simp only [W7, List.nil_append, List.cons_append] at N'); (try dsimp only); (try k_fold))
  k_with "call ref" => (k_here; (with_reducible show wpAny _ _ (call (Value.ref 75) _) _ _ _); refine calls_split (field_text_ok _ (by assumption)) (by k_asm) (by k_asm) (by k_asm) (by k_asm) (by k_asm) (by first | exact rfl | assumption) (by ktr_room) (by ktr_units) (by walk_at "MINE PART") (by walk_at "MINE OFF") ?_; intro v' n' h' tk' hr' F' N'; obtain ⟨⟨t', hv'⟩, hn'⟩ := hr'; subst hv'; subst hn'; (try simp only [W7, List.nil_append, List.cons_append] at N'); (try dsimp only); (try k_fold))
  k_with "call ref" => (k_here; (with_reducible show wpAny _ _ (call (Value.ref 146) _) _ _ _); refine calls_split (law_sign_ok _ (by assumption) (by omega) (by omega)) (by k_asm) (by k_asm) (by k_asm) (by k_asm) (by k_asm) (by first | exact rfl | assumption) (by ktr_room) (by ktr_units) (by walk_at "MINE PART") (by walk_at "MINE OFF") ?_; intro v' n' h' tk' hr' F' N'; obtain ⟨⟨t', hv'⟩, o', hn', H'⟩ := hr'; subst hv'; subst hn'; (try simp only [W7, List.nil_append, List.cons_append] at N'); (try dsimp only); (try k_fold))
  k_with "call ref" => (k_here; (with_reducible show wpAny _ _ (call (Value.ref 153) _) _ _ _); refine calls_split (law_keep_ok _ (by assumption) (by omega) (by omega) (by omega)) (by k_asm) (by k_asm) (by k_asm) (by k_asm) (by k_asm) (by first | exact rfl | assumption) (by ktr_room) (by ktr_units) (by walk_at "MINE PART") (by walk_at "MINE OFF") ?_; intro v' n' h' tk' hr' F' N'; obtain ⟨hv', o1', o2', hn', H'⟩ := hr'; (first | have hl' := put_len5 H' (by assumption) (by omega) (by omega) | have hl' := put_lenM H' (by omega) (by omega)); subst hv'; subst hn'; (try simp only [W7, List.nil_append, List.cons_append] at N'); (try dsimp only); (try k_fold))
  k_with "call ref" => (k_here; (with_reducible show wpAny _ _ (call (Value.ref 153) [_, _, Value.str (Str.ofString "-") _]) _ _ _); refine calls_split (law_keep_dash _ (by assumption) (by omega) (by omega) (by omega)) (by k_asm) (by k_asm) (by k_asm) (by k_asm) (by k_asm) (by first | exact rfl | assumption) (by ktr_room) (by ktr_units) (by walk_at "MINE PART") (by walk_at "MINE OFF") ?_; intro v' n' h' tk' hr' F' N'; obtain ⟨hv', o1', o2', hn', H'⟩ := hr'; (first | have hl' := put_len5 H' (by assumption) (by omega) (by omega) | have hl' := put_lenM H' (by omega) (by omega)); subst hv'; subst hn'; (try simp only [W7, List.nil_append, List.cons_append] at N'); (try dsimp only); (try k_fold))
  k_with "call ref" => (k_here; (with_reducible show wpAny _ _ (call (Value.ref 160) _) _ _ _); refine calls_split (law_spot_ok _ (by assumption) (by assumption)) (by k_asm) (by k_asm) (by k_asm) (by k_asm) (by k_asm) (by first | exact rfl | assumption) (by ktr_room) (by ktr_units) (by walk_at "MINE PART") (by walk_at "MINE OFF") ?_; intro v' n' h' tk' hr' F' N'; obtain ⟨⟨t', hv'⟩, o', b', r', hn', H', hs1', hs2'⟩ := hr'; subst hv'; subst hn'; (try simp only [W7, List.nil_append, List.cons_append] at N'); (try dsimp only); (try k_fold))
  -- loops: an empty dict; a word of the theorem's own
  k_with "pyIter ref" => (k_here; (with_reducible show wpAny _ _ (pyIter (Value.ref _)) (fun it s₂ => LoopAtV _ _ _ _ _ _ _ _ _ it s₂) _ _); refine iter_empty (knd := PySem.intKind _ _) (by rfl) (by k_asm) (by k_asm) (by k_mem) (by k_asm) (by k_asm) ?_; intro h' tk' F' N'; (try dsimp only); (try k_fold))
  k_with "pyIter ref" => (k_here; k_extra "MINE LOOP")
  -- an attribute of an object whose dict is known by its words alone
  k_with "getAttr ref" => (k_here; refine' get_own ?k1 ?k2 ?k3 ?k4 ?k5 ?k6 ?k7 ?k8 ?k9 ?_; (case k1 => k_asm); (case k2 => k_asm); (case k3 => k_inst); (case k4 => k_is); (case k5 => k_is); (case k6 => k_is); (case k7 => k_is); (case k8 => k_asm); (case k9 => k_handed); k_whole)
  -- the text's comprehension
  k_with "eval ListComp" => (k_here; (with_reducible show wpAny _ _ (eval (Expr.ListComp _ [⟨Expr.Name _ _, _, [_], _⟩] _ _) _) _ _ _); refine ListComp_textT (F₀ := by k_asm) (by with_unfolding_all rfl) (by decide) (by rfl) (by decide) (by rfl) ?_)
  k_with "SrcText" => (k_here; refine SrcText.intro (n := 4) (by rfl) (by k_asm) (by k_asm) ring_ascii ring_sz (by size_fits) ?_; intro g')
  k_with "CompRestT" => (with_unfolding_all first
    | (refine LCt.CompRestT.succ ?_; intro v' I' oI' C' oC' D' m' h' tk' E' hv' hC' hx' F' N' off' ne'; obtain ⟨c', u', e', hlo', hhi'⟩ := ring_open hv'; subst e'; clear hv')
    | refine LCt.CompRestT.zero ?_)
  k_with "compareOp NotEq ref ref" => (k_here; refine ne_strsC (xs := []) (ys := []) (vs := []) (us := []) (isList_news (by k_asm) (by k_mem)) .nil (isList_news (by k_asm) (by k_mem)) .nil (fun _ h => nomatch h) (fun _ h => nomatch h) (by ktr_units) ?_)
  -- the pairs' comprehensions
  k_with "eval ListComp" => (k_here; (with_reducible show wpAny _ _ (eval (Expr.ListComp _ [⟨Expr.Tuple _ _ _, _, [_], _⟩] _ _) _) _ _ _); refine ListComp_pairNo (by rfl) (by with_unfolding_all rfl) (by decide) (by rfl) (by decide) (by rfl) (by rfl) (by decide) ?_)
  k_with "PairNo" => (k_here; refine pairNo_lt rfl (fun _ => rfl) (fun _ => rfl) (by decide) (News.isList (by k_asm) (by k_mem)) (News.isTup (by k_asm) (by k_mem)) (by k_asm) (by k_asm) (by decide) ?_; intro D' h' tk' F' N' l1; (try k_lt l1))
  k_with "eval ListComp" => (k_here; lcp_look; refine LCp.ListComp_P (F₀ := by k_asm) (by with_unfolding_all rfl) (by decide) (by rfl) (by decide) (by rfl) (by rfl) (by decide) ?_)
  k_with "CompRestP" => (with_unfolding_all first
    | (refine LCp.CompRestP.succ ?_; intro v' hv'; lcg_open hv'; refine ⟨_, _, _, _, _, rfl, by k_mem, rfl, rfl, ?_⟩; intro I' oI' C' oC' D' m' h' tk' E' hC' hx' hy' F' N' off' ne')
    | refine LCp.CompRestP.zero ?_)
  k_with "CompEnd" => (k_here; refine LCg.CompEnd.intro (by k_asm) (by k_asm) _ (fun _ h => h) (by assumption) (by lcg_src) ?_)
  k_with "MINE CLEAR" => (
    repeat (with_reducible rename And _ _ => z9; clear z9)
    repeat (with_reducible rename FlatPairs _ _ _ => z9; clear z9)
    repeat (with_reducible rename Obj.IsDictOf _ _ _ => z9; clear z9)
    repeat (with_reducible rename FileOk _ _ _ => z9; clear z9)
    repeat (with_reducible rename OpenOk _ _ _ => z9; clear z9)
    repeat (with_reducible rename FieldsOk _ _ _ => z9; clear z9)
    repeat (with_reducible rename @LT.lt Nat _ _ _ => z9; clear z9)
    repeat (with_reducible rename IsRange _ _ _ _ _ _ _ _ => z9; clear z9)
    repeat (with_reducible rename (_ == _) = false => z9; clear z9)
    repeat (with_reducible rename Glob _ _ _ _ _ _ _ _ => z9; clear z9)
    repeat (with_reducible rename BMod _ _ _ _ _ => z9; clear z9)
    repeat (with_reducible rename ReadsAll _ _ _ _ => z9; clear z9)
    repeat (with_reducible rename Heap.IsList _ _ _ => z9; clear z9))
  exact ⟨rfl, rfl⟩

set_option maxHeartbeats 1000000 in
theorem check_name_ok (w : World) (t : Tok) : Calls w 42 [.str (Str.ofString "RING") t] [] 1 (fun v news' => v = .str (Str.ofString "RING") t ∧ news' = []) := by
  walk_at "MINE ENTER"
  repeat' (first | (k_unfold; (try dsimp only)) | walk1 | (dsimp only; walk1))
  walk_at "MINE END"
  all_goals (refine' Out.intro (news' := []) ?F ?N ?s ?r; (case r => exact ⟨rfl, rfl⟩); (case F => k_asm); (case N => k_asm); (case s => exact fun _ h => nomatch h))

set_option maxHeartbeats 1000000 in
theorem open_file_ok (w : World) {wx wd fd od hl : Addr} {es : List DictEntry} {n : Nat} {ofd ood ohl : Obj} {t1 t2 t3 t4 : Tok}
    (gF : getL (Str.ofString "files") es = some (some (.ref fd))) (gO : getL (Str.ofString "open") es = some (some (.ref od)))
    (h1 : @LT.lt Nat _ wd wx) (h2 : @LT.lt Nat _ wx fd) (h3 : @LT.lt Nat _ fd od) (h4 : @LT.lt Nat _ od hl) (lo : (fd == sysModules) = false) (lo' : (od == sysModules) = false)
    (hs : ofd.IsDictOf (PySem.strKind PR w) []) (fs : FlatPairs PyData.str [] []) (hi : ood.IsDictOf (intKind PR w) []) (fi : FlatPairs PyData.int [] []) :
    Calls w 49 [.ref wx, .str (Str.ofString "R") t1, .int 1 t2, .str (Str.ofString "RING") t3, .int 1 t4] [(hl, ohl), (fd, ofd), (od, ood), (wx, instObj 128 wd), (wd, dictOf es n)] 3
      (fun v news' => v = .none ∧ ∃ md omd ofd' ood', news' = [(md, omd), (hl, ohl), (fd, ofd'), (od, ood'), (wx, instObj 128 wd), (wd, dictOf es n)] ∧ (@LT.lt Nat _ hl md) ∧ (md == sysModules) = false ∧ FileOk w ofd' ⟨#[]⟩ ∧ OpenOk w ood' md ∧ MadeOk w omd ⟨#[0]⟩ 0) := by
  walk_at "MINE ENTER"
  k_steps
  walk_at "MINE END"
  exact Out.intro (by k_asm) (by k_asm) (fun _ h => h) ⟨rfl, _, _, _, _, rfl, by omega, by assumption, ⟨_, by assumption, by assumption⟩, by assumption, ⟨_, by assumption, by assumption⟩⟩

set_option maxHeartbeats 1000000 in
theorem set_fields_ok (w : World) {wx wd fd od ld md l tq : Addr} {es : List DictEntry} {n : Nat} {ofd ood old omd : Obj} {b : Str} {rec : Int} {t2 t3 t4 : Tok} {kv : List (Str × Value)}
    (gO : getL (Str.ofString "open") es = some (some (.ref od))) (gL : getL (Str.ofString "fields") es = some (some (.ref ld)))
    (h1 : @LT.lt Nat _ wd wx) (h2 : @LT.lt Nat _ wx fd) (h3 : @LT.lt Nat _ fd od) (h4 : @LT.lt Nat _ od ld) (h5 : @LT.lt Nat _ ld md) (h6 : @LT.lt Nat _ md tq) (h7 : @LT.lt Nat _ tq l)
    (lo1 : (od == sysModules) = false) (lo2 : (ld == sysModules) = false) (lo3 : (md == sysModules) = false)
    (hO : ood.IsDictOf (intKind PR w) [(1, .ref md)]) (hL : old.IsDictOf (PySem.strKind PR w) []) (fL : FlatPairs PyData.str [] [])
    (hM : omd.IsDictOf (PySem.strKind PR w) kv) (fM : FlatPairs PyData.str kv [(.str (Str.ofString "mode"), .str (Str.ofString "R")), (.str (Str.ofString "name"), .str (Str.ofString "RING")), (.str (Str.ofString "at"), .int 0), (.str (Str.ofString "size"), .int 1), (.str (Str.ofString "buffer"), .str b), (.str (Str.ofString "record"), .int rec)]) :
    Calls w 68 [.ref wx, .int 1 t2, .ref l] [(l, listOf #[.ref tq] 0), (tq, { cls := .type "tuple", data := .seq #[.int 1 t3, .str (Str.ofString "K$") t4] }), (md, omd), (fd, ofd), (od, ood), (ld, old), (wx, instObj 128 wd), (wd, dictOf es n)] 3
      (fun v news' => v = .none ∧ ∃ tp old' a b c, news' = [(md, omd), (fd, ofd), (od, ood), (ld, old'), (tp, { cls := .type "tuple", data := .seq #[.int 1 a, .int 0 b, .int 1 c] }), (wx, instObj 128 wd), (wd, dictOf es n)] ∧ (@LT.lt Nat _ l tp) ∧ FieldsOk w old' tp) := by
  walk_at "MINE ENTER"
  repeat' (first | (k_unfold; (try dsimp only)) | walk1 | (dsimp only; walk1))
  walk_at "MINE END"
  exact Out.intro (by k_asm) (by k_asm) (by lcg_sub) ⟨rfl, _, _, _, _, _, rfl, by omega, by assumption⟩

set_option maxHeartbeats 1000000 in
theorem channel_of_ok (w : World) {wx wd fd od ld md tp tq : Addr} {es : List DictEntry} {n : Nat} {ofd ood old omd : Obj} {r : List Nat} {b : Nat} {rec : Int} {t2 t3 ta tb tc : Tok}
    (H : RW w es wx wd fd od ld md tp ofd ood old omd r b rec) (hq : @LT.lt Nat _ tp tq) :
    Calls w 63 [.ref wx, .int 1 t2, .ref tq] ((tq, tupR t3) :: W7 es n wx wd fd od ld md tp ofd ood old omd ta tb tc) 1
      (fun v news' => v = .ref md ∧ news' = (tq, tupR t3) :: W7 es n wx wd fd od ld md tp ofd ood old omd ta tb tc) := by
  obtain ⟨gF, gO, gL, h1, h2, h3, h4, h5, h6, lo1, lo2, lo3, lo4, ⟨kF, hF, fF⟩, hO, hL, ⟨kM, hM, fM⟩, hR⟩ := H
  unfold OpenOk at hO
  unfold FieldsOk at hL
  unfold W7 tupR
  walk_at "MINE ENTER"
  repeat' (first | (k_unfold; (try dsimp only)) | walk1 | (dsimp only; walk1))
  walk_at "MINE END"
  exact Out.intro (by k_asm) (by k_asm) (fun _ h => h) ⟨rfl, rfl⟩

set_option maxHeartbeats 1000000 in
theorem record_told_ok (w : World) (fd : Addr) (n : Int) (t : Tok) (h1 : 1 ≤ n) (h2 : n ≤ 32767) : Calls w 96 [.ref fd, .int n t] [] 1 (fun v news' => v = .int n t ∧ news' = []) := by
  walk_at "MINE ENTER"
  repeat' (first | (k_unfold; (try dsimp only)) | walk1 | (dsimp only; walk1))
  walk_at "MINE END"
  exact Out.intro (by k_asm) (by k_asm) (fun _ h => h) ⟨rfl, rfl⟩

set_option maxHeartbeats 1000000 in
theorem get_record_ok (w : World) {wx wd fd od ld md tp : Addr} {es : List DictEntry} {n : Nat} {ofd ood old omd : Obj} {r : List Nat} {b : Nat} {rec k : Int} {t2 tk ta tb tc : Tok}
    (H : RW w es wx wd fd od ld md tp ofd ood old omd r b rec) (k1 : 1 ≤ k) (k2 : k ≤ (txt r).length) :
    Calls w 103 [.ref wx, .int 1 t2, .int k tk] (W7 es n wx wd fd od ld md tp ofd ood old omd ta tb tc) 2
      (fun v news' => v = .none ∧ ∃ omd', news' = W7 es n wx wd fd od ld md tp ofd ood old omd' ta tb tc ∧ RW w es wx wd fd od ld md tp ofd ood old omd' r (r.getD (k - 1).toNat 0) k) := by
  have H' := H
  obtain ⟨gF, gO, gL, h1, h2, h3, h4, h5, h6, lo1, lo2, lo3, lo4, ⟨kF, hF, fF⟩, hO, hL, ⟨kM, hM, fM⟩, hR⟩ := H
  unfold OpenOk at hO
  unfold FieldsOk at hL
  unfold W7
  walk_at "MINE ENTER"
  repeat' (first | (k_unfold; (try dsimp only)) | walk1 | (dsimp only; walk1))
  walk_at "MINE END"
  exact Out.intro (by k_asm) (by k_asm) (by lcg_sub) ⟨rfl, _, rfl, { H' with made := by rw [← got_text r k k1 k2]; exact ⟨_, by assumption, by assumption⟩ }⟩

set_option maxHeartbeats 1000000 in
theorem field_text_ok (w : World) {wx wd fd od ld md tp : Addr} {es : List DictEntry} {n : Nat} {ofd ood old omd : Obj} {r : List Nat} {b : Nat} {rec : Int} {tk ta tb tc : Tok}
    (H : RW w es wx wd fd od ld md tp ofd ood old omd r b rec) :
    Calls w 75 [.ref wx, .str (Str.ofString "K$") tk] (W7 es n wx wd fd od ld md tp ofd ood old omd ta tb tc) 2
      (fun v news' => (∃ t, v = .str (txt [b]) t) ∧ news' = W7 es n wx wd fd od ld md tp ofd ood old omd ta tb tc) := by
  obtain ⟨gF, gO, gL, h1, h2, h3, h4, h5, h6, lo1, lo2, lo3, lo4, ⟨kF, hF, fF⟩, hO, hL, ⟨kM, hM, fM⟩, hR⟩ := H
  unfold OpenOk at hO
  unfold FieldsOk at hL
  unfold W7
  have hb : (txt [b]).length ≤ 5 := by rw [one_len]; decide
  walk_at "MINE ENTER"
  repeat' (first | (k_unfold; (try dsimp only)) | walk1 | (dsimp only; walk1))
  walk_at "MINE END"
  exact Out.intro (by k_asm) (by k_asm) (by lcg_sub) ⟨⟨_, by rw [buf_cut]⟩, rfl⟩

set_option maxHeartbeats 1000000 in
theorem placed_ok (w : World) (c : Nat) {t1 t2 : Tok} :
    Calls w 82 [.str (txt [c]) t1, .int 1 t2, .bool false] [] 2
      (fun v news' => (∃ t, v = .str (txt [c]) t) ∧ news' = []) := by
  have hb : (txt [c]).length ≤ 5 := by rw [one_len]; decide
  walk_at "MINE ENTER"
  repeat' (first | (k_unfold; (try dsimp only)) | walk1 | (dsimp only; walk1))
  walk_at "MINE END"
  exact Out.intro (by k_asm) (by k_asm) (by lcg_sub) ⟨⟨_, by rw [placed_text]⟩, rfl⟩

set_option maxHeartbeats 1000000 in
theorem set_placed_ok (w : World) {wx wd fd od ld md tp : Addr} {es : List DictEntry} {n : Nat} {ofd ood old omd : Obj} {r : List Nat} {b c : Nat} {rec : Int} {t1 t2 ta tb tc : Tok}
    (H : RW w es wx wd fd od ld md tp ofd ood old omd r b rec) :
    Calls w 89 [.ref wx, .str (Str.ofString "K$") t1, .str (txt [c]) t2, .bool false] (W7 es n wx wd fd od ld md tp ofd ood old omd ta tb tc) 3
      (fun v news' => v = .none ∧ ∃ omd', news' = W7 es n wx wd fd od ld md tp ofd ood old omd' ta tb tc ∧ RW w es wx wd fd od ld md tp ofd ood old omd' r c rec) := by
  have H' := H
  obtain ⟨gF, gO, gL, h1, h2, h3, h4, h5, h6, lo1, lo2, lo3, lo4, ⟨kF, hF, fF⟩, hO, hL, ⟨kM, hM, fM⟩, hR⟩ := H
  unfold OpenOk at hO
  unfold FieldsOk at hL
  unfold W7
  have hb : (txt [b]).length ≤ 5 := by rw [one_len]; decide
  have hc : (txt [c]).length ≤ 5 := by rw [one_len]; decide
  walk_at "MINE ENTER"
  repeat' (first | (k_unfold; (try dsimp only)) | walk1 | (dsimp only; walk1))
  walk_at "MINE END"
  exact Out.intro (by k_asm) (by k_asm) (by lcg_sub) ⟨rfl, _, rfl, { H' with made := by rw [← buf_set b c]; exact ⟨_, by assumption, by assumption⟩ }⟩

set_option maxHeartbeats 1000000 in
theorem put_record_ok (w : World) {wx wd fd od ld md tp : Addr} {es : List DictEntry} {n : Nat} {ofd ood old omd : Obj} {r : List Nat} {b : Nat} {rec k : Int} {t1 t2 t3 ta tb tc : Tok}
    (H : RW w es wx wd fd od ld md tp ofd ood old omd r b rec) (k1 : 1 ≤ k) (k2 : k ≤ 5) (k3 : k ≤ (txt r).length + 1) :
    Calls w 110 [.ref wx, .int 1 t1, .int k t2, .int 5 t3] (W7 es n wx wd fd od ld md tp ofd ood old omd ta tb tc) 2
      (fun v news' => v = .none ∧ ∃ ofd' omd', news' = W7 es n wx wd fd od ld md tp ofd' ood old omd' ta tb tc ∧ RW w es wx wd fd od ld md tp ofd' ood old omd' (putAt r (k - 1).toNat b) b k) := by
  have H' := H
  obtain ⟨gF, gO, gL, h1, h2, h3, h4, h5, h6, lo1, lo2, lo3, lo4, ⟨kF, hF, fF⟩, hO, hL, ⟨kM, hM, fM⟩, hR⟩ := H
  unfold OpenOk at hO
  unfold FieldsOk at hL
  unfold W7
  have hb : (txt [b]).length ≤ 5 := by rw [one_len]; decide
  k_with "storeName" => (rw [pad_text r k k3])
  walk_at "MINE ENTER"
  repeat' (first | (k_unfold; (try dsimp only)) | walk1 | (dsimp only; walk1))
  walk_at "MINE END"
  have hlen : (txt (putAt r (k - 1).toNat b)).length ≤ 5 := by
    rw [txt_len] at hR k3 ⊢
    have := putAt_len r (k - 1).toNat b (by omega)
    omega
  exact Out.intro (by k_asm) (by k_asm) (by lcg_sub) ⟨rfl, _, _, rfl, { H' with made := ⟨_, by assumption, by assumption⟩, file := by rw [← put_text r k b k1 k3]; exact ⟨_, by assumption, by assumption⟩, len := hlen }⟩

set_option maxHeartbeats 1000000 in
theorem law_sign_ok (w : World) {wx wd fd od ld md tp : Addr} {es : List DictEntry} {n : Nat} {ofd ood old omd : Obj} {r : List Nat} {b : Nat} {rec k : Int} {tk ta tb tc : Tok}
    (H : RW w es wx wd fd od ld md tp ofd ood old omd r b rec) (k1 : 0 ≤ k) (k2 : k < (txt r).length) :
    Calls w 146 [.ref wx, .int k tk] (W7 es n wx wd fd od ld md tp ofd ood old omd ta tb tc) 3
      (fun v news' => (∃ t, v = .str (txt [r.getD k.toNat 0]) t) ∧ ∃ omd', news' = W7 es n wx wd fd od ld md tp ofd ood old omd' ta tb tc ∧ RW w es wx wd fd od ld md tp ofd ood old omd' r (r.getD k.toNat 0) (k + 1)) := by
  have hR := H.len
  unfold W7
  walk_at "MINE ENTER"
  repeat' (first | (k_unfold; (try dsimp only)) | walk1 | (dsimp only; walk1))
  walk_at "MINE END"
  (with_reducible rename RW _ _ _ _ _ _ _ _ _ _ _ _ _ _ _ _ => H9)
  rw [Int.add_sub_cancel] at H9 ⊢
  exact Out.intro (by k_asm) (by k_asm) (by lcg_sub) ⟨⟨_, rfl⟩, _, rfl, H9⟩

set_option maxHeartbeats 1000000 in
theorem law_keep_ok (w : World) {wx wd fd od ld md tp : Addr} {es : List DictEntry} {n : Nat} {ofd ood old omd : Obj} {r : List Nat} {b c : Nat} {rec k : Int} {t1 t2 ta tb tc : Tok}
    (H : RW w es wx wd fd od ld md tp ofd ood old omd r b rec) (k1 : 0 ≤ k) (k2 : k < 5) (k3 : k ≤ (txt r).length) :
    Calls w 153 [.ref wx, .int k t1, .str (txt [c]) t2] (W7 es n wx wd fd od ld md tp ofd ood old omd ta tb tc) 4
      (fun v news' => v = .none ∧ ∃ ofd' omd', news' = W7 es n wx wd fd od ld md tp ofd' ood old omd' ta tb tc ∧ RW w es wx wd fd od ld md tp ofd' ood old omd' (putAt r k.toNat c) c (k + 1)) := by
  have hR := H.len
  unfold W7
  walk_at "MINE ENTER"
  repeat' (first | (k_unfold; (try dsimp only)) | walk1 | (dsimp only; walk1))
  walk_at "MINE END"
  (with_reducible rename RW _ _ _ _ _ _ _ _ _ _ _ _ _ _ _ _ => H9)
  rw [Int.add_sub_cancel] at H9
  exact Out.intro (by k_asm) (by k_asm) (by lcg_sub) ⟨rfl, _, _, rfl, H9⟩
theorem law_keep_dash (w : World) {wx wd fd od ld md tp : Addr} {es : List DictEntry} {n : Nat} {ofd ood old omd : Obj} {r : List Nat} {b : Nat} {rec k : Int} {t1 t2 ta tb tc : Tok}
    (H : RW w es wx wd fd od ld md tp ofd ood old omd r b rec) (k1 : 0 ≤ k) (k2 : k < 5) (k3 : k ≤ (txt r).length) :
    Calls w 153 [.ref wx, .int k t1, .str (Str.ofString "-") t2] (W7 es n wx wd fd od ld md tp ofd ood old omd ta tb tc) 4
      (fun v news' => v = .none ∧ ∃ ofd' omd', news' = W7 es n wx wd fd od ld md tp ofd' ood old omd' ta tb tc ∧ RW w es wx wd fd od ld md tp ofd' ood old omd' (putAt r k.toNat 45) 45 (k + 1)) := by
  rw [dash]; exact law_keep_ok w H k1 k2 k3

set_option maxHeartbeats 1000000 in
theorem law_spot_ok (w : World) {wx wd fd od ld md tp : Addr} {es : List DictEntry} {n : Nat} {ofd ood old omd : Obj} {r : List Nat} {b c : Nat} {rec : Int} {t2 ta tb tc : Tok}
    (H : RW w es wx wd fd od ld md tp ofd ood old omd r b rec) (h5 : (txt r).length = 5) :
    Calls w 160 [.ref wx, .str (txt [c]) t2] (W7 es n wx wd fd od ld md tp ofd ood old omd ta tb tc) 4
      (fun v news' => (∃ t, v = .int (spotFrom r c 5 (Int.fmod c 3)) t) ∧ ∃ omd' b' rec', news' = W7 es n wx wd fd od ld md tp ofd ood old omd' ta tb tc ∧ RW w es wx wd fd od ld md tp ofd ood old omd' r b' rec' ∧ 0 ≤ spotFrom r c 5 (Int.fmod c 3) ∧ spotFrom r c 5 (Int.fmod c 3) < 5) := by
  have hR := H.len
  have hb : (txt [c]).length = 1 := one_len c
  unfold W7
  k_with "MINE LOOP" => (
    refine iter_rangeJ (n := 5) (SpotJ w es n wx wd fd od ld md tp ofd ood old ta tb tc r c t2 (Int.fmod c 3)) (by rfl) (by k_asm) (by decide) (by rfl) (by k_asm) (by k_asm) (by exact ⟨_, _, _, _, _, rfl, rfl, rfl, (fm3 c).1, Int.lt_trans (fm3 c).2 (by decide), rfl, rfl, H⟩) (fun i ti m₁ news₁ I h tk o hi hJ off lt F N => ?_) (fun m₁ news₁ h tk hJ F N => ?_)
    all_goals (
      obtain ⟨k, t, omd', b', rec', e1, e2, e3, k1, k2, hs, hn, H'⟩ := hJ
      subst hn
      rw [map_known e1, map_known e2, map_known e3] at F
      clear e1 e2 e3
      simp only [W7] at N
      (try have hov : Over7 wx wd fd od ld md tp I := allLt7 lt)
      (try k_lt lt)
      (try dsimp only)
      (try k_fold)))
  walk_at "MINE ENTER"
  repeat' (first | (k_unfold; (try dsimp only)) | walk1 | (dsimp only; walk1))
  all_goals (walk_at "MINE END")
  · walk_at "MINE END"
    exact Out.intro (by k_asm) (by k_asm) (by lcg_sub) ⟨⟨_, by rw [← spot_hit hi hs (by assumption)]⟩, _, _, _, rfl, by assumption, spot_in r c⟩
  · exact TurnJ.next (by k_asm) (by k_asm) ⟨_, _, _, _, _, rfl, rfl, rfl, (fm5 _).1, (fm5 _).2, spot_on hi hs (by assumption), rfl, by assumption⟩ (by lcg_sub) (all7 (by assumption))
  · walk_at "MINE END"
    exact Out.intro (by k_asm) (by k_asm) (by lcg_sub) ⟨⟨_, by rw [← hs]; rfl⟩, _, _, _, rfl, by assumption, spot_in r c⟩

set_option maxHeartbeats 2000000 in
theorem law_take_out_ok (w : World) {wx wd fd od ld md tp : Addr} {es : List DictEntry} {n : Nat} {ofd ood old omd : Obj} {r : List Nat} {b c : Nat} {rec : Int} {t2 ta tb tc : Tok}
    (H : RW w es wx wd fd od ld md tp ofd ood old omd r b rec) (h5 : (txt r).length = 5) :
    Calls w 167 [.ref wx, .str (txt [c]) t2] (W7 es n wx wd fd od ld md tp ofd ood old omd ta tb tc) 5
      (fun v news' => v = .none ∧ ∃ ofd' omd' b' rec', news' = W7 es n wx wd fd od ld md tp ofd' ood old omd' ta tb tc ∧ RW w es wx wd fd od ld md tp ofd' ood old omd' (takeFrom 4 (spotFrom r c 5 (Int.fmod c 3)) (spotFrom r c 5 (Int.fmod c 3)) (putAt r (spotFrom r c 5 (Int.fmod c 3)).toNat 45)) b' rec') := by
  obtain ⟨r₀, hr₀⟩ : ∃ x, x = takeFrom 4 (spotFrom r c 5 (Int.fmod c 3)) (spotFrom r c 5 (Int.fmod c 3)) (putAt r (spotFrom r c 5 (Int.fmod c 3)).toNat 45) := ⟨_, rfl⟩
  rw [← hr₀]
  have hR := H.len
  have hmk : LightMark := LightMark.mk
  unfold W7
  k_with "MINE LOOP" => (
    refine iter_rangeJ (n := 4) (TakeJ w es n wx wd fd od ld md tp ood old ta tb tc r₀) (by rfl) (by k_asm) (by decide) (by rfl) (by k_asm) (by k_asm) (by exact ⟨_, _, _, _, _, _, _, _, _, rfl, rfl, rfl, (spot_in r c).1, (spot_in r c).2, (spot_in r c).1, (spot_in r c).2, by assumption, hr₀.symm, rfl, by assumption⟩) (fun i ti m₁ news₁ I h tk o hi hJ off lt F N => ?_) (fun m₁ news₁ h tk hJ F N => ?_)
    all_goals (
      obtain ⟨hole, th, k, t, r', ofd', omd', b', rec', e1, e2, e3, g1, g2, k1, k2, hl, hs, hn, H'⟩ := hJ
      subst hn
      rw [map_known e1, map_known e2, map_known e3] at F
      clear e1 e2 e3
      have q5 := fm5 (k + 1)
      simp only [W7] at N
      (try have hov : Over7 wx wd fd od ld md tp I := allLt7 lt)
      (try k_lt lt)
      (try dsimp only)
      (try k_fold)))
  walk_at "MINE ENTER"
  repeat' (first | (k_unfold; (try dsimp only)) | walk1 | (dsimp only; walk1))
  all_goals (walk_at "MINE END")
  · exact Out.intro (by k_asm) (by k_asm) (by lcg_sub) ⟨rfl, _, _, _, _, rfl, by rw [take_stop hi hs (by assumption)]; assumption⟩
  · exact TurnJ.next (by k_asm) (by k_asm) ⟨_, _, _, _, _, _, _, _, _, rfl, rfl, rfl, (fm5 _).1, (fm5 _).2, (fm5 _).1, (fm5 _).2, by assumption, take_move hi hs (by assumption) (by assumption), rfl, by assumption⟩ (by lcg_sub) (all7 (by assumption))
  · exact TurnJ.next (by k_asm) (by k_asm) ⟨_, _, _, _, _, _, _, _, _, rfl, rfl, rfl, g1, g2, (fm5 _).1, (fm5 _).2, hl, take_on hi hs (by assumption) (by assumption), rfl, by assumption⟩ (by lcg_sub) (all7 (by assumption))
  · exact Out.intro (by k_asm) (by k_asm) (by lcg_sub) ⟨rfl, _, _, _, _, rfl, by rw [← hs]; assumption⟩

set_option maxHeartbeats 2000000 in
theorem law_later_ok (w : World) {bl sl : Addr} {vs : List Value} {ns : List Int} {k : Nat} {nb nv : Nat} {j : Nat} {below : Int} {t1 t2 : Tok}
    (hI : IntsAre vs ns) (hn : ns.length ≤ 15) (hj : j ≤ 15) (h1 : @LT.lt Nat _ sl bl) (hb : 0 < below) (hb' : below ≤ 20) :
    Calls w 139 [.ref bl, .int below t2] [(bl, listOf #[.ref sl, .int j t1] nb), (sl, listOf vs.toArray nv)] 1
      (fun v news' => (∃ x t, v = .int x t ∧ 0 ≤ x ∧ x < below) ∧ ∃ t', news' = [(bl, listOf #[.ref sl, .int ((j + 1 : Nat) : Int) t'] nb), (sl, listOf vs.toArray nv)]) := by
  have hmk : LightMark := LightMark.mk
  walk_at "MINE ENTER"
  repeat' (first | (k_unfold; (try dsimp only)) | walk1 | (dsimp only; walk1))
  all_goals (walk_at "MINE END")
  all_goals exact Out.intro (by k_asm) (by k_asm) (fun _ h => h) ⟨⟨_, _, rfl, Int.fmod_nonneg_of_pos _ hb, Int.fmod_lt_of_pos _ hb⟩, _, rfl⟩

set_option maxHeartbeats 1000000 in
theorem law_laid_ok (w : World) {hl : Addr} {vs : List Value} {cs : List Nat} {nv : Nat}
    (hv : StrsAre vs (signsOf cs)) (h4 : cs.length ≤ 4) :
    Calls w 174 [.ref hl] [(hl, listOf vs.toArray nv)] 1
      (fun v news' => ∃ tp rl vsr nr t, v = .ref tp ∧ news' = [(tp, tupL rl (laid cs).2 t), (rl, listOf vsr.toArray nr), (hl, listOf vs.toArray nv)] ∧ StrsAre vsr (signsOf (laid cs).1)) := by
  have hvl : vs.length = cs.length := by rw [hv.length, List.length_map]
  have hmk : LightMark := LightMark.mk
  k_with "MINE LOOP" => (
    (with_reducible rename News _ _ _ _ => N9)
    have N10 := news_bd N9
    refine iter_listJ (LayJ _ hl vs nv cs) (by rfl) (fun i m news hj => by obtain ⟨_, _, _, _, _, _, _, hn⟩ := hj; subst hn; exact .tail _ (.head _)) (by k_asm) N10 ⟨_, _, _, rfl, rfl, .cons _ _ (.cons _ _ (.cons _ _ (.cons _ _ (.cons _ _ .nil)))), And.right (by assumption), rfl⟩ (fun i v m₁ news₁ I h tk o hi hJ off lt F N => ?_) (fun m₁ news₁ h tk hJ F N => ?_)
    all_goals (
      obtain ⟨vsr, nr, t, e1, e2, hvr, hlr, hn⟩ := hJ
      subst hn
      rw [map_known e1, map_known e2] at F
      clear e1 e2
      first | (obtain ⟨c, ts, hve, hc⟩ := signs_at hv (by assumption); subst hve) | skip
      (try k_lt lt)
      (try dsimp only)
      (try k_fold)))
  k_with "exec While" => (
    k_here
    (with_reducible rename Fr _ _ _ _ => F9)
    (with_reducible rename News _ _ _ _ => N9)
    have hci : (cs.take i).length ≤ 4 := by rw [List.length_take]; omega
    refine while_start (LayW _ hl vs nv (laid (cs.take i)).1 vsr nr c ts (probe (laid (cs.take i)).1 5 (Int.fmod c 3) (laid (cs.take i)).2) I o) 5 (by passes_own) F9 N9 ⟨_, _, _, _, rfl, rfl, rfl, rfl, (fm3 c).1, Int.lt_trans (fm3 c).2 (by decide), freeIn_all (laid_len _) (laid_free _ hci) (fm3 c).1 (Int.lt_trans (fm3 c).2 (by decide)), rfl, rfl⟩ (fun n m news h tk hJ F N => ?_)
    obtain ⟨k, t7, wy, t8, e1, e2, e3, e4, k1, k2, hf, hp, hn⟩ := hJ
    subst hn
    rw [map_known e1, map_known e2, map_known e3, map_known e4] at F
    clear e1 e2 e3 e4 F9 N9
    rcases n with _ | n
    · exact hf.elim
    have hrl := laid_len (cs.take i)
    (try dsimp only)
    (try k_fold))
  k_with "subscriptTail" => (
    k_here
    refine item_signs (News.isList (by k_asm) (by k_mem)) hvr k1 (by omega) (by omega) (fun t9 => ?_)
    (try dsimp only)
    (try k_fold))
  k_with "WhlIf" => (refine whl_ne (fun hbw => ?_) (fun hbw => ?_))
  k_with "setItem ref int" => (
    k_here
    refine' store_strs ?k1 ?k2 ?k3 hvr k1 (by rw [List.length_map]; omega) (by omega) ?_
    (case k1 => k_asm)
    (case k2 => k_asm)
    (case k3 => k_upd)
    intro h7 F7 N7 hvr7
    (try dsimp only [List.nil_append, List.cons_append] at N7)
    (try dsimp only)
    (try k_fold))
  walk_at "MINE ENTER"
  repeat' (first | (k_unfold; (try dsimp only)) | walk1 | (dsimp only; walk1))
  all_goals (walk_at "MINE END")
  · exact WTurn.next (by k_asm) (by k_asm) (Nat.lt_succ_self n) ⟨_, _, _, _, rfl, rfl, rfl, rfl, (fm5 _).1, (fm5 _).2, (probe_on hp hf hbw).2, (probe_on hp hf hbw).1, rfl⟩ (by lcg_sub)
  · exact TurnJ.next (by k_asm) (by k_asm) ⟨_, _, _, rfl, by rw [lay_next hc hp hbw]; rfl, by rw [lay_next hc hp hbw, ← signs_set]; exact hvr7, hlr, rfl⟩ (by lcg_sub) (by k_all)
  · rw [hvl, List.take_length] at *
    exact Out.intro (by k_asm) (by k_asm) (by lcg_sub) ⟨_, _, _, _, _, rfl, rfl, hvr⟩

-- the contracts' own words are dropped: the common ones again
example (_ : PySem.Challenge.rw_xm0030_01 = PySem.Challenge.rw_xm0030_01) : hd.heap_39 = hd.heap_39 ∧ PySem.Challenge.rw_xm0030_01 = PySem.Challenge.rw_xm0030_01 := by
  k_fill
  k_with_none
  -- into a def's body, and its end
  k_with "MINE ENTER" => (
    refine' calls_of ?k1 ?k2 ?k3 ?k4 (by decide) ?_ ?c1 ?c2 ?c3 ?c4
    case k1 => k_is
    case k2 => k_is
    case k3 => exact fun _ => BindsTo.of_eq rfl
    case k4 => exact locs rfl
    case c1 => exact rfl
    case c2 => exact rfl
    case c3 => exact rfl
    case c4 => decide
    intro p loose mean mg mb dp un gd outer A₀ base g' L' s B' F' X' N' T' l1 hroom hunits
    (try dsimp only)
    (try k_lt l1)
    (try k_fold))
  k_with "MINE END" => ((iterate 8 (first | k_unfold | refine TurnJ.ret ?_ | dsimp only | skip)); (try dsimp only [bodyVal]))
  -- the ledger's parting, and that its parts are apart
  k_with "MINE PART" => (first | with_unfolding_all exact (rfl : _ = [] ++ _) | with_unfolding_all exact (rfl : _ = [_] ++ _) | with_unfolding_all exact (rfl : _ = [_, _] ++ _) | with_unfolding_all exact (rfl : _ = [_, _, _] ++ _) | with_unfolding_all exact (rfl : _ = [_, _, _, _] ++ _) | with_unfolding_all exact (rfl : _ = [_, _, _, _, _] ++ _) | with_unfolding_all exact (rfl : _ = [_, _, _, _, _, _] ++ _))
  k_with "MINE OFF" => (first | exact List.forall_mem_nil _ | exact off7 (by assumption) | (refine List.forall_mem_cons.mpr ⟨by ((try dsimp only [W7]); k_all), ?_⟩; walk_at "MINE OFF"))
  k_with "execs cons" => (k_here; (first | k_fold | ((have hmk9 := (by assumption : LightMark)); clear hmk9; refine wpAny_execs_cons ?_)))
  k_with "exec If" => (k_here; k_fold)
  k_with "execs nil" => (refine wpAny_execs_nil ?_)
  -- a call by its contract: the premises but the contract's own
  k_with "call ref" => (k_here; (with_reducible show wpAny _ _ (call (Value.ref 42) _) _ _ _); refine calls_pure (check_name_ok _ _) (by k_asm) (by k_asm) (by k_asm) (by k_asm) (by k_asm) (by first | exact rfl | assumption) (by ktr_room) (by ktr_units) ?_; intro v' n' h' tk' hr' F' N'; obtain ⟨hv', hn'⟩ := hr'; subst hv'; subst hn'; (try simp only [List.append_nil] at N'); (try dsimp only); (try k_fold))
  k_with "call ref" => (k_here; (with_reducible show wpAny _ _ (call (Value.ref 96) _) _ _ _); refine calls_pure (record_told_ok _ _ _ _ (by omega) (by omega)) (by k_asm) (by k_asm) (by k_asm) (by k_asm) (by k_asm) (by first | exact rfl | assumption) (by ktr_room) (by ktr_units) ?_; intro v' n' h' tk' hr' F' N'; obtain ⟨hv', hn'⟩ := hr'; subst hv'; subst hn'; (try simp only [List.append_nil] at N'); (try dsimp only); (try k_fold))
  k_with "call ref" => (k_here; (with_reducible show wpAny _ _ (call (Value.ref 82) _) _ _ _); refine calls_pure (placed_ok _ _) (by k_asm) (by k_asm) (by k_asm) (by k_asm) (by k_asm) (by first | exact rfl | assumption) (by ktr_room) (by ktr_units) ?_; intro v' n' h' tk' hr' F' N'; obtain ⟨⟨t', hv'⟩, hn'⟩ := hr'; subst hv'; subst hn'; (try simp only [List.append_nil] at N'); (try dsimp only); (try k_fold))
  k_with "call ref" => (k_here; (with_reducible show wpAny _ _ (call (Value.ref 63) _) _ _ _); refine calls_split (channel_of_ok _ (by assumption) (by omega)) (by k_asm) (by k_asm) (by k_asm) (by k_asm) (by k_asm) (by first | exact rfl | assumption) (by ktr_room) (by ktr_units) (by walk_at "MINE PART") (by walk_at "MINE OFF") ?_; intro v' n' h' tk' hr' F' N'; obtain ⟨hv', hn'⟩ := hr'; subst hv'; subst hn'; (try simp only [W7, List.nil_append, List.cons_append] at N'); (try dsimp only); (try k_fold))
  k_with "call ref" => (k_here; (with_reducible show wpAny _ _ (call (Value.ref 103) _) _ _ _); refine calls_split (get_record_ok _ (by assumption) (by omega) (by omega)) (by k_asm) (by k_asm) (by k_asm) (by k_asm) (by k_asm) (by first | exact rfl | assumption) (by ktr_room) (by ktr_units) (by walk_at "MINE PART") (by walk_at "MINE OFF") ?_; intro v' n' h' tk' hr' F' N'; obtain ⟨hv', o', hn', H'⟩ := hr'; subst hv'; subst hn'; (try simp only [W7, List.nil_append, List.cons_append] at N'); (try dsimp only); (try k_fold))
  k_with "call ref" => (k_here; (with_reducible show wpAny _ _ (call (Value.ref 89) _) _ _ _); refine calls_split (set_placed_ok _ (by assumption)) (by k_asm) (by k_asm) (by k_asm) (by k_asm) (by k_asm) (by first | exact rfl | assumption) (by ktr_room) (by ktr_units) (by walk_at "MINE PART") (by walk_at "MINE OFF") ?_; intro v' n' h' tk' hr' F' N'; obtain ⟨hv', o', hn', H'⟩ := hr'; subst hv'; subst hn'; (try simp only [W7, List.nil_append, List.cons_append] at N'); (try dsimp only); (try k_fold))
  k_with "call ref" => (k_here; (with_reducible show wpAny _ _ (call (Value.ref 110) _) _ _ _); refine calls_split (put_record_ok _ (by assumption) (by omega) (by omega) (by omega)) (by k_asm) (by k_asm) (by k_asm) (by k_asm) (by k_asm) (by first | exact rfl | assumption) (by ktr_room) (by ktr_units) (by walk_at "MINE PART") (by walk_at "MINE OFF") ?_; intro v' n' h' tk' hr' F' N'; obtain ⟨hv', o1', o2', hn', H'⟩ := hr'; subst hv'; subst hn'; (try simp only [W7, List.nil_append, List.cons_append] at N'); (try dsimp only); (try k_fold))
  k_with "call ref" => (k_here; (with_reducible show wpAny _ _ (call (Value.ref 75) _) _ _ _); refine calls_split (field_text_ok _ (by assumption)) (by k_asm) (by k_asm) (by k_asm) (by k_asm) (by k_asm) (by first | exact rfl | assumption) (by ktr_room) (by ktr_units) (by walk_at "MINE PART") (by walk_at "MINE OFF") ?_; intro v' n' h' tk' hr' F' N'; obtain ⟨⟨t', hv'⟩, hn'⟩ := hr'; subst hv'; subst hn'; (try simp only [W7, List.nil_append, List.cons_append] at N'); (try dsimp only); (try k_fold))
  k_with "call ref" => (k_here; (with_reducible show wpAny _ _ (call (Value.ref 146) _) _ _ _); refine calls_split (law_sign_ok _ (by assumption) (by omega) (by omega)) (by k_asm) (by k_asm) (by k_asm) (by k_asm) (by k_asm) (by first | exact rfl | assumption) (by ktr_room) (by ktr_units) (by walk_at "MINE PART") (by walk_at "MINE OFF") ?_; intro v' n' h' tk' hr' F' N'; obtain ⟨⟨t', hv'⟩, o', hn', H'⟩ := hr'; subst hv'; subst hn'; (try simp only [W7, List.nil_append, List.cons_append] at N'); (try dsimp only); (try k_fold))
  k_with "call ref" => (k_here; (with_reducible show wpAny _ _ (call (Value.ref 153) _) _ _ _); refine calls_split (law_keep_ok _ (by assumption) (by omega) (by omega) (by omega)) (by k_asm) (by k_asm) (by k_asm) (by k_asm) (by k_asm) (by first | exact rfl | assumption) (by ktr_room) (by ktr_units) (by walk_at "MINE PART") (by walk_at "MINE OFF") ?_; intro v' n' h' tk' hr' F' N'; obtain ⟨hv', o1', o2', hn', H'⟩ := hr'; (first | have hl' := put_len5 H' (by assumption) (by omega) (by omega) | have hl' := put_lenM H' (by omega) (by omega)); subst hv'; subst hn'; (try simp only [W7, List.nil_append, List.cons_append] at N'); (try dsimp only); (try k_fold))
  k_with "call ref" => (k_here; (with_reducible show wpAny _ _ (call (Value.ref 153) [_, _, Value.str (Str.ofString "-") _]) _ _ _); refine calls_split (law_keep_dash _ (by assumption) (by omega) (by omega) (by omega)) (by k_asm) (by k_asm) (by k_asm) (by k_asm) (by k_asm) (by first | exact rfl | assumption) (by ktr_room) (by ktr_units) (by walk_at "MINE PART") (by walk_at "MINE OFF") ?_; intro v' n' h' tk' hr' F' N'; obtain ⟨hv', o1', o2', hn', H'⟩ := hr'; (first | have hl' := put_len5 H' (by assumption) (by omega) (by omega) | have hl' := put_lenM H' (by omega) (by omega)); subst hv'; subst hn'; (try simp only [W7, List.nil_append, List.cons_append] at N'); (try dsimp only); (try k_fold))
  k_with "call ref" => (k_here; (with_reducible show wpAny _ _ (call (Value.ref 160) _) _ _ _); refine calls_split (law_spot_ok _ (by assumption) (by assumption)) (by k_asm) (by k_asm) (by k_asm) (by k_asm) (by k_asm) (by first | exact rfl | assumption) (by ktr_room) (by ktr_units) (by walk_at "MINE PART") (by walk_at "MINE OFF") ?_; intro v' n' h' tk' hr' F' N'; obtain ⟨⟨t', hv'⟩, o', b', r', hn', H', hs1', hs2'⟩ := hr'; subst hv'; subst hn'; (try simp only [W7, List.nil_append, List.cons_append] at N'); (try dsimp only); (try k_fold))
  -- loops: an empty dict; a word of the theorem's own
  k_with "pyIter ref" => (k_here; (with_reducible show wpAny _ _ (pyIter (Value.ref _)) (fun it s₂ => LoopAtV _ _ _ _ _ _ _ _ _ it s₂) _ _); refine iter_empty (knd := PySem.intKind _ _) (by rfl) (by k_asm) (by k_asm) (by k_mem) (by k_asm) (by k_asm) ?_; intro h' tk' F' N'; (try dsimp only); (try k_fold))
  k_with "pyIter ref" => (k_here; k_extra "MINE LOOP")
  -- an attribute of an object whose dict is known by its words alone
  k_with "getAttr ref" => (k_here; refine' get_own ?k1 ?k2 ?k3 ?k4 ?k5 ?k6 ?k7 ?k8 ?k9 ?_; (case k1 => k_asm); (case k2 => k_asm); (case k3 => k_inst); (case k4 => k_is); (case k5 => k_is); (case k6 => k_is); (case k7 => k_is); (case k8 => k_asm); (case k9 => k_handed); k_whole)
  -- the text's comprehension
  k_with "eval ListComp" => (k_here; (with_reducible show wpAny _ _ (eval (Expr.ListComp _ [⟨Expr.Name _ _, _, [_], _⟩] _ _) _) _ _ _); refine ListComp_textT (F₀ := by k_asm) (by with_unfolding_all rfl) (by decide) (by rfl) (by decide) (by rfl) ?_)
  k_with "SrcText" => (k_here; refine SrcText.intro (n := 4) (by rfl) (by k_asm) (by k_asm) ring_ascii ring_sz (by size_fits) ?_; intro g')
  k_with "CompRestT" => (with_unfolding_all first
    | (refine LCt.CompRestT.succ ?_; intro v' I' oI' C' oC' D' m' h' tk' E' hv' hC' hx' F' N' off' ne'; obtain ⟨c', u', e', hlo', hhi'⟩ := ring_open hv'; subst e'; clear hv')
    | refine LCt.CompRestT.zero ?_)
  k_with "compareOp NotEq ref ref" => (k_here; refine ne_strsC (xs := []) (ys := []) (vs := []) (us := []) (isList_news (by k_asm) (by k_mem)) .nil (isList_news (by k_asm) (by k_mem)) .nil (fun _ h => nomatch h) (fun _ h => nomatch h) (by ktr_units) ?_)
  -- the pairs' comprehensions
  k_with "eval ListComp" => (k_here; (with_reducible show wpAny _ _ (eval (Expr.ListComp _ [⟨Expr.Tuple _ _ _, _, [_], _⟩] _ _) _) _ _ _); refine ListComp_pairNo (by rfl) (by with_unfolding_all rfl) (by decide) (by rfl) (by decide) (by rfl) (by rfl) (by decide) ?_)
  k_with "PairNo" => (k_here; refine pairNo_lt rfl (fun _ => rfl) (fun _ => rfl) (by decide) (News.isList (by k_asm) (by k_mem)) (News.isTup (by k_asm) (by k_mem)) (by k_asm) (by k_asm) (by decide) ?_; intro D' h' tk' F' N' l1; (try k_lt l1))
  k_with "eval ListComp" => (k_here; lcp_look; refine LCp.ListComp_P (F₀ := by k_asm) (by with_unfolding_all rfl) (by decide) (by rfl) (by decide) (by rfl) (by rfl) (by decide) ?_)
  k_with "CompRestP" => (with_unfolding_all first
    | (refine LCp.CompRestP.succ ?_; intro v' hv'; lcg_open hv'; refine ⟨_, _, _, _, _, rfl, by k_mem, rfl, rfl, ?_⟩; intro I' oI' C' oC' D' m' h' tk' E' hC' hx' hy' F' N' off' ne')
    | refine LCp.CompRestP.zero ?_)
  k_with "CompEnd" => (k_here; refine LCg.CompEnd.intro (by k_asm) (by k_asm) _ (fun _ h => h) (by assumption) (by lcg_src) ?_)
  k_with "MINE CLEAR" => (
    repeat (with_reducible rename And _ _ => z9; clear z9)
    repeat (with_reducible rename FlatPairs _ _ _ => z9; clear z9)
    repeat (with_reducible rename Obj.IsDictOf _ _ _ => z9; clear z9)
    repeat (with_reducible rename FileOk _ _ _ => z9; clear z9)
    repeat (with_reducible rename OpenOk _ _ _ => z9; clear z9)
    repeat (with_reducible rename FieldsOk _ _ _ => z9; clear z9)
    repeat (with_reducible rename @LT.lt Nat _ _ _ => z9; clear z9)
    repeat (with_reducible rename IsRange _ _ _ _ _ _ _ _ => z9; clear z9)
    repeat (with_reducible rename (_ == _) = false => z9; clear z9)
    repeat (with_reducible rename Glob _ _ _ _ _ _ _ _ => z9; clear z9)
    repeat (with_reducible rename BMod _ _ _ _ _ => z9; clear z9)
    repeat (with_reducible rename ReadsAll _ _ _ _ => z9; clear z9)
    repeat (with_reducible rename Heap.IsList _ _ _ => z9; clear z9))
  exact ⟨rfl, rfl⟩

set_option maxHeartbeats 12000000 in
theorem lawGo : PySem.Challenge.rw_xm0030_01.Holds := hd (by
  w_strict (
    k_with "call ref" => (
      k_here
      (with_reducible show wpAny _ _ (call (Value.ref 49) _) _ _ _)
      (with_reducible rename News _ _ _ _ => N9)
      have N10 := news_pick [5, 16, 17, 18, 1, 7, 6, 14, 15] N9
      simp only [pickL, nthL, List.cons_append, List.nil_append] at N10
      refine' calls_split (open_file_ok _ ?q1 ?q2 ?q3 ?q4 ?q5 ?q6 ?q7 ?q8 ?q9 ?qa ?qb ?qc) ?r1 ?r2 ?r3 N10 ?r4 ?r5 ?r6 ?r7 ?r8 ?r9 ?_
      (case r8 => walk_at "MINE PART")
      (case q1 => rfl)
      (case q2 => rfl)
      (case q3 => omega)
      (case q4 => omega)
      (case q5 => omega)
      (case q6 => omega)
      (case q7 => k_asm)
      (case q8 => k_asm)
      (case q9 => k_asm)
      (case qa => k_asm)
      (case qb => k_asm)
      (case qc => k_asm)
      (case r1 => k_asm)
      (case r2 => k_asm)
      (case r3 => k_asm)
      (case r4 => k_asm)
      (case r5 => first | exact rfl | assumption)
      (case r6 => ktr_room)
      (case r7 => ktr_units)
      (case r9 => walk_at "MINE OFF")
      clear N9 N10
      intro v' n' h' tk' hr' F' N'
      obtain ⟨hv', md0, omd0, ofd0, ood0, hn', lm, sm, HF, HO, HM⟩ := hr'
      subst hv'
      subst hn'
      (try simp only [List.nil_append, List.cons_append] at N')
      (try dsimp only)
      (try k_fold))
    k_with "call ref" => (
      k_here
      (with_reducible show wpAny _ _ (call (Value.ref 68) _) _ _ _)
      (with_reducible rename News _ _ _ _ => N9)
      have N10 := news_pick [3, 4, 5, 7, 0, 1, 6, 8, 9, 2, 10, 11] N9
      simp only [pickL, nthL, List.cons_append, List.nil_append] at N10
      obtain ⟨kv, hM, fM⟩ := HM
      refine' calls_split (set_fields_ok _ ?q1 ?q2 ?q3 ?q4 ?q5 ?q6 ?q7 ?q8 ?q9 ?qa ?qb ?qc HO ?qd ?qe hM fM) ?r1 ?r2 ?r3 N10 ?r4 ?r5 ?r6 ?r7 ?r8 ?r9 ?_
      (case r8 => walk_at "MINE PART")
      (case q1 => rfl)
      (case q2 => rfl)
      (case q3 => omega)
      (case q4 => omega)
      (case q5 => omega)
      (case q6 => omega)
      (case q7 => omega)
      (case q8 => omega)
      (case q9 => omega)
      (case qa => k_asm)
      (case qb => k_asm)
      (case qc => k_asm)
      (case qd => k_asm)
      (case qe => k_asm)
      (case r1 => k_asm)
      (case r2 => k_asm)
      (case r3 => k_asm)
      (case r4 => k_asm)
      (case r5 => first | exact rfl | assumption)
      (case r6 => ktr_room)
      (case r7 => ktr_units)
      (case r9 => walk_at "MINE OFF")
      clear N9 N10
      intro v' n' h' tk' hr' F' N'
      obtain ⟨hv', tp0, old0, ta0, tb0, tc0, hn', ltp, HL⟩ := hr'
      subst hv'
      subst hn'
      (try simp only [List.nil_append, List.cons_append] at N')
      have HRW := RW.start N' (by rfl) (by rfl) (by rfl) (by omega) (by omega) (by omega) (by omega) (by omega) (by omega) (by k_asm) (by k_asm) (by k_asm) (by k_asm) HF HO HL hM fM
      (try dsimp only)
      (try k_fold))
    k_with "pyIter ref" => (
      k_here
      (with_reducible rename RW _ _ _ _ _ _ _ _ _ _ _ _ _ [] _ _ => H9)
      k_dflt ((focus (
      (with_reducible rename News _ _ _ _ => N9)
      (with_reducible rename Fr _ _ _ _ => F9)
      (with_reducible rename World => w0)
      (with_reducible rename Shared => s1)
      obtain ⟨news9, N8, J9⟩ := AllJ.start H9 F9 N9 (by rfl) (by rfl) (by rfl) (by assumption) (by assumption) (Sep.start (by omega) (by omega) (by omega) H9.h1 H9.h2 H9.h3 H9.h4 H9.h5 H9.h6 (by omega) (by omega) (by omega))
      refine iter_rangeJ (n := 5) (fun iz => AllJ w0 (s1.heap.objs.size + 1) (fun csz rz jz => csz = [] ∧ rz = List.replicate iz 45 ∧ jz = 0)) (by rfl) (by k_asm) (by decide) (by rfl) F9 N8 J9 (fun iz tiz m₁z news₁z Iz h1z tk1z oIz hiz hJz offz ltz F1z N1z => ?_) (fun m₁z news₁z h1z tk1z hJz F1z N1z => ?_)
      all_goals (
        (try replace hiz := Nat.succ_le_of_lt hiz)
        clear N8 J9 F9 N9 H9
        obtain ⟨esz, nz, wxz, wdz, fdz, odz, ldz, mdz, tpz, ofdz, oodz, oldz, omdz, taz, tbz, tcz, blz, clz, slz, hlz, usz, nsz, nuz, vsz, nvz, csz, coz, cvz, jz, tz, nbz, rz, bz, recz, e1, e2, e3, hKz, hIuz, h15z, hvz, Sz, hcz, Hz, ⟨hP1, hP2, hP3⟩, hn⟩ := hJz
        subst hn
        subst hP1
        subst hP2
        subst hP3
        rw [map_known e1, map_known e2, map_known e3] at F1z
        clear e1 e2 e3
        walk_at "MINE CLEAR")
      · have hoffz : ∀ a ∈ [hlz, clz, blz, slz, mdz, fdz, odz, ldz, tpz, wxz, wdz], a ≠ Iz := addr_of offz
        have hoIz : ∀ a ∈ [Iz], ∀ b ∈ [mdz, fdz, odz, ldz, tpz, wxz, wdz], b ≠ a := fun a ha b hb => by
          rw [List.mem_singleton.mp ha]
          exact hoffz b (List.mem_append_right [hlz, clz, blz, slz] hb)
        (try dsimp only)
        (try k_fold)
        k_with "call ref" => (
          k_here
          (with_reducible show wpAny _ _ (call (Value.ref 153) _) _ _ _)
          (
          (with_reducible rename News _ _ _ _ => N9)
          (with_reducible rename Fr _ _ _ _ => F9)
          refine' calls_use (rest := [(Iz, oIz), (hlz, PySem.W.listOf vsz.toArray nvz), (clz, coz), (blz, PySem.W.listOf #[.ref slz, .int 0 tz] nbz), (slz, PySem.W.listOf usz.toArray nuz)]) (law_keep_dash _ Hz ?a1 ?a2 ?a3) ?b1 F9 ?b2 N9 ?b3 ?b4 ?b5 ?b6 ?b7 ?b8 ?b9 ?_
          (case a1 => omega)
          (case a2 => omega)
          (case a3 => rw [rep_len]; omega)
          (case b1 => k_asm)
          (case b2 => k_asm)
          (case b3 => k_asm)
          (case b4 => first | exact rfl | assumption)
          (case b5 => ktr_room)
          (case b6 => ktr_units)
          (case b7 => lcg_sub)
          (case b8 => lcg_sub)
          (case b9 => exact off_of (off_app (as := [Iz]) hoIz Sz.keep))
          intro v' nz' h' tk' hr' F' N'
          obtain ⟨hvz', o1', o2', hn', Hz'⟩ := hr'
          subst hvz'
          subst hn'
          clear N9 F9
          (try simp only [W7, List.nil_append, List.cons_append] at N')
          (try dsimp only)
          (try k_fold)))
        repeat' (first | (k_unfold; (try dsimp only)) | walk1 | (dsimp only; walk1))
        walk_at "MINE END"
        (with_reducible rename RW _ _ _ _ _ _ _ _ _ _ _ _ _ _ _ _ => H9)
        exact TurnJ.next (by k_asm) (by k_asm) (AllJ.mk (t := tz) (nb := nbz) (nu := nuz) (nv := nvz) (n := nz) (ta := taz) (tb := tbz) (tc := tcz) H9 Sz (by rfl) (by rfl) (by rfl) hIuz h15z hvz hcz ⟨rfl, putAt_rep _, rfl⟩ hKz) (by lcg_sub) (all_of hoffz)
      · (try dsimp only)
        (try k_fold)
        k_with "call ref" => (
          k_here
          (with_reducible show wpAny _ _ (call (Value.ref 139) _) _ _ _)
          (
          (with_reducible rename News _ _ _ _ => N9)
          (with_reducible rename Fr _ _ _ _ => F9)
          refine' calls_use (rest := (hlz, PySem.W.listOf vsz.toArray nvz) :: (clz, coz) :: W7 esz nz wxz wdz fdz odz ldz mdz tpz ofdz oodz oldz omdz taz tbz tcz) (law_later_ok (k := 0) _ hIuz h15z (by omega : 0 ≤ 15) Sz.c2 ?a1 ?a2) ?b1 F9 ?b2 N9 ?b3 ?b4 ?b5 ?b6 ?b7 ?b8 ?b9 ?_
          (case a1 => decide)
          (case a2 => decide)
          (case b1 => k_asm)
          (case b2 => k_asm)
          (case b3 => k_asm)
          (case b4 => first | exact rfl | assumption)
          (case b5 => ktr_room)
          (case b6 => ktr_units)
          (case b7 => lcg_sub)
          (case b8 => lcg_sub)
          (case b9 => exact off_of Sz.later)
          intro v' nz' h' tk' hr' F' N'
          obtain ⟨⟨x, tx, hvz', hx0, hx1⟩, tz', hn'⟩ := hr'
          subst hvz'
          subst hn'
          clear N9 F9
          (try simp only [W7, List.nil_append, List.cons_append] at N')
          (try dsimp only)
          (try k_fold))
          )
        k_with "pyIter ref" => (
          k_here
          k_dflt ((
          refine' iter_rangeJ (n := (5 + x - 0).toNat) (fun i => AllJ w0 (s1.heap.objs.size + 1) (fun cs r j => HeldOk cs ∧ r = (laid cs).1 ∧ j ≤ 2 * i + 1)) ?a1 ?a2 ?a3 ?a4 ?a6 ?a5 ?hj (fun i ti m₁ news₁ I h1 tk1 oI hi hJ off lt F1 N1 => ?_) (fun m₁ news₁ h1 tk1 hJ F1 N1 => ?_)
          (case a1 => exact rfl)
          (case a2 => k_asm)
          (case a3 => exact range_small hx0 hx1)
          (case a4 => exact rangeSize_nat _ _)
          (case a6 => k_asm)
          (case hj => exact (AllJ.mk (j := 0 + 1) (t := tz') (nb := nbz) (nu := nuz) (nv := nvz) (n := nz) (ta := taz) (tb := tbz) (tc := tcz) Hz Sz (by rfl) (by rfl) (by rfl) hIuz h15z hvz hcz ⟨HeldOk.nil, rfl, by omega⟩ hKz))
          (case a5 => refine' news_sub ?n1 ?n2; (case n1 => assumption); (case n2 => lcg_sub))))
          k_dflt ((focus (
            have hi7 : i + 1 ≤ 7 := by omega
            clear hi
            obtain ⟨es, n, wx, wd, fd, od, ld, md, tp, ofd, ood, old, omd, ta, tb, tc, bl, cl, sl, hl, us, ns, nu, vs, nv, cs, co, cv, j, t, nb, r, b, rec, e1, e2, e3, hK, hIu, h15, hv, S, hc, H, ⟨hP1, hP2, hP3⟩, hn⟩ := hJ
            subst hn
            subst hP2
            subst hK
            rw [map_known e1, map_known e2, map_known e3] at F1
            clear e1 e2 e3
            have hoff : ∀ a ∈ [hl, (s1.heap.objs.size + 1), bl, sl, md, fd, od, ld, tp, wx, wd], a ≠ I := addr_of off
            walk_at "MINE CLEAR"
            (try dsimp only)
            (try k_fold)
            k_with "call ref" => (
              k_here
              (with_reducible show wpAny _ _ (call (Value.ref 139) _) _ _ _)
              (
              (with_reducible rename News _ _ _ _ => N9)
              (with_reducible rename Fr _ _ _ _ => F9)
              refine' calls_use (rest := (I, oI) :: (hl, PySem.W.listOf vs.toArray nv) :: (s1.heap.objs.size + 1, co) :: W7 es n wx wd fd od ld md tp ofd ood old omd ta tb tc) (law_later_ok (k := 0) (j := j) _ hIu h15 ?a0 S.c2 ?a1 ?a2) ?b1 F9 ?b2 ?b0 ?b3 ?b4 ?b5 ?b6 ?b7 ?b8 ?b9 ?_
              (case b0 => exact N9)
              (case a0 => omega)
              (case a1 => decide)
              (case a2 => decide)
              (case b1 => k_asm)
              (case b2 => k_asm)
              (case b3 => k_asm)
              (case b4 => first | exact rfl | assumption)
              (case b5 => ktr_room)
              (case b6 => ktr_units)
              (case b7 => lcg_sub)
              (case b8 => lcg_sub)
              (case b9 => exact off_of (off_app (as := [I]) hoI2 S.later))
              intro v' n' h' tk' hr' F' N'
              obtain ⟨⟨xf, txf, hv', hf0, hf1⟩, tq, hn'⟩ := hr'
              subst hv'
              subst hn'
              clear N9 F9
              (try simp only [W7, List.nil_append, List.cons_append] at N')
              (try dsimp only)
              (try k_fold)))
            k_with "call ref" => (
              k_here
              (with_reducible show wpAny _ _ (call (Value.ref 139) _) _ _ _)
              (
              (with_reducible rename News _ _ _ _ => N9)
              (with_reducible rename Fr _ _ _ _ => F9)
              refine' calls_use (rest := (I, oI) :: (hl, PySem.W.listOf vs.toArray nv) :: (s1.heap.objs.size + 1, co) :: W7 es n wx wd fd od ld md tp ofd ood old omd ta tb tc) (law_later_ok (k := 0) (j := j + 1) _ hIu h15 ?a0 S.c2 ?a1 ?a2) ?b1 F9 ?b2 ?b0 ?b3 ?b4 ?b5 ?b6 ?b7 ?b8 ?b9 ?_
              (case b0 => exact N9)
              (case a0 => omega)
              (case a1 => decide)
              (case a2 => decide)
              (case b1 => k_asm)
              (case b2 => k_asm)
              (case b3 => k_asm)
              (case b4 => first | exact rfl | assumption)
              (case b5 => ktr_room)
              (case b6 => ktr_units)
              (case b7 => lcg_sub)
              (case b8 => lcg_sub)
              (case b9 => exact off_of (off_app (as := [I]) hoI2 S.later))
              intro v' n' h' tk' hr' F' N'
              obtain ⟨⟨xw, txw, hv', hw0, hw1⟩, tr, hn'⟩ := hr'
              subst hv'
              subst hn'
              clear N9 F9
              (try simp only [W7, List.nil_append, List.cons_append] at N')
              (try dsimp only)
              (try k_fold)))
            have hoI2 : ∀ a ∈ [I], ∀ b ∈ [bl, sl], b ≠ a := fun a ha b hb => by
              rw [List.mem_singleton.mp ha]
              exact hoff b (List.mem_append_left [md, fd, od, ld, tp, wx, wd] (List.mem_append_right [hl, (s1.heap.objs.size + 1)] hb))
            k_with "storeName" => (
              k_here
              (with_reducible show wpAny _ _ (storeName _ _ (Value.str (Txt.item _ _) _)) _ _ _)
              k_dflt ((
                rw [item_abc]
                refine' store_cell (c := (s1.heap.objs.size + 1)) (o := co) (rest := (I, oI) :: (hl, PySem.W.listOf vs.toArray nv) :: (bl, PySem.W.listOf #[.ref sl, .int ((j + 1 + 1 : Nat) : Int) tr] nb) :: (sl, PySem.W.listOf us.toArray nu) :: W7 es n wx wd fd od ld md tp ofd ood old omd ta tb tc) ?s1 ?s2 ?s3 ?s4 ?s5 hc ?_
                (case s1 => k_asm)
                (case s2 => k_asm)
                (case s3 => rfl)
                (case s4 => lcg_sub)
                (case s5 => exact all_ne_cell S (hoff (s1.heap.objs.size + 1) (by simp)))
                clear hc
                intro h' co' F' N' hc
                have hab := abc_bounds xw
                generalize 65 + (Int.fmod xw 10).toNat = c at hc hab
                dsimp only
                (try k_fold)
                refine' execs_cut F' (IterJ I oI (AllJ w0 (s1.heap.objs.size + 1) (fun cs r j => HeldOk cs ∧ r = (laid cs).1 ∧ j ≤ 2 * (i + 1) + 1))) ?cutA ?cutB
                (case cutA =>
                  refine' if_join F' (Led3 I oI es n wx wd fd od ld md tp ofd ood old omd ta tb tc bl (s1.heap.objs.size + 1) sl hl us nu vs nv co' (j + 1 + 1) tr nb) (fun b => (b = true → c ∈ cs ∨ cs.length < 4) ∧ (b = false → cs ≠ [])) ?ifT ?ifY ?ifN
                  (case ifT =>
                    skip
                    k_with "compareOp Eq ref ref" => (
                      k_here
                      k_dflt ((
                        refine eq_strsC (xs := signsOf cs) (ys := []) (News.isList (by k_asm) (by k_mem)) (StrsAre.carried hv) (News.isList (by k_asm) (by k_mem)) (StrsAre.carried .nil) (signs_ok cs fun d hd => ⟨by have := (hP1.lo d hd).1; omega, (hP1.lo d hd).2⟩) (fun _ h => nomatch h) (by ktr_units) ?_
                        (try dsimp only)
                        (try k_fold))))
                    k_with "call builtin:len" => (
                      k_here
                      k_dflt ((
                        refine len_strsA (News.isList (by k_asm) (by k_mem)) hv (by rw [List.length_map]; have := hP1.len; omega) ?_
                        (try rw [List.length_map])
                        (try dsimp only)
                        (try k_fold))))
                    repeat' (first | (k_unfold; (try dsimp only)) | walk1 | (dsimp only; walk1))
                    all_goals refine TestJ.mk (by k_asm) (by k_asm) (by lcg_sub) ?_
                    · exact ⟨fun _ => .inr (nil_yes (by assumption)), fun h => nomatch h⟩
                    · exact ⟨fun _ => .inr (by omega), fun h => nomatch h⟩
                    · exact ⟨fun _ => .inl (signs_any.mp (by assumption)), fun h => nomatch h⟩
                    · exact ⟨(fun h => nomatch h), fun _ => nil_no (by assumption)⟩
                    · exact ⟨(fun h => nomatch h), fun _ => nil_no (by assumption)⟩
                    )
                  (case ifY =>
                    intro h' tk' F' N' hcond
                    replace hcond := hcond.1 rfl
                    (try dsimp only)
                    (try k_fold)
                    k_with "call ref" => (
                      k_here
                      (with_reducible show wpAny _ _ (call (Value.ref 160) _) _ _ _)
                      k_dflt ((
                        refine' calls_use (rest := [(s1.heap.objs.size + 1, co'), (I, oI), (hl, PySem.W.listOf vs.toArray nv), (bl, PySem.W.listOf #[.ref sl, .int ((j + 1 + 1 : Nat) : Int) tr] nb), (sl, PySem.W.listOf us.toArray nu)]) (law_spot_ok _ H (laid_txt cs)) ?b1 ?b10 ?b2 ?b11 ?b3 ?b4 ?b5 ?b6 ?b7 ?b8 ?b9 ?_
                        (case b1 => k_asm)
                        (case b10 => k_asm)
                        (case b2 => k_asm)
                        (case b11 => k_asm)
                        (case b3 => k_asm)
                        (case b4 => first | exact rfl | assumption)
                        (case b5 => ktr_room)
                        (case b6 => ktr_units)
                        (case b7 => lcg_sub)
                        (case b8 => lcg_sub)
                        (case b9 => exact off_of (S.keep3 hoff))
                        intro v' n' h' tk' hr' F' N'
                        obtain ⟨⟨ts, hv'⟩, omd', b', rec', hn', H', hs1', hs2'⟩ := hr'
                        subst hv'
                        subst hn'
                        (try simp only [W7, List.nil_append, List.cons_append] at N')
                        (try dsimp only)
                        (try k_fold))))
                    k_with "call ref" => (
                      k_here
                      (with_reducible show wpAny _ _ (call (Value.ref 153) _) _ _ _)
                      k_dflt ((
                        refine' calls_use (rest := [(s1.heap.objs.size + 1, co'), (I, oI), (hl, PySem.W.listOf vs.toArray nv), (bl, PySem.W.listOf #[.ref sl, .int ((j + 1 + 1 : Nat) : Int) tr] nb), (sl, PySem.W.listOf us.toArray nu)]) (law_keep_ok _ H' hs1' hs2' (by rw [laid_txt]; omega)) ?b1 ?b10 ?b2 ?b11 ?b3 ?b4 ?b5 ?b6 ?b7 ?b8 ?b9 ?_
                        (case b1 => k_asm)
                        (case b10 => k_asm)
                        (case b2 => k_asm)
                        (case b11 => k_asm)
                        (case b3 => k_asm)
                        (case b4 => first | exact rfl | assumption)
                        (case b5 => ktr_room)
                        (case b6 => ktr_units)
                        (case b7 => lcg_sub)
                        (case b8 => lcg_sub)
                        (case b9 => exact off_of (S.keep3 hoff))
                        intro v' n' h' tk' hr' F' N'
                        obtain ⟨hv', ofd'', omd'', hn', H''⟩ := hr'
                        subst hv'
                        subst hn'
                        (try simp only [W7, List.nil_append, List.cons_append] at N')
                        (try dsimp only)
                        (try k_fold))))
                    k_with "binaryOp Add ref ref" => (
                      k_here
                      k_dflt ((
                        refine' add_sign (c := c) hv hP1.len ?zF ?zN ?zl ?zb ?_
                        (case zF => k_asm)
                        (case zN => k_asm)
                        (case zl => exact News.isList (by k_asm) (by k_mem))
                        (case zb => exact News.isList (by k_asm) (by k_mem))
                        intro D h' vs2 hv2 F' N' lD
                        have htD : tp < D := lD (tp, tupT ta tb tc) (by k_mem)
                        have hID : I < D := lD (I, oI) (by k_mem)
                        clear lD
                        (try dsimp only)
                        (try k_fold))))
                    repeat' (first | (k_unfold; (try dsimp only)) | walk1 | (dsimp only; walk1))
                    · refine' NextJ.mk ?zF ?zN ?zJ ?zs
                      (case zF => k_asm)
                      (case zN => k_asm)
                      (case zJ => exact ⟨_, rfl, all_of (as := Led es n wx wd fd od ld md tp _ _ _ _ ta tb tc bl (s1.heap.objs.size + 1) sl hl us nu vs nv co' (j + 1 + 1) tr nb) hoff, AllJ.mk (t := tr) (nb := nb) (nu := nu) (nv := nv) (n := n) (ta := ta) (tb := tb) (tc := tc) H'' S (by rfl) (by rfl) (by rfl) hIu h15 hv hc ⟨hP1, ins_old hP1 (signs_any.mp (by assumption)), by omega⟩ rfl⟩)
                      (case zs => lcg_sub)
                    · have hnew := any_no (by assumption)
                      refine' NextJ.mk ?zF ?zN ?zJ ?zs
                      (case zF => k_asm)
                      (case zN => k_asm)
                      (case zJ => exact ⟨_, rfl, all_of (as := Led es n wx wd fd od ld md tp _ _ _ _ ta tb tc bl (s1.heap.objs.size + 1) sl D us nu vs2 0 co' (j + 1 + 1) tr nb) (off_swap hoff hID), AllJ.mk (t := tr) (nb := nb) (nu := nu) (nv := 0) (n := n) (ta := ta) (tb := tb) (tc := tc) H'' (S.next (S.hi htD)) (by rfl) (by rfl) (by rfl) hIu h15 hv2 hc ⟨hP1.snoc hnew (hcond.resolve_left hnew) hab, ins_new hnew (by omega) (by omega), by omega⟩ rfl⟩)
                      (case zs => lcg_sub)
                    )
                  (case ifN =>
                    intro h' tk' F' N' hcond
                    replace hcond := hcond.2 rfl
                    (try dsimp only)
                    (try k_fold)
                    have hpos := pick_pos hcond
                    k_with "call builtin:len" => (
                      k_here
                      k_dflt ((
                        refine len_strsA (News.isList (by k_asm) (by k_mem)) hv (by rw [List.length_map]; have := hP1.len; omega) ?_
                        (try rw [List.length_map])
                        (try dsimp only)
                        (try k_fold))))
                    k_with "subscriptTail" => (
                      k_here
                      (with_reducible show wpAny _ _ (subscriptTail _ _ (Value.ref _) (Value.int _ _)) _ _ _)
                      k_dflt ((
                        refine item_signs (News.isList (by k_asm) (by k_mem)) hv (pick_lo hcond xw) (pick_hi hcond xw) (pick_fit hcond xw hP1.len) (fun ts => ?_)
                        have hin := pick_in hcond xw
                        generalize cs.getD (Int.fmod xw (cs.length : Int)).toNat 0 = d at hin
                        (try dsimp only)
                        (try k_fold))))
                    k_with "storeName" => (
                      k_here
                      (with_reducible show wpAny _ _ (storeName _ (Str.ofString "sign") _) _ _ _)
                      k_dflt ((
                        refine' store_cell (c := (s1.heap.objs.size + 1)) (o := co') (rest := (I, oI) :: (hl, PySem.W.listOf vs.toArray nv) :: (bl, PySem.W.listOf #[.ref sl, .int ((j + 1 + 1 : Nat) : Int) tr] nb) :: (sl, PySem.W.listOf us.toArray nu) :: W7 es n wx wd fd od ld md tp ofd ood old omd ta tb tc) ?s1 ?s2 ?s3 ?s4 ?s5 hc ?_
                        (case s1 => k_asm)
                        (case s2 => k_asm)
                        (case s3 => rfl)
                        (case s4 => lcg_sub)
                        (case s5 => exact all_ne_cell S (hoff (s1.heap.objs.size + 1) (by simp)))
                        clear hc
                        intro h' co2 F' N' hc
                        (try dsimp only)
                        (try k_fold))))
                    k_with "call ref" => (
                      k_here
                      (with_reducible show wpAny _ _ (call (Value.ref 167) _) _ _ _)
                      k_dflt ((
                        refine' calls_use (rest := [(s1.heap.objs.size + 1, co2), (I, oI), (hl, PySem.W.listOf vs.toArray nv), (bl, PySem.W.listOf #[.ref sl, .int ((j + 1 + 1 : Nat) : Int) tr] nb), (sl, PySem.W.listOf us.toArray nu)]) (law_take_out_ok _ H (laid_txt cs)) ?b1 ?b10 ?b2 ?b11 ?b3 ?b4 ?b5 ?b6 ?b7 ?b8 ?b9 ?_
                        (case b1 => k_asm)
                        (case b10 => k_asm)
                        (case b2 => k_asm)
                        (case b11 => k_asm)
                        (case b3 => k_asm)
                        (case b4 => first | exact rfl | assumption)
                        (case b5 => ktr_room)
                        (case b6 => ktr_units)
                        (case b7 => lcg_sub)
                        (case b8 => lcg_sub)
                        (case b9 => exact off_of (S.keep3 hoff))
                        intro v' n' h' tk' hr' F' N'
                        obtain ⟨hv', ofd'', omd'', b'', rec'', hn', H''⟩ := hr'
                        subst hv'
                        subst hn'
                        (try simp only [W7, List.nil_append, List.cons_append] at N')
                        rw [take_laid hP1 hin] at H''
                        (try dsimp only)
                        (try k_fold))))
                    k_with "exec Assign cons ListComp" => (
                      k_here
                      k_dflt ((
                        refine' assign_filter (cell := s1.heap.objs.size + 1) (c := d) (oc := co2) ?hh hv hP1.len ?zF ?zN ?zm ?zc hc ?it ?sw ?cl ?ce ?ki ?na ?hx ?hy ?hp ?cc ?hk ?xl ?sl ?dx ?ds ?hs ?_
                        (case hh => exact rfl)
                        (case zF => k_asm)
                        (case zN => k_asm)
                        (case zm => k_mem)
                        (case zc => k_mem)
                        (case it => exact fun Q' hq => nameX_L (by k_asm) (by rfl) hq)
                        (case sw => rfl)
                        (case cl => with_unfolding_all rfl)
                        (case ce => decide)
                        (case ki => rfl)
                        (case na => decide)
                        (case hx => rfl)
                        (case hy => rfl)
                        (case hp => rfl)
                        (case cc => rfl)
                        (case hk => exact fun _ => rfl)
                        (case xl => exact fun _ => rfl)
                        (case sl => exact fun _ => rfl)
                        (case dx => decide)
                        (case ds => decide)
                        (case hs => exact fun _ => rfl)
                        intro D h' tk' vs2 nv2 F' N' hnD hv2
                        (try dsimp only)
                        (try k_fold))))
                    repeat' (first | (k_unfold; (try dsimp only)) | walk1 | (dsimp only; walk1))
                    have hnI := ne_news hnD ((I, oI) :: (s1.heap.objs.size + 1, co2) :: (bl, PySem.W.listOf #[.ref sl, .int ((j + 1 + 1 : Nat) : Int) tr] nb) :: (sl, PySem.W.listOf us.toArray nu) :: W7 es n wx wd fd od ld md tp ofd'' ood old omd'' ta tb tc) (by lcg_sub)
                    refine' NextJ.mk ?zF ?zN ?zJ ?zs
                    (case zF => k_asm)
                    (case zN => k_asm)
                    (case zJ => exact ⟨_, rfl, all_of (as := Led es n wx wd fd od ld md tp _ _ _ _ ta tb tc bl (s1.heap.objs.size + 1) sl D us nu vs2 nv2 co2 (j + 1 + 1) tr nb) (off_swap' hoff (hnI I (.head _))), AllJ.mk (t := tr) (nb := nb) (nu := nu) (nv := nv2) (n := n) (ta := ta) (tb := tb) (tc := tc) H'' (S.next fun b hb => hnI b (.tail _ hb)) (by rfl) (by rfl) (by rfl) hIu h15 hv2 hc ⟨hP1.filter _, rfl, by omega⟩ rfl⟩)
                    (case zs => lcg_sub)
                    ))
                (case cutB =>
                  intro h3 tk3 m3 news3 F3 N3 hJR
                  obtain ⟨nw, hnw, offR, esR, nR, wxR, wdR, fdR, odR, ldR, mdR, tpR, ofdR, oodR, oldR, omdR, taR, tbR, tcR, blR, clR, slR, hlR, usR, nsR, nuR, vsR, nvR, csR, coR, cvR, jR, tR, nbR, rR, bR, recR, e1, e2, e3, hKR, hIuR, h15R, hvR, SR, hcR, HR, ⟨hQ1, hQ2, hQ3⟩, hnR⟩ := hJR
                  subst hnw
                  subst hnR
                  subst hQ2
                  subst hKR
                  rw [map_known e1, map_known e2, map_known e3] at F3
                  clear e1 e2 e3
                  have hoffR : ∀ a ∈ [hlR, s1.heap.objs.size + 1, blR, slR, mdR, fdR, odR, ldR, tpR, wxR, wdR], a ≠ I := addr_of offR
                  walk_at "MINE CLEAR"
                  have gFR := HR.gF
                  have l1R := HR.l1
                  obtain ⟨kFR, hFR, fFR⟩ := HR.file
                  (try dsimp only)
                  (try k_fold)
                  k_with "call ref" => (
                    k_here
                    (with_reducible show wpAny _ _ (call (Value.ref 174) _) _ _ _)
                    k_dflt ((
                      refine' calls_use (rest := (I, oI) :: (s1.heap.objs.size + 1, coR) :: (blR, PySem.W.listOf #[.ref slR, .int (jR : Nat) tR] nbR) :: (slR, PySem.W.listOf usR.toArray nuR) :: W7 esR nR wxR wdR fdR odR ldR mdR tpR ofdR oodR oldR omdR taR tbR tcR) (law_laid_ok _ hvR hQ1.len) ?b1 ?b10 ?b2 ?b11 ?b3 ?b4 ?b5 ?b6 ?b7 ?b8 ?b9 ?_
                      (case b1 => k_asm)
                      (case b10 => k_asm)
                      (case b2 => k_asm)
                      (case b11 => k_asm)
                      (case b3 => k_asm)
                      (case b4 => first | exact rfl | assumption)
                      (case b5 => ktr_room)
                      (case b6 => ktr_units)
                      (case b7 => lcg_sub)
                      (case b8 => lcg_sub)
                      (case b9 => exact off_of (off_app (as := [I]) (fun a ha b hb => by rw [List.mem_singleton.mp ha, List.mem_singleton.mp hb]; exact hoffR hlR (.head _)) SR.laid))
                      intro v' n' h' tk' hr' F' N'
                      obtain ⟨tpL, rl, vsl, nrl, tL, hv', hn', hvl⟩ := hr'
                      subst hv'
                      subst hn'
                      (try simp only [W7, List.nil_append, List.cons_append] at N')
                      (try dsimp only)
                      (try k_fold))))
                  k_with "call builtin:str.join" => (
                    k_here
                    k_dflt ((
                      refine join_list (News.isList (by k_asm) (by k_mem)) hvl (join_fits (laid_len _)) (fun tj kj => ?_)
                      rw [join_row (laid_len _)]
                      (try dsimp only)
                      (try k_fold))))
                  k_with "compareOp NotEq str str" => (
                    k_here
                    k_dflt ((
                      refine ne_self ?_
                      (try dsimp only)
                      (try k_fold))))
                  k_with "call builtin:sorted" => (
                    k_here
                    k_dflt ((
                      refine' sorted_signs hvR hQ1.len ?zF ?zN ?zm ?_
                      (case zF => k_asm)
                      (case zN => k_asm)
                      (case zm => k_mem)
                      intro o1 h' us1 ds1 ne1 F' N' l1 hvo1 hpo1
                      k_lt l1
                      (try dsimp only)
                      (try k_fold))))
                  k_with "call builtin:sorted" => (
                    k_here
                    (have hz9 := hvo1)
                    clear hz9
                    k_dflt ((
                      refine' sorted_signs hvR hQ1.len ?zF ?zN ?zm ?_
                      (case zF => k_asm)
                      (case zN => k_asm)
                      (case zm => k_mem)
                      intro o2 h' us2 ds2 ne2 F' N' l1 hvo2 hpo2
                      k_lt l1
                      (try dsimp only)
                      (try k_fold))))
                  k_with "subscriptTail" => (
                    k_here
                    (with_reducible show wpAny _ _ (subscriptTail _ (PySem.Expr.Slice none none (some _) _) (Value.ref _) (Value.ref _)) _ _ _)
                    k_dflt ((
                      refine kba_turn (value' := PySem.Expr.Name (PySem.Str.ofString "held") ⟨0, 0, 0, 0⟩) (fun _ => rfl) ?_
                      refine' krv_lit (its := us2.toArray) (zs := us2.reverse) ?zF ?zN ?zl (IsPart.int _ _) ?ze ?_ ?zs ?zt ?zz
                      (case zF => k_asm)
                      (case zN => k_asm)
                      (case zl => exact News.isList (by k_asm) (by k_mem))
                      (case ze => rfl)
                      (case zs => with_unfolding_all rfl)
                      (case zt => kmk_pure)
                      (case zz => exact rev_size hvo2 (hpo2.length_eq ▸ hQ1.len))
                      intro o3 h' F' N' l1
                      k_lt l1
                      have hvo3 := signs_reverse hvo2
                      have hpo3 := (List.reverse_perm ds2).trans hpo2
                      generalize us2.reverse = us3 at hvo3 N'
                      (try dsimp only)
                      (try k_fold))))
                  k_with "newTuple" => (
                    k_here
                    k_dflt ((
                      refine' kup_newTuple ?zF ?zN ?_ ?zz
                      (case zF => k_asm)
                      (case zN => k_asm)
                      (case zz => exact (by decide : 2 ≤ sizeLine))
                      intro tup h' F' N' l1
                      k_lt l1
                      (try dsimp only)
                      (try k_fold))))
                  k_with "exec For Name Tuple cons nil" => (
                    k_here
                    (with_reducible rename Fr _ _ _ _ => lF9)
                    k_dflt ((
                      refine' For_invVF lF9 ?k1 ?k2 ?_
                      (case k1 => exact rfl)
                      (case k2 => exact rfl)
                      (try dsimp only)
                      (try k_fold))))
                  k_with "pyIter ref" => (
                    k_here
                    (have hz9 := hvo3)
                    clear hz9
                    k_dflt ((
                      refine' iter_tupJ (vs := [.ref o1, .ref o3]) (nv := 0) (OrdJ blR wxR hlR rl (laid csR).2 tL ((tup, { cls := .type "tuple", data := .seq [Value.ref o1, Value.ref o3].toArray }) :: (o1, PySem.W.listOf us1.toArray ne1) :: (o3, PySem.W.listOf us3.toArray 0) :: (rl, PySem.W.listOf vsl.toArray nrl) :: Led2 I oI esR nR wxR wdR fdR odR ldR mdR tpR ofdR oodR oldR omdR taR tbR tcR blR (s1.heap.objs.size + 1) slR hlR usR nuR vsR nvR coR jR tR nbR)) ?hh ?hm ?zF ?zN ?hj (fun i2 v2 m2 news2 I2 h2 tk2 oI2 hi2 hJ2 off2 lt2 F2 N2 => ?_) (fun m2 news2 h2 tk2 hJ2 F2 N2 => ?_)
                      (case hh => exact rfl)
                      (case hm => rintro i m news ⟨_, _, _, _, _, rfl⟩; exact .head _)
                      (case zF => k_asm)
                      (case hj => exact ⟨rfl, rfl, rfl, rfl, rfl, rfl⟩)
                      (case zN => refine' news_sub ?n1 ?n2; (case n1 => assumption); (case n2 => lcg_sub))
                      all_goals (
                        obtain ⟨g1, g2, g3, g4, g5, hn2⟩ := hJ2
                        subst hn2
                        rw [map_known g1, map_known g2, map_known g3, map_known g4, map_known g5] at F2
                        clear g1 g2 g3 g4 g5
                        (try clear lt2)
                        walk_at "MINE CLEAR"
                        (try dsimp only)
                        (try k_fold))
                      focus (
                        obtain ⟨oa, usa, nea, dsa, hva0, hma, hva, hpa⟩ := two_orders (NL := [(o1, PySem.W.listOf us1.toArray ne1), (o3, PySem.W.listOf us3.toArray 0)]) hi2 (.head _) (.tail _ (.head _)) hvo1 hvo3 hpo1 hpo3
                        subst hva0
                        have lp := laid_perm hpa hQ1.len hQ1.ne45
                        k_with "call ref" => (
                          k_here
                          (with_reducible show wpAny _ _ (call (Value.ref 174) _) _ _ _)
                          k_dflt ((
                            refine' calls_read ((I2, oI2) :: (tup, { cls := .type "tuple", data := .seq [Value.ref o1, Value.ref o3].toArray }) :: (o1, PySem.W.listOf us1.toArray ne1) :: (o3, PySem.W.listOf us3.toArray 0) :: (rl, PySem.W.listOf vsl.toArray nrl) :: Led2 I oI esR nR wxR wdR fdR odR ldR mdR tpR ofdR oodR oldR omdR taR tbR tcR blR (s1.heap.objs.size + 1) slR hlR usR nuR vsR nvR coR jR tR nbR) (law_laid_ok (nv := nea) _ hva (hpa.length_eq ▸ hQ1.len)) ?b0 ?b1 ?b10 ?b2 ?b11 ?b3 ?b4 ?b5 ?b6 ?b7 ?b8 ?_
                            (case b0 => rintro v n' ⟨_, _, _, _, _, _, rfl, _⟩ p hp; exact .tail _ (.tail _ hp))
                            (case b1 => k_asm)
                            (case b10 => k_asm)
                            (case b2 => k_asm)
                            (case b11 => k_asm)
                            (case b3 => k_asm)
                            (case b4 => first | exact rfl | assumption)
                            (case b5 => ktr_room)
                            (case b6 => ktr_units)
                            (case b7 => lcg_sub)
                            (case b8 => refine' mem_one hma ?zs; lcg_sub)
                            intro v' n' h' tk' hr' F' N'
                            obtain ⟨tpO, rlO, vso, nro, tO, hv', hn', hvo⟩ := hr'
                            subst hv'
                            subst hn'
                            rw [lp.1] at N'
                            (try simp only [W7, List.nil_append, List.cons_append] at N')
                            (try dsimp only)
                            (try k_fold))))
                        k_with "eval ListComp" => (
                          k_here
                          (with_reducible show wpAny _ _ (eval (Expr.ListComp _ [⟨Expr.Name _ _, _, [], _⟩] _ _) _) _ _ _)
                          k_dflt ((
                            refine' dash_comp (l := rlO) (vs := vso) (nv := nro) ?hh ?hv ?h5 ?zF ?zN ?zm ?it ?cl ?ce ?ki ?na ?hx ?hk ?xl ?dx ?hs ?_
                            (case it => exact fun Q' hq => nameX_L (by k_asm) (by rfl) hq)
                            (case hh => exact rfl)
                            (case zF => k_asm)
                            (case zN => k_asm)
                            (case zm => k_mem)
                            (case hv => exact hvo)
                            (case h5 => exact Nat.le_of_eq (laid_len _))
                            (case cl => with_unfolding_all rfl)
                            (case ce => decide)
                            (case ki => rfl)
                            (case na => decide)
                            (case hx => rfl)
                            (case hk => exact fun _ => rfl)
                            (case xl => exact fun _ => rfl)
                            (case dx => decide)
                            (case hs => exact fun _ => rfl)
                            intro D h' tk' usd ned F' N' hnD hcar
                            (try rw [lp.2] at hcar)
                            (try dsimp only)
                            (try k_fold))))
                        k_with "eval ListComp" => (
                          k_here
                          (with_reducible show wpAny _ _ (eval (Expr.ListComp _ [⟨Expr.Name _ _, _, [], _⟩] _ _) _) _ _ _)
                          k_dflt ((
                            refine' dash_comp (l := rl) (vs := vsl) (nv := nrl) ?hh ?hv ?h5 ?zF ?zN ?zm ?it ?cl ?ce ?ki ?na ?hx ?hk ?xl ?dx ?hs ?_
                            (case it => exact fun Q' hq => nameX_L (by k_asm) (by rfl) hq)
                            (case hh => exact rfl)
                            (case zF => k_asm)
                            (case zN => k_asm)
                            (case zm => k_mem)
                            (case hv => exact hvl)
                            (case h5 => exact Nat.le_of_eq (laid_len _))
                            (case cl => with_unfolding_all rfl)
                            (case ce => decide)
                            (case ki => rfl)
                            (case na => decide)
                            (case hx => rfl)
                            (case hk => exact fun _ => rfl)
                            (case xl => exact fun _ => rfl)
                            (case dx => decide)
                            (case hs => exact fun _ => rfl)
                            intro D h' tk' usd ned F' N' hnD hcar
                            (try rw [lp.2] at hcar)
                            (try dsimp only)
                            (try k_fold))))
                        k_with "compareOp NotEq int int" => (
                          k_here
                          k_dflt ((
                            refine ne_int_self ?_
                            (try dsimp only)
                            (try k_fold))))
                        k_with "compareOp NotEq ref ref" => (
                          k_here
                          k_dflt ((
                            refine' ne_bools_same (xs := freeOf (laid csR).1) ?l1 ?c1 ?l2 ?c2 ?u ?_
                            (case l1 => exact News.isList (by k_asm) (by k_mem))
                            (case l2 => exact News.isList (by k_asm) (by k_mem))
                            (case c1 => assumption)
                            (case c2 => assumption)
                            (case u => ktr_units)
                            (try dsimp only)
                            (try k_fold))))
                        repeat' (first | (k_unfold; (try dsimp only)) | walk1 | (dsimp only; walk1))
                        walk_at "MINE END"
                        exact TurnJ.next (by k_asm) (by k_asm) ⟨rfl, rfl, rfl, rfl, rfl, rfl⟩ (by lcg_sub) off2
                        )
                      repeat' (first | (k_unfold; (try dsimp only)) | walk1 | (dsimp only; walk1))
                      walk_at "MINE END"
                      exact TurnJ.next (by k_asm) (by k_asm) (AllJ.mk (t := tR) (nb := nbR) (nu := nuR) (nv := nvR) (n := nR) (ta := taR) (tb := tbR) (tc := tcR) HR SR (by rfl) (by rfl) (by rfl) hIuR h15R hvR hcR ⟨hQ1, rfl, hQ3⟩ rfl) (by lcg_sub) (all_of (as := Led esR nR wxR wdR fdR odR ldR mdR tpR ofdR oodR oldR omdR taR tbR tcR blR (s1.heap.objs.size + 1) slR hlR usR nuR vsR nvR coR jR tR nbR) hoffR)
                      )))
                  repeat' (first | (k_unfold; (try dsimp only)) | walk1 | (dsimp only; walk1))
                  ))))
            repeat' (first | (k_unfold; (try dsimp only)) | walk1 | (dsimp only; walk1))
            )))
          k_dflt ((skip; (try dsimp only); (try k_fold))))
        repeat' (first | (k_unfold; (try dsimp only)) | walk1 | (dsimp only; walk1))
        walk_at "MINE END"
        k_steps
      ))))
    k_go0
    repeat' (first | (k_unfold; (try dsimp only)) | walk1 | (dsimp only; walk1))
    skip))
end Mine
theorem PySem.Challenge.cw_xm0030_01_holds : PySem.Challenge.rw_xm0030_01.Holds :=
  Mine.lawGo
