import PyProof.Rows.All
import Wide.All
import OpenK.AllK
import Wide.FinOn
import PySem.Challenge.RW_nu0053_01
set_option Elab.async false
set_option linter.unusedSimpArgs false
set_option linter.unusedVariables false
set_option maxRecDepth 100000
set_option maxHeartbeats 0
namespace Mine
open PySem PySem.W PyProof.Rows
noncomputable def hd.view_39 : Program := { PySem.Challenge.pw_nu0053_01 with main := { (PySem.Challenge.pw_nu0053_01).main with body := (PySem.Challenge.pw_nu0053_01).main.body.take 26 ++ (PySem.Challenge.pw_nu0053_01).main.body.drop 29 } }
/-- the top's run in the library's quick words -/
noncomputable def fencedT (p : Program) (w : World) (N : Nat) : Option Shared :=
  (PySem.W.Fast.tw10274390034422433532 PySem.W.Fast.tw14364793385576792824 (opening p) w N (start (opening p)).1 (start (opening p)).2).bind (PySem.W.Fast.tw14289696077712309145 p)
theorem fencedT_eq (p : Program) (w : World) (N : Nat) : fencedOpening treeTable p w N = fencedT p w N := by
  unfold fencedOpening fencedT
  rw [PySem.W.Fast.te10274390034422433532, PySem.W.Fast.te14364793385576792824, PySem.W.Fast.te14289696077712309145]
noncomputable def topT (p : Program) (w : World) (N : Nat) (s₀ : Shared) : Option Shared :=
  match s₀.heap.isNs mainGlobals && s₀.gens.size == 0 with
  | true => (PySem.W.Fast.tw14082659384304107361 PySem.W.Fast.tw14364793385576792824 p w s₀.heap.objs.size (s₀.heap.nsMap mainGlobals (Str.ofString "__annotations__")) N s₀ (topStub p)).bind fun s₁ =>
      match staticsOk (importedModules p.main.body) s₀.heap s₁.heap && namesBound p s₁.heap && gensDone s₁ && laidKept s₀.heap s₁.heap with
      | true => some s₁
      | false => none
  | false => none
theorem topT_eq (p : Program) (w : World) (N : Nat) (s₀ : Shared) : topFrom treeTable p w N s₀ = topT p w N s₀ := by
  unfold topFrom topT
  rw [PySem.W.Fast.te14082659384304107361, PySem.W.Fast.te14364793385576792824]
  rfl
noncomputable def endsT (p : Program) (w : World) (N : Nat) : Option Shared := (fencedT p w N).bind (topT p w N)
theorem endsT_eq (p : Program) (w : World) (N : Nat) : openEnds treeTable p w N = endsT p w N := by
  unfold openEnds endsT
  rw [fencedT_eq, show topFrom treeTable p w N = topT p w N from funext (topT_eq p w N)]
set_option hygiene false in
local macro_rules | `(tactic| o_head $H) => `(tactic| (refine holds_open (q := Mine.hd.view_39) (loose := [Str.ofString "_law_char_borders", Str.ofString "_law_start_borders", Str.ofString "_law_more_borders"]) (Xt := fun s => xlAt Mine.hd.view_39 [] s && recOk (RowW.records (OpenRow.toRowW PySem.Challenge.rw_nu0053_01.row)) s) (XP := XL Mine.hd.view_39 []) (Yf := Hook.obs $H) (Ya := Hook.val $H) (YP := Hook.says $H) (N := 3160) ?hl (Hook.of $H) (Hook.keeps $H) (fun s e => xl_of s (Bool.and_eq_true_iff.mp e).1) XL.keeps (by rfl) (by rfl) (by rfl) (fun s e => recFacts_of (Bool.and_eq_true_iff.mp e).2) (by rfl) (by first | assumption | decide +kernel) (by decide +kernel) ⟨rfl, rfl, rfl, rfl, rfl, by decide +kernel⟩ ?hw ?hc; (case hl => (intro w; refine Eq.trans (congrArg (Option.map _) (show openEnds treeTable _ w _ = endsT PySem.W.Fast.tw6332735874896597612 w 3160 from (congrArg (fun p => openEnds treeTable p w 3160) PySem.W.Fast.te6332735874896597612).trans (endsT_eq _ w 3160))) ?_; kernel_rfl))))
open_top hd for PySem.Challenge.rw_nu0053_01
end Mine
namespace Mine
open PySem PySem.W PySem.Calls PyProof.Rows
noncomputable abbrev Lo : List Str := looseW hd.view_39 [Str.ofString "_law_char_borders", Str.ofString "_law_start_borders", Str.ofString "_law_more_borders"]

/-- a call of f on vs, from any def's frame; given is what is asked of the heap at the frames' foot; a value comes back and the ledger is as Ret says -/
def Says (w : World) (mean : ExcName → Option Value) (mg mb : Str → Option Value) (dpth : Nat) (f : Addr) (Asks : Heap → Prop) (news : List (Addr × Obj)) (vs : List Value)
    (Ret : List (Addr × Obj) → Value → Prop) : Prop :=
  ∀ (dp un : Nat) (gd : Option (List Code)) (cn : Str) (cs : Scope) (a : Addr) (ccd : Value) (cl : List (Str × Addr)) (outer : List Env) (A₀ : Around) (base h₀ : Heap) (L : Addr) (m : Str → Option Value) (s : Shared) (Q E : Value → Shared → Prop),
    Below A₀ base outer h₀ → Fr h₀ L s.heap m → (hd.heap_39 w.params).In h₀ → News h₀ L s.heap news → Top hd.view_39 Lo mean mg mb h₀ → cs.kind = .function →
    dp + dpth < recursionLimit → un + 8 * dpth < cLine → Asks base →
    (∀ (r : Value) (news' : List (Addr × Obj)) (h' : Heap) (tk' : Nat), Ret news' r → Fr h₀ L h' m → News h₀ L h' news' → Q r { s with heap := h', toks := tk' }) →
    wpAny (model PySem.Challenge.rw_nu0053_01.row.prog w) (ktrTop dp un gd cn cs L a ccd cl outer) (call (.ref f) vs) Q E s

/-- a plain value comes back, the ledger as it was -/
def SaysV (w : World) (mean : ExcName → Option Value) (mg mb : Str → Option Value) (dpth : Nat) (f : Addr) (vs : List Value) (R : Tok → Value) : Prop :=
  ∀ (news : List (Addr × Obj)) (dp un : Nat) (gd : Option (List Code)) (cn : Str) (cs : Scope) (a : Addr) (ccd : Value) (cl : List (Str × Addr)) (outer : List Env) (A₀ : Around) (base h₀ : Heap) (L : Addr) (m : Str → Option Value) (s : Shared) (Q E : Value → Shared → Prop),
    Below A₀ base outer h₀ → Fr h₀ L s.heap m → (hd.heap_39 w.params).In h₀ → News h₀ L s.heap news → Top hd.view_39 Lo mean mg mb h₀ → cs.kind = .function →
    dp + dpth < recursionLimit → un + 8 * dpth < cLine →
    CbRet h₀ L m news s Q R →
    wpAny (model PySem.Challenge.rw_nu0053_01.row.prog w) (ktrTop dp un gd cn cs L a ccd cl outer) (call (.ref f) vs) Q E s

section
variable {w : World} {mean : ExcName → Option Value} {mg mb : Str → Option Value} {dpth : Nat} {f : Addr} {vs : List Value}
  {dp un : Nat} {gd : Option (List Code)} {cn : Str} {cs : Scope} {a : Addr} {ccd : Value} {cl : List (Str × Addr)} {outer : List Env} {A₀ : Around} {base h₀ : Heap} {L : Addr} {m : Str → Option Value} {s : Shared} {Q E : Value → Shared → Prop}
  {news : List (Addr × Obj)}
theorem saysV_use {R : Tok → Value} (C : SaysV w mean mg mb dpth f vs R) (B : Below A₀ base outer h₀) (F : Fr h₀ L s.heap m) (X : (hd.heap_39 w.params).In h₀) (N : News h₀ L s.heap news) (T : Top hd.view_39 Lo mean mg mb h₀)
    (hk : cs.kind = .function) (hd : dp + dpth < recursionLimit) (hu : un + 8 * dpth < cLine)
    (ret : ∀ (t : Tok) (h' : Heap) (tk' : Nat), Fr h₀ L h' m → News h₀ L h' news → Q (R t) { s with heap := h', toks := tk' }) :
    wpAny (model PySem.Challenge.rw_nu0053_01.row.prog w) (ktrTop dp un gd cn cs L a ccd cl outer) (call (.ref f) vs) Q E s :=
  C _ _ _ _ _ _ _ _ _ _ _ _ _ _ _ _ _ _ B F X N T hk hd hu ret
theorem says_use {Asks : Heap → Prop} {Ret : List (Addr × Obj) → Value → Prop} (C : Says w mean mg mb dpth f Asks news vs Ret) (B : Below A₀ base outer h₀) (F : Fr h₀ L s.heap m) (X : (hd.heap_39 w.params).In h₀) (N : News h₀ L s.heap news) (T : Top hd.view_39 Lo mean mg mb h₀)
    (hk : cs.kind = .function) (hd : dp + dpth < recursionLimit) (hu : un + 8 * dpth < cLine) (ha : Asks base)
    (ret : ∀ (r : Value) (news' : List (Addr × Obj)) (h' : Heap) (tk' : Nat), Ret news' r → Fr h₀ L h' m → News h₀ L h' news' → Q r { s with heap := h', toks := tk' }) :
    wpAny (model PySem.Challenge.rw_nu0053_01.row.prog w) (ktrTop dp un gd cn cs L a ccd cl outer) (call (.ref f) vs) Q E s :=
  C _ _ _ _ _ _ _ _ _ _ _ _ _ _ _ _ _ B F X N T hk hd hu ha ret
end

section
variable {prog : Program} {w : World} {A A₀ : Around} {s : Shared} {K : Frag} {L : Addr} {h₀ base : Heap} {m mg mb : Str → Option Value} {news mine : List (Addr × Obj)} {p : Program} {loose : List Str} {mean : ExcName → Option Value}
/-- a def is entered; of the ledger only `mine` may be changed, all else stays -/
theorem enter_part {env : Env} {outer : List Env} {R : Result → Shared → Prop} {name qual : Str} {params : Arguments} {body : List Stmt} {scope : Scope} {dV kV doc pm cdv ct oc : Value} {an od : Option Addr} {osl : Array (Option Value)} {f : Addr} {args : Args} {binds : List (Str × Value)}
    (hm : ∀ q ∈ mine, q ∈ news)
    (B : Below A₀ base outer h₀) (F : Fr h₀ L s.heap m) (X₀ : K.In h₀) (N : News h₀ L s.heap news) (T : Top p loose mean mg mb h₀) (hA : A.frames = some (env :: outer)) (hf : env.frame = some L) (hke : env.scope.kind = .function)
    (ho : K.lookup f = some ⟨oc, od, .func (fnOf name qual params body scope dV kV doc pm an cdv ct), osl⟩) (hcd : codeIn K cdv qual = true) (hroom : A.depth < recursionLimit)
    (hbind : BindsTo s (fnOf name qual params body scope dV kV doc pm an cdv ct) args binds) (hloc : ∀ y ∈ binds, scope.names.lookup y.1 = some .local)
    (h : ∀ g L' h₁, Fr h₀ L g m → Fr g L' h₁ (fun y => binds.reverse.lookup y) → News g L' h₁ mine → Below A base (env :: outer) g → K.In g → Top p loose mean mg mb g → (∀ q ∈ news, q.1 < L') →
      (∀ (h' : Heap) (l l' : List (Addr × Obj)), (∀ b o, g.get? b = some o → h'.get? b = some o) → News h₀ L h' l → (∀ q ∈ l', q ∈ l ∨ (q ∈ news ∧ q.1 ∉ mine.map (·.1))) → News h₀ L h' l') →
      wpAny (model prog w) (A.deeper (envOf qual scope L' f cdv)) (execs body (envOf qual scope L' f cdv))
        (fun fl s' => LeaveK h₀ L m g R (match fl with | .ret v => v | _ => .none) s')
        (fun e s' => wpAny (model prog w) (A.deeper (envOf qual scope L' f cdv)) (leaving (envOf qual scope L' f cdv) e) (fun _ s'' => R (.error e) s'') (fun e' s'' => R (.error e') s'') s')
        { s with heap := h₁, toks := s.toks + binds.length })
    (hco : scope.isCoroutine = false) (hgen : scope.isGenerator = false) (hk : scope.kind = .function)
    (hcell : ∀ x ∈ scope.names, x.2 ≠ .cell) : codeAny (model prog w) A (.call (.ref f) args) R s := by
  have Nm : News h₀ L s.heap mine := fun q hq => N q (hm q hq)
  obtain ⟨FG, BG, st, lv⟩ := groundX (R := R) B F Nm hA hf hke
  refine codeAny_call_def (fd := fnOf name qual params body scope dV kV doc pm an cdv ct) (body := body) (binds := binds) hroom ((X₀.keeps F.keep) _ _ ho) rfl (T.nolimit.keeps F.keep) (codeRec_of (X₀.keeps F.keep) hcd) rfl hbind hcell hloc (fun h₁ hns hk₁ => ?_) hco hgen hk
  refine wpAny_mono (h _ s.heap.objs.size h₁ FG ⟨hns, fun b o e => hk₁ b o (of_hideAll _ e), Nat.le_of_eq (hideAll_size _ _)⟩
    (fun q hq => ⟨hk₁ _ _ (Nm q hq).1, Nat.ne_of_lt (Heap.lt_size (Nm q hq).1), hideAll_none _ (List.mem_map_of_mem hq)⟩) BG (X₀.keeps st) (T.keeps st) (fun q hq => Heap.lt_size (N q hq).1) ?_) (fun fl s' hl => lv _ _ hl) fun _ _ y => y
  intro h' l l' hk' Nl hl q hq
  rcases hl q hq with hq | ⟨hq, hn⟩
  · exact Nl q hq
  · exact ⟨hk' _ _ (hideAll_get _ (N q hq).1 hn), (N q hq).2.1, (N q hq).2.2⟩

/-- a def that changes nothing of the ledger -/
theorem enter_pure {env : Env} {outer : List Env} {R : Result → Shared → Prop} {name qual : Str} {params : Arguments} {body : List Stmt} {scope : Scope} {dV kV doc pm cdv ct oc : Value} {an od : Option Addr} {osl : Array (Option Value)} {f : Addr} {args : Args} {binds : List (Str × Value)}
    (B : Below A₀ base outer h₀) (F : Fr h₀ L s.heap m) (X₀ : K.In h₀) (N : News h₀ L s.heap news) (T : Top p loose mean mg mb h₀) (hA : A.frames = some (env :: outer)) (hf : env.frame = some L) (hke : env.scope.kind = .function)
    (ho : K.lookup f = some ⟨oc, od, .func (fnOf name qual params body scope dV kV doc pm an cdv ct), osl⟩) (hcd : codeIn K cdv qual = true) (hroom : A.depth < recursionLimit)
    (hbind : BindsTo s (fnOf name qual params body scope dV kV doc pm an cdv ct) args binds) (hloc : ∀ y ∈ binds, scope.names.lookup y.1 = some .local)
    (h : ∀ g L' h₁, Fr h₀ L g m → Fr g L' h₁ (fun y => binds.reverse.lookup y) → News g L' h₁ [] → Below A base (env :: outer) g → K.In g → Top p loose mean mg mb g → (∀ q ∈ news, q.1 < L') →
      (∀ (h' : Heap), (∀ b o, g.get? b = some o → h'.get? b = some o) → News h₀ L h' news) →
      wpAny (model prog w) (A.deeper (envOf qual scope L' f cdv)) (execs body (envOf qual scope L' f cdv))
        (fun fl s' => LeaveK h₀ L m g R (match fl with | .ret v => v | _ => .none) s')
        (fun e s' => wpAny (model prog w) (A.deeper (envOf qual scope L' f cdv)) (leaving (envOf qual scope L' f cdv) e) (fun _ s'' => R (.error e) s'') (fun e' s'' => R (.error e') s'') s')
        { s with heap := h₁, toks := s.toks + binds.length })
    (hco : scope.isCoroutine = false) (hgen : scope.isGenerator = false) (hk : scope.kind = .function)
    (hcell : ∀ x ∈ scope.names, x.2 ≠ .cell) : codeAny (model prog w) A (.call (.ref f) args) R s :=
  enter_part (mine := []) (fun _ hq => nomatch hq) B F X₀ N T hA hf hke ho hcd hroom hbind hloc
    (fun g L' h₁ FG F' N' B' X' T' hl hN => h g L' h₁ FG F' N' B' X' T' hl fun h' hk' => hN h' [] news hk' News.nil fun q hq => .inr ⟨hq, by simp⟩) hco hgen hk hcell
end

/-! the signs, in plain Lean -/
abbrev one (c : Nat) : Str := ⟨#[c]⟩
def inR (c : Int) : List (Int × Int) → Bool
  | [] => false
  | (lo, hi) :: r => if c < lo then false else if c ≤ hi then true else inR c r
def charT : List (Int × Int) := [(32, 55295), (57344, 65533), (65536, 1114111)]
def startT : List (Int × Int) := [(192, 214), (216, 246), (248, 767), (880, 893), (895, 8191), (8204, 8205), (8304, 8591), (11264, 12271), (12289, 55295), (63744, 64975), (65008, 65533), (65536, 983039)]
def moreT : List (Int × Int) := [(183, 183), (768, 879), (8255, 8256)]
def spaceN (c : Nat) : Bool := c = 32 || c = 9 || c = 10 || c = 13
def smallN (c : Nat) : Bool := decide (97 ≤ c) && decide (c ≤ 122)
def charN (c : Nat) : Bool := if c < 32 then spaceN c else inR c charT
def startN (c : Nat) : Bool := if c < 128 then smallN c || (decide (65 ≤ c) && decide (c ≤ 90)) || decide (c = 95) || decide (c = 58) else inR c startT
def nameN (c : Nat) : Bool := startN c || if c < 128 then (decide (48 ≤ c) && decide (c ≤ 57)) || decide (c = 45) || decide (c = 46) else inR c moreT

theorem one_lt (c d : Nat) : (one c).cps.toList < (one d).cps.toList ↔ c < d := by
  show [c] < [d] ↔ c < d
  simp [List.cons_lt_cons_iff]
theorem one_eq (c d : Nat) : one c = one d ↔ c = d := by
  constructor
  · intro h; injection h with h; injection h with h; injection h
  · intro h; rw [h]
theorem fit_text {x : Str} (h : x.length ≤ 64) : x.cps.size ≤ sizeLine := by
  rw [PySem.sizeLine_eq]; exact Nat.le_trans h (by decide)
theorem fit_split {n k : Nat} (h : n ≤ k + 2) (hk : k ≤ 64) : n ≤ sizeLine := by
  rw [PySem.sizeLine_eq]; exact Nat.le_trans h (Nat.le_trans (Nat.add_le_add_right hk 2) (by decide))
section
variable {prog : Program} {w : World} {A : Around} {E : Value → Shared → Prop} {s : Shared} {env : Env} {h₀ : Heap} {x : Str} {body : List Stmt} {Q : Flow → Shared → Prop}

/-- a for over a text's signs, by a word over all that a turn may change -/
theorem iterJ_text {xt : Str} {tx : Tok} {m₀ : Str → Option Value} {news : List (Addr × Obj)} (J : Nat → (Str → Option Value) → List (Addr × Obj) → Prop)
    (hh : A.handled = none) (F : Fr h₀ env.locals s.heap m₀) (N : News h₀ env.locals s.heap news) (hj : J 0 m₀ news)
    (turn : ∀ i c t m₁ nx h tk own, xt.cps.toList[i]? = some c → nx.map (·.1) = news.map (·.1) → OwnOff own (news.map (·.1)) → J i m₁ nx →
      Fr h₀ env.locals h (fun y => if y = x then some (.str ⟨#[c]⟩ t) else m₁ y) → News h₀ env.locals h (nx ++ own) →
      wpAny (model prog w) A (execs body env) (InvPostN h₀ env.locals (J (i + 1)) own (news.map (·.1)) { s with heap := h, toks := tk } Q) E { s with heap := h, toks := tk })
    (done : ∀ m₁ nx h tk, J xt.cps.toList.length m₁ nx → Fr h₀ env.locals h m₁ → News h₀ env.locals h nx → Q .next { s with heap := h, toks := tk }) :
    wpAny (model prog w) A (pyIter (.str xt tx)) (fun it s₂ => LoopAtV prog w A h₀ env x body Q E it s₂) E s := by
  refine wpAny_pyIter_str fun o St hW hst => ?_
  have W := hW A hh
  refine loop_invN J W ?_ ?_ ?_ ?_ hst (F.push _) (fun p hp => ⟨Heap.get?_push_of_some _ (N p hp).1, (N p hp).2⟩) hj ?_ ?_
  · intro hm
    exact absurd F.ns.lt ((List.mem_singleton.mp hm) ▸ Nat.lt_irrefl _)
  · intro b' hb
    rw [List.mem_singleton.mp hb]
    exact next_is_new F
  · intro p hp hI
    exact absurd (Heap.lt_size (N p hp).1) ((List.mem_singleton.mp hI) ▸ Nat.lt_irrefl _)
  · intro p hp hI
    exact absurd (Heap.lt_size (N p hp).1) ((List.mem_singleton.mp hI) ▸ Nat.lt_irrefl _)
  · rintro i v m₁ nx h tk own hi ⟨n, u, hn, rfl⟩ hadr hoff hJ F₁ N₁
    exact turn i n u m₁ nx h tk own (by simpa using hn) hadr hoff hJ F₁ N₁
  · intro m₁ nx h tk hJ F₁ N₁
    exact done m₁ nx h tk (by simpa using hJ) F₁ N₁

/-- a for over a range by ones -/
theorem iterJ_range {r : Addr} {a₀ b₀ : Int} {t₀ u₀ v₀ : Tok} {n : Nat} {m₀ : Str → Option Value} {news : List (Addr × Obj)} (J : Nat → (Str → Option Value) → List (Addr × Obj) → Prop)
    (hh : A.handled = none) (hr : IsRange s.heap r a₀ b₀ 1 t₀ u₀ v₀) (hsmall : Builtin.Range.small a₀ b₀ 1 = true) (hn : Builtin.Range.rangeSize a₀ b₀ 1 = (n : Int))
    (F : Fr h₀ env.locals s.heap m₀) (N : News h₀ env.locals s.heap news) (hj : J 0 m₀ news)
    (turn : ∀ i t m₁ nx h tk own, i < n → nx.map (·.1) = news.map (·.1) → OwnOff own (news.map (·.1)) → J i m₁ nx →
      Fr h₀ env.locals h (fun y => if y = x then some (.int (a₀ + (i : Int)) t) else m₁ y) → News h₀ env.locals h (nx ++ own) →
      wpAny (model prog w) A (execs body env) (InvPostN h₀ env.locals (J (i + 1)) own (news.map (·.1)) { s with heap := h, toks := tk } Q) E { s with heap := h, toks := tk })
    (done : ∀ m₁ nx h tk, J n m₁ nx → Fr h₀ env.locals h m₁ → News h₀ env.locals h nx → Q .next { s with heap := h, toks := tk }) :
    wpAny (model prog w) A (pyIter (.ref r)) (fun it s₂ => LoopAtV prog w A h₀ env x body Q E it s₂) E s := by
  refine wpAny_pyIter_range hr hsmall ?_
  have W : Walks prog w A s.heap.objs.size [s.heap.objs.size] [s.heap.objs.size] n (fun i v => i < n ∧ ∃ t, v = .int (a₀ + i * 1) t)
      (fun i h => IsRangeIter h s.heap.objs.size (a₀ + (i : Nat) * 1) ((n : Int) - (i : Nat)) 1) := (Walks.range hh _ a₀ 1 n).bound
  refine loop_invN J W ?_ ?_ ?_ ?_ (by show IsRangeIter _ _ _ _ _; rw [hn]; simpa using Heap.get?_push_size _ rfl) (F.push _) (fun p hp => ⟨Heap.get?_push_of_some _ (N p hp).1, (N p hp).2⟩) hj ?_ ?_
  · intro hm
    exact absurd F.ns.lt ((List.mem_singleton.mp hm) ▸ Nat.lt_irrefl _)
  · intro b hb
    rw [List.mem_singleton.mp hb]
    exact next_is_new F
  · intro p hp hI
    exact absurd (Heap.lt_size (N p hp).1) ((List.mem_singleton.mp hI) ▸ Nat.lt_irrefl _)
  · intro p hp hI
    exact absurd (Heap.lt_size (N p hp).1) ((List.mem_singleton.mp hI) ▸ Nat.lt_irrefl _)
  · rintro i v m₁ nx h tk own hi ⟨_, t, rfl⟩ hadr hoff hJ F₁ N₁
    have e1 : a₀ + (i : Int) * 1 = a₀ + (i : Int) := by omega
    rw [e1] at F₁
    exact turn i t m₁ nx h tk own hi hadr hoff hJ F₁ N₁
  · intro m₁ nx h tk hJ F₁ N₁
    exact done m₁ nx h tk hJ F₁ N₁

theorem map_off {y : Str} {v : Value} {m₁ m₀ : Str → Option Value} (hm : ∀ z, z ≠ y → m₁ z = m₀ z) : (fun z => if z = y then some v else m₁ z) = fun z => if z = y then some v else m₀ z := by
  funext z
  by_cases h1 : z = y
  · simp [h1]
  · simp only [if_neg h1]; exact hm z h1
theorem map_out {y : Str} {m₁ m₀ : Str → Option Value} (hm : ∀ z, z ≠ y → m₁ z = m₀ z) : (fun z => if z = y then m₁ z else m₀ z) = m₁ := by
  funext z
  by_cases h1 : z = y
  · simp [h1]
  · simp only [if_neg h1]; exact (hm z h1).symm

/-- a search over a text's signs: what goes on has G -/
theorem search_text {xt : Str} {tx : Tok} {m₀ : Str → Option Value} {news : List (Addr × Obj)} (G : Nat → Prop)
    (hh : A.handled = none) (F : Fr h₀ env.locals s.heap m₀) (N : News h₀ env.locals s.heap news)
    (turn : ∀ c t h tk own, c ∈ xt.cps.toList → OwnOff own (news.map (·.1)) →
      Fr h₀ env.locals h (fun y => if y = x then some (.str ⟨#[c]⟩ t) else m₀ y) → News h₀ env.locals h (news ++ own) →
      wpAny (model prog w) A (execs body env) (InvPostN h₀ env.locals (fun m' nx => (nx = news ∧ ∀ z, z ≠ x → m' z = m₀ z) ∧ G c) own (news.map (·.1)) { s with heap := h, toks := tk } Q) E { s with heap := h, toks := tk })
    (done : ∀ (u : Str → Option Value) h tk, (∀ c ∈ xt.cps.toList, G c) → Fr h₀ env.locals h (fun z => if z = x then u z else m₀ z) → News h₀ env.locals h news → Q .next { s with heap := h, toks := tk }) :
    wpAny (model prog w) A (pyIter (.str xt tx)) (fun it s₂ => LoopAtV prog w A h₀ env x body Q E it s₂) E s := by
  refine iterJ_text (fun i m nx => (nx = news ∧ ∀ z, z ≠ x → m z = m₀ z) ∧ ∀ c ∈ xt.cps.toList.take i, G c) hh F N ⟨⟨rfl, fun _ _ => rfl⟩, by simp⟩ ?_ ?_
  · rintro i c t m₁ nx h tk own hc _ hoff ⟨⟨rfl, hm⟩, hG⟩ F₁ N₁
    rw [map_off hm] at F₁
    have hs : xt.cps.toList.take (i + 1) = xt.cps.toList.take i ++ [c] := by rw [List.take_add_one, hc]; rfl
    refine wpAny_mono (turn c t h tk own (List.mem_of_getElem? hc) hoff F₁ N₁) (fun f s₂ p => ?_) fun _ _ e => e
    have fin : ∀ s₂, InvEndN h₀ env.locals (fun m' nx' => (nx' = nx ∧ ∀ z, z ≠ x → m' z = m₀ z) ∧ G c) own (nx.map (·.1)) { s with heap := h, toks := tk } s₂ →
        InvEndN h₀ env.locals (fun m nx' => (nx' = nx ∧ ∀ z, z ≠ x → m z = m₀ z) ∧ ∀ c ∈ xt.cps.toList.take (i + 1), G c) own (nx.map (·.1)) { s with heap := h, toks := tk } s₂ := by
      rintro s₂ ⟨h', tk, m', news', nx', e, F', N', hn, ho, ha, hr, hg⟩
      refine ⟨h', tk, m', news', nx', e, F', N', hn, ho, ha, hr, fun d hd => ?_⟩
      rw [hs] at hd
      rcases List.mem_append.mp hd with hd | hd
      · exact hG d hd
      · rw [List.mem_singleton.mp hd]; exact hg
    cases f with
    | ret v => exact p
    | brk => exact p
    | next => exact fin _ p
    | cont => exact fin _ p
  · rintro m₁ nx h tk ⟨⟨rfl, hm⟩, hG⟩ F₁ N₁
    rw [List.take_length] at hG
    exact done m₁ h tk hG (by rw [map_out hm]; exact F₁) N₁

/-- a search over a range -/
theorem search_range {r : Addr} {a₀ b₀ : Int} {t₀ u₀ v₀ : Tok} {n : Nat} {m₀ : Str → Option Value} {news : List (Addr × Obj)} (G : Nat → Prop)
    (hh : A.handled = none) (hr : IsRange s.heap r a₀ b₀ 1 t₀ u₀ v₀) (hsmall : Builtin.Range.small a₀ b₀ 1 = true) (hn : Builtin.Range.rangeSize a₀ b₀ 1 = (n : Int)) (F : Fr h₀ env.locals s.heap m₀) (N : News h₀ env.locals s.heap news)
    (turn : ∀ i t h tk own, i < n → (∀ j, j < i → G j) → OwnOff own (news.map (·.1)) →
      Fr h₀ env.locals h (fun y => if y = x then some (.int (a₀ + (i : Int)) t) else m₀ y) → News h₀ env.locals h (news ++ own) →
      wpAny (model prog w) A (execs body env) (InvPostN h₀ env.locals (fun m' nx => (nx = news ∧ ∀ z, z ≠ x → m' z = m₀ z) ∧ G i) own (news.map (·.1)) { s with heap := h, toks := tk } Q) E { s with heap := h, toks := tk })
    (done : ∀ (u : Str → Option Value) h tk, (∀ j, j < n → G j) → Fr h₀ env.locals h (fun z => if z = x then u z else m₀ z) → News h₀ env.locals h news → Q .next { s with heap := h, toks := tk }) :
    wpAny (model prog w) A (pyIter (.ref r)) (fun it s₂ => LoopAtV prog w A h₀ env x body Q E it s₂) E s := by
  refine iterJ_range (fun i m nx => (nx = news ∧ ∀ z, z ≠ x → m z = m₀ z) ∧ ∀ j, j < i → G j) hh hr hsmall hn F N ⟨⟨rfl, fun _ _ => rfl⟩, fun _ h => absurd h (Nat.not_lt_zero _)⟩ ?_ ?_
  · rintro i t m₁ nx h tk own hi _ hoff ⟨⟨rfl, hm⟩, hG⟩ F₁ N₁
    rw [map_off hm] at F₁
    refine wpAny_mono (turn i t h tk own hi hG hoff F₁ N₁) (fun f s₂ p => ?_) fun _ _ e => e
    have fin : ∀ s₂, InvEndN h₀ env.locals (fun m' nx' => (nx' = nx ∧ ∀ z, z ≠ x → m' z = m₀ z) ∧ G i) own (nx.map (·.1)) { s with heap := h, toks := tk } s₂ →
        InvEndN h₀ env.locals (fun m nx' => (nx' = nx ∧ ∀ z, z ≠ x → m z = m₀ z) ∧ ∀ j, j < i + 1 → G j) own (nx.map (·.1)) { s with heap := h, toks := tk } s₂ := by
      rintro s₂ ⟨h', tk, m', news', nx', e, F', N', hn, ho, ha, hr, hg⟩
      refine ⟨h', tk, m', news', nx', e, F', N', hn, ho, ha, hr, fun j hj => ?_⟩
      by_cases hji : j = i
      · rw [hji]; exact hg
      · exact hG j (by omega)
    cases f with
    | ret v => exact p
    | brk => exact p
    | next => exact fin _ p
    | cont => exact fin _ p
  · rintro m₁ nx h tk ⟨⟨rfl, hm⟩, hG⟩ F₁ N₁
    exact done m₁ h tk hG (by rw [map_out hm]; exact F₁) N₁

theorem search_end {L : Addr} {news own all : List (Addr × Obj)} {m₀ m' : Str → Option Value} {G : Prop} {s₁ : Shared} {h' : Heap} {tk : Nat} (F : Fr h₀ L h' m') (N : News h₀ L h' all) (hn : ∀ p ∈ news, p ∈ all) (ho : ∀ p ∈ own, p ∈ all) (hm : ∀ z, z ≠ x → m' z = m₀ z) (hg : G) :
    InvEndN h₀ L (fun m' nx => (nx = news ∧ ∀ z, z ≠ x → m' z = m₀ z) ∧ G) own (news.map (·.1)) s₁ { s₁ with heap := h', toks := tk } :=
  InvEndN.intro F N ⟨⟨rfl, hm⟩, hg⟩ rfl hn ho

/-- a range loop that turns one int name and one list of texts (in the ledger) -/
theorem iterWB_range {r : Addr} {a₀ b₀ : Int} {t₀ u₀ v₀ : Tok} {n : Nat} {m₀ : Str → Option Value} {nw : List (Addr × Obj)} {l : Addr} {yl y : Str} {b1 : Int} {tb1 : Tok} (P : Nat → List Str → Int → Prop)
    (hh : A.handled = none) (hr : IsRange s.heap r a₀ b₀ 1 t₀ u₀ v₀) (hsmall : Builtin.Range.small a₀ b₀ 1 = true) (hn : Builtin.Range.rangeSize a₀ b₀ 1 = (n : Int))
    (F : Fr h₀ env.locals s.heap m₀) (N : News h₀ env.locals s.heap nw) (_hl : m₀ yl = some (.ref l)) (hm : (l, listOf #[] 0) ∈ nw) (hy : m₀ y = some (.int b1 tb1)) (hyx : y ≠ x) (hP : P 0 [] b1)
    (turn : ∀ i t (its : Array Value) ws k b tb h tk own, i < n → StrsAre its.toList ws → its.size ≤ i → P i ws b → OwnOff own [l] →
      Fr h₀ env.locals h (fun z => if z = x then some (.int (a₀ + (i : Int)) t) else if z = y then some (.int b tb) else m₀ z) → News h₀ env.locals h ([(l, listOf its k)] ++ own) →
      wpAny (model prog w) A (execs body env) (InvPostN h₀ env.locals (fun m' nx => ∃ its' ws' k' b' tb', nx = [(l, listOf its' k')] ∧ StrsAre its'.toList ws' ∧ its'.size ≤ i + 1 ∧ m' y = some (.int b' tb') ∧ (∀ z, z ≠ x → z ≠ y → m' z = m₀ z) ∧ P (i + 1) ws' b') own [l] { s with heap := h, toks := tk } Q) E { s with heap := h, toks := tk })
    (done : ∀ (u : Str → Option Value) (its : Array Value) ws k b tb h tk, StrsAre its.toList ws → P n ws b → Fr h₀ env.locals h (fun z => if z = x then u z else if z = y then some (.int b tb) else m₀ z) → News h₀ env.locals h [(l, listOf its k)] → Q .next { s with heap := h, toks := tk }) :
    wpAny (model prog w) A (pyIter (.ref r)) (fun it s₂ => LoopAtV prog w A h₀ env x body Q E it s₂) E s := by
  refine iterJ_range (news := [(l, listOf #[] 0)]) (fun i m nx => ∃ its ws k b tb, nx = [(l, listOf its k)] ∧ StrsAre its.toList ws ∧ its.size ≤ i ∧ m y = some (.int b tb) ∧ (∀ z, z ≠ x → z ≠ y → m z = m₀ z) ∧ P i ws b)
    hh hr hsmall hn F (fun p hp => by rw [List.mem_singleton.mp hp]; exact N _ hm) ⟨#[], [], 0, b1, tb1, rfl, .nil, Nat.le_refl _, hy, fun _ _ _ => rfl, hP⟩ ?_ ?_
  · rintro i t m₁ nx h tk own hi _ hoff ⟨its, ws, k, b, tb, rfl, hs, hk, hb, hm', hP'⟩ F₁ N₁
    have e : (fun z => if z = x then some (Value.int (a₀ + (i : Int)) t) else m₁ z) = fun z => if z = x then some (Value.int (a₀ + (i : Int)) t) else if z = y then some (.int b tb) else m₀ z := by
      funext z
      by_cases h1 : z = x
      · simp [h1]
      · simp only [if_neg h1]
        by_cases h2 : z = y
        · rw [if_pos h2, h2]; exact hb
        · rw [if_neg h2]; exact hm' z h1 h2
    rw [e] at F₁
    exact turn i t its ws k b tb h tk own hi hs hk hP' hoff F₁ N₁
  · rintro m₁ nx h tk ⟨its, ws, k, b, tb, rfl, hs, hk, hb, hm', hP'⟩ F₁ N₁
    refine done m₁ its ws k b tb h tk hs hP' ?_ N₁
    have e : (fun z => if z = x then m₁ z else if z = y then some (.int b tb) else m₀ z) = m₁ := by
      funext z
      by_cases h1 : z = x
      · simp [h1]
      · simp only [if_neg h1]
        by_cases h2 : z = y
        · rw [if_pos h2, h2]; exact hb.symm
        · rw [if_neg h2]; exact (hm' z h1 h2).symm
    rw [e]; exact F₁
theorem iterWB_end {L l : Addr} {y : Str} {own all : List (Addr × Obj)} {m₀ m' : Str → Option Value} {P : List Str → Int → Prop} {s₁ : Shared} {h' : Heap} {tk k i : Nat} {its : Array Value} {ws : List Str} {b : Int} {tb : Tok}
    (F : Fr h₀ L h' m') (N : News h₀ L h' all) (hm : (l, listOf its k) ∈ all) (ho : ∀ p ∈ own, p ∈ all) (hs : StrsAre its.toList ws) (hk : its.size ≤ i + 1) (hy : m' y = some (.int b tb)) (hr : ∀ z, z ≠ x → z ≠ y → m' z = m₀ z) (hP : P ws b) :
    InvEndN h₀ L (fun m' nx => ∃ its' ws' k' b' tb', nx = [(l, listOf its' k')] ∧ StrsAre its'.toList ws' ∧ its'.size ≤ i + 1 ∧ m' y = some (.int b' tb') ∧ (∀ z, z ≠ x → z ≠ y → m' z = m₀ z) ∧ P ws' b') own [l] s₁ { s₁ with heap := h', toks := tk } :=
  InvEndN.intro F N ⟨its, ws, k, b, tb, rfl, hs, hk, hy, hr, hP⟩ rfl (fun p hp => by rw [List.mem_singleton.mp hp]; exact hm) ho
end
section
open PyProof.Rows.LCg PyProof.Rows.LCt
section
variable {prog : Program} {w : World} {A : Around} {E : Value → Shared → Prop} {s : Shared} {h₀ : Heap} {L : Addr} {m : Str → Option Value} {env : Env}

/-- the turns of a comprehension by a word over what is made and the ledger -/
theorem comp_rest {elt : Expr} {x : Str} {scope : Scope} {cl : List (Str × Addr)} {S : List (Addr × Obj) → Prop} {P : Nat → Value → Prop} {Fin : List Value → List (Addr × Obj) → Prop} {n : Nat} {news : List (Addr × Obj)}
    (R : Nat → List Value → List (Addr × Obj) → Prop) (h0 : R 0 [] news)
    (turn : ∀ i v I oI C oC D m₂ ys nw h tk (E' : Value → Shared → Prop), i < n → P i v → R i ys nw → NsObj oC m₂ → m₂ x = some v → Fr h₀ L h m → News h₀ L h ((I, oI) :: (C, oC) :: (D, lst ys) :: nw) → Off3 I C D nw → ((@Ne Nat I C) ∧ (@Ne Nat I D) ∧ (@Ne Nat C D)) →
      wpAny (model prog w) A (eval elt (compEnvC scope cl C env)) (CompEnd h₀ L m { s with heap := h, toks := tk } I oI C oC D (lst ys) S (fun y nw' => R (i + 1) (ys ++ [y]) nw')) E' { s with heap := h, toks := tk })
    (fin : ∀ ys nw, R n ys nw → Fin ys nw) : CompRest prog w A h₀ L m env elt x scope cl s S P Fin n 0 [] news := by
  have key : ∀ (j i : Nat) (ys : List Value) (nw : List (Addr × Obj)), i + j = n → R i ys nw → CompRest prog w A h₀ L m env elt x scope cl s S P Fin j i ys nw := by
    intro j
    induction j with
    | zero =>
      intro i ys nw hi hR
      obtain rfl : i = n := by omega
      exact CompRest.zero (fin ys nw hR)
    | succ j ih =>
      intro i ys nw hi hR
      refine CompRest.succ ?_
      intro v I oI C oC D m₂ h tk E' hv hC hx F N off ne
      refine wpAny_mono (turn i v I oI C oC D m₂ ys nw h tk E' (by omega) hv hR hC hx F N off ne) (fun y s₂ hq => ?_) fun _ _ e => e
      obtain ⟨h', tk', nw', e, F', N', off', hS, hR'⟩ := hq
      exact ⟨h', tk', nw', e, F', N', off', hS, ih (i + 1) _ _ (by omega) hR'⟩
  exact key n 0 [] news (by omega) h0

/-- the same with one test -/
theorem comp_restT {ct elt : Expr} {x : Str} {scope : Scope} {cl : List (Str × Addr)} {S : List (Addr × Obj) → Prop} {P : Nat → Value → Prop} {Fin : List Value → List (Addr × Obj) → Prop} {n : Nat} {news : List (Addr × Obj)}
    (R : Nat → List Value → List (Addr × Obj) → Prop) (h0 : R 0 [] news)
    (turn : ∀ i v I oI C oC D m₂ ys nw h tk (E' : Value → Shared → Prop), i < n → P i v → R i ys nw → NsObj oC m₂ → m₂ x = some v → Fr h₀ L h m → News h₀ L h ((I, oI) :: (C, oC) :: (D, lst ys) :: nw) → Off3 I C D nw → ((@Ne Nat I C) ∧ (@Ne Nat I D) ∧ (@Ne Nat C D)) →
      wpAny (model prog w) A (isTrue ct (compEnvC scope cl C env) (eval ct (compEnvC scope cl C env))) (fun ok s' => if ok = true then
        wpAny (model prog w) A (eval elt (compEnvC scope cl C env)) (CompEnd h₀ L m { s with heap := h, toks := tk } I oI C oC D (lst ys) S (fun y nw' => R (i + 1) (ys ++ [y]) nw')) E' s'
        else CompEnd h₀ L m { s with heap := h, toks := tk } I oI C oC D (lst ys) S (fun _ nw' => R (i + 1) ys nw') Value.none s') E' { s with heap := h, toks := tk })
    (fin : ∀ ys nw, R n ys nw → Fin ys nw) : CompRestT prog w A h₀ L m env ct elt x scope cl s S P Fin n 0 [] news := by
  have key : ∀ (j i : Nat) (ys : List Value) (nw : List (Addr × Obj)), i + j = n → R i ys nw → CompRestT prog w A h₀ L m env ct elt x scope cl s S P Fin j i ys nw := by
    intro j
    induction j with
    | zero =>
      intro i ys nw hi hR
      obtain rfl : i = n := by omega
      exact CompRestT.zero (fin ys nw hR)
    | succ j ih =>
      intro i ys nw hi hR
      refine CompRestT.succ ?_
      intro v I oI C oC D m₂ h tk E' hv hC hx F N off ne
      refine wpAny_mono (turn i v I oI C oC D m₂ ys nw h tk E' (by omega) hv hR hC hx F N off ne) (fun ok s₂ hq => ?_) fun _ _ e => e
      cases ok with
      | true =>
        simp only [if_true] at hq ⊢
        refine wpAny_mono hq (fun y s₃ hq => ?_) fun _ _ e => e
        obtain ⟨h', tk', nw', e, F', N', off', hS, hR'⟩ := hq
        exact ⟨h', tk', nw', e, F', N', off', hS, ih (i + 1) _ _ (by omega) hR'⟩
      | false =>
        simp only [Bool.false_eq_true, if_false] at hq ⊢
        obtain ⟨h', tk', nw', e, F', N', off', hS, hR'⟩ := hq
        exact ⟨h', tk', nw', e, F', N', off', hS, ih (i + 1) _ _ (by omega) hR'⟩
  exact key n 0 [] news (by omega) h0

def SrcText (prog : Program) (w : World) (A : Around) (h₀ : Heap) (L : Addr) (m : Str → Option Value) (env : Env) (elt : Expr) (x : Str) (scope : Scope) (cl : List (Str × Addr)) (Fin : Shared → List Value → List (Addr × Obj) → Prop) (xv : Value) (s₁ : Shared) : Prop :=
  ∃ xt tx news, xv = .str xt tx ∧ A.handled = none ∧ Fr h₀ L s₁.heap m ∧ News h₀ L s₁.heap news ∧ xt.cps.size ≤ sizeLine ∧
    ∀ g, CompRest prog w A h₀ L m env elt x scope cl { s₁ with heap := g } (fun _ => True) (SignAt xt) (Fin { s₁ with heap := g }) xt.cps.size 0 [] news
def SrcTextT (prog : Program) (w : World) (A : Around) (h₀ : Heap) (L : Addr) (m : Str → Option Value) (env : Env) (ct elt : Expr) (x : Str) (scope : Scope) (cl : List (Str × Addr)) (Fin : Shared → List Value → List (Addr × Obj) → Prop) (xv : Value) (s₁ : Shared) : Prop :=
  ∃ xt tx news, xv = .str xt tx ∧ A.handled = none ∧ Fr h₀ L s₁.heap m ∧ News h₀ L s₁.heap news ∧ xt.cps.size ≤ sizeLine ∧
    ∀ g, CompRestT prog w A h₀ L m env ct elt x scope cl { s₁ with heap := g } (fun _ => True) (SignAt xt) (Fin { s₁ with heap := g }) xt.cps.size 0 [] news

theorem striter_st {I : Addr} {c : String} {xt : Str} {tx : Tok} : ∀ i (h h' : Heap) (o : Obj) (nw : List (Addr × Obj)), h.IsStrIter I c xt tx i → h.get? I = some o → h'.get? I = some o → (∀ b o, h₀.get? b = some o → h'.get? b = some o) → News h₀ L h' nw → True → h'.IsStrIter I c xt tx i :=
  fun i h h' o nw st e e' _ _ _ => by obtain ⟨o', q, r⟩ := st; rw [e] at q; cases q; exact ⟨o, e', r⟩

theorem ListComp_text {elt iter : Expr} {x : Str} {px : Pos} {scope : Scope} {cl : List (Str × Addr)} {pos : Pos} {Q : Value → Shared → Prop} (_F₀ : Fr h₀ L s.heap m)
    (hclos : closureFor scope env = pure cl) (hcell : ∀ y ∈ scope.names, y.2 ≠ .cell) (hkind : scope.kind = .function)
    (hnames : ∀ y ∈ scope.names, y.2 = .local → scope.names.lookup y.1 = some .local) (hx : scope.names.lookup x = some .local)
    (h : wpAny (model prog w) A (eval iter env) (SrcText prog w A h₀ L m env elt x scope cl (fun s₂ => FinE h₀ L m s₂ Q)) E s)
    (hs : ∀ x, foldedSetIterable iter env x = pure x := by intro _; rfl) :
    wpAny (model prog w) A (eval (.ListComp elt [⟨.Name x px, iter, [], 0⟩] scope pos) env) Q E s := by
  rw [eval_ListComp]
  refine wpAny_comprehension_free (use := none) rfl hs hclos hkind hnames (wpAny_mono h (fun xv s₁ h₁ => ?_) fun _ _ e => e)
  obtain ⟨xt, tx, news, rfl, hh, F, N, hsz, R⟩ := h₁
  cases ha : xt.cps.all (· < 128)
  · refine wpAny_pyIter_wide ha ?_
    refine block_U (Walks.strWide hh s₁.heap.objs.size xt tx) hsz (fun i h st => by obtain ⟨o, e, _⟩ := st; exact ⟨o, e⟩) striter_st hcell hkind hx ⟨_, Heap.get?_push_size _ rfl, rfl, rfl⟩ (fun b hb => ?_)
      (F.keeps fun _ _ e => Heap.get?_push_of_some _ e) (N.grown fun _ _ e => Heap.get?_push_of_some _ e) (Nat.ne_of_lt F.ns.lt) (next_is_new F) (fun p hp => Nat.ne_of_lt (Heap.lt_size (N p hp).1)) trivial (R _) ?_
    · rw [List.mem_singleton.mp hb]
      show s₁.heap.objs.size < (s₁.heap.push _).objs.size
      rw [Heap.size_push]; exact Nat.lt_succ_self _
    · intro D C h tk m' ys news' F' N' o1 hn hC₀ hD₀ hCL hDL hCD offC fin
      refine ⟨m', hn, fun h'' hs'' => fin D h'' tk (F'.change hs'' hCL hC₀) (fun p hp => ?_) o1⟩
      refine ⟨hs''.extBut _ _ ?_ (N' p hp).1, (N' p hp).2⟩
      rcases List.mem_cons.mp hp with rfl | hp
      · exact Ne.symm hCD
      · exact offC p hp
  · refine wpAny_pyIter_ascii ha ?_
    refine block_U (Walks.strAscii hh s₁.heap.objs.size xt tx) hsz (fun i h st => by obtain ⟨o, e, _⟩ := st; exact ⟨o, e⟩) striter_st hcell hkind hx ⟨_, Heap.get?_push_size _ rfl, rfl, rfl⟩ (fun b hb => ?_)
      (F.keeps fun _ _ e => Heap.get?_push_of_some _ e) (N.grown fun _ _ e => Heap.get?_push_of_some _ e) (Nat.ne_of_lt F.ns.lt) (next_is_new F) (fun p hp => Nat.ne_of_lt (Heap.lt_size (N p hp).1)) trivial (R _) ?_
    · rw [List.mem_singleton.mp hb]
      show s₁.heap.objs.size < (s₁.heap.push _).objs.size
      rw [Heap.size_push]; exact Nat.lt_succ_self _
    · intro D C h tk m' ys news' F' N' o1 hn hC₀ hD₀ hCL hDL hCD offC fin
      refine ⟨m', hn, fun h'' hs'' => fin D h'' tk (F'.change hs'' hCL hC₀) (fun p hp => ?_) o1⟩
      refine ⟨hs''.extBut _ _ ?_ (N' p hp).1, (N' p hp).2⟩
      rcases List.mem_cons.mp hp with rfl | hp
      · exact Ne.symm hCD
      · exact offC p hp

theorem ListComp_textT {ct elt iter : Expr} {x : Str} {px : Pos} {scope : Scope} {cl : List (Str × Addr)} {pos : Pos} {Q : Value → Shared → Prop} (_F₀ : Fr h₀ L s.heap m)
    (hclos : closureFor scope env = pure cl) (hcell : ∀ y ∈ scope.names, y.2 ≠ .cell) (hkind : scope.kind = .function)
    (hnames : ∀ y ∈ scope.names, y.2 = .local → scope.names.lookup y.1 = some .local) (hx : scope.names.lookup x = some .local)
    (h : wpAny (model prog w) A (eval iter env) (SrcTextT prog w A h₀ L m env ct elt x scope cl (fun s₂ => FinE h₀ L m s₂ Q)) E s)
    (hs : ∀ x, foldedSetIterable iter env x = pure x := by intro _; rfl) :
    wpAny (model prog w) A (eval (.ListComp elt [⟨.Name x px, iter, [ct], 0⟩] scope pos) env) Q E s := by
  rw [eval_ListComp]
  refine wpAny_comprehension_free (use := none) rfl hs hclos hkind hnames (wpAny_mono h (fun xv s₁ h₁ => ?_) fun _ _ e => e)
  obtain ⟨xt, tx, news, rfl, hh, F, N, hsz, R⟩ := h₁
  cases ha : xt.cps.all (· < 128)
  · refine wpAny_pyIter_wide ha ?_
    refine block_T (Walks.strWide hh s₁.heap.objs.size xt tx) hsz (fun i h st => by obtain ⟨o, e, _⟩ := st; exact ⟨o, e⟩) striter_st hcell hkind hx ⟨_, Heap.get?_push_size _ rfl, rfl, rfl⟩ (fun b hb => ?_)
      (F.keeps fun _ _ e => Heap.get?_push_of_some _ e) (N.grown fun _ _ e => Heap.get?_push_of_some _ e) (Nat.ne_of_lt F.ns.lt) (next_is_new F) (fun p hp => Nat.ne_of_lt (Heap.lt_size (N p hp).1)) trivial (R _) ?_
    · rw [List.mem_singleton.mp hb]
      show s₁.heap.objs.size < (s₁.heap.push _).objs.size
      rw [Heap.size_push]; exact Nat.lt_succ_self _
    · intro D C h tk m' ys news' F' N' o1 hn hC₀ hD₀ hCL hDL hCD offC fin
      refine ⟨m', hn, fun h'' hs'' => fin D h'' tk (F'.change hs'' hCL hC₀) (fun p hp => ?_) o1⟩
      refine ⟨hs''.extBut _ _ ?_ (N' p hp).1, (N' p hp).2⟩
      rcases List.mem_cons.mp hp with rfl | hp
      · exact Ne.symm hCD
      · exact offC p hp
  · refine wpAny_pyIter_ascii ha ?_
    refine block_T (Walks.strAscii hh s₁.heap.objs.size xt tx) hsz (fun i h st => by obtain ⟨o, e, _⟩ := st; exact ⟨o, e⟩) striter_st hcell hkind hx ⟨_, Heap.get?_push_size _ rfl, rfl, rfl⟩ (fun b hb => ?_)
      (F.keeps fun _ _ e => Heap.get?_push_of_some _ e) (N.grown fun _ _ e => Heap.get?_push_of_some _ e) (Nat.ne_of_lt F.ns.lt) (next_is_new F) (fun p hp => Nat.ne_of_lt (Heap.lt_size (N p hp).1)) trivial (R _) ?_
    · rw [List.mem_singleton.mp hb]
      show s₁.heap.objs.size < (s₁.heap.push _).objs.size
      rw [Heap.size_push]; exact Nat.lt_succ_self _
    · intro D C h tk m' ys news' F' N' o1 hn hC₀ hD₀ hCL hDL hCD offC fin
      refine ⟨m', hn, fun h'' hs'' => fin D h'' tk (F'.change hs'' hCL hC₀) (fun p hp => ?_) o1⟩
      refine ⟨hs''.extBut _ _ ?_ (N' p hp).1, (N' p hp).2⟩
      rcases List.mem_cons.mp hp with rfl | hp
      · exact Ne.symm hCD
      · exact offC p hp

/-- the source is a text and each sign gives one text -/
theorem srcText_map {elt : Expr} {x : Str} {scope : Scope} {cl : List (Str × Addr)} {Fin : Shared → List Value → List (Addr × Obj) → Prop} {xt : Str} {tx : Tok} {s₁ : Shared} {news : List (Addr × Obj)} (f : Nat → Str)
    (hh : A.handled = none) (F : Fr h₀ L s₁.heap m) (N : News h₀ L s₁.heap news) (hsz : xt.cps.size ≤ sizeLine)
    (turn : ∀ c t I oI C oC D m₂ ys h tk (E' : Value → Shared → Prop), c ∈ xt.cps.toList → NsObj oC m₂ → m₂ x = some (.str ⟨#[c]⟩ t) → Fr h₀ L h m → News h₀ L h ((I, oI) :: (C, oC) :: (D, lst ys) :: news) → Off3 I C D news → ((@Ne Nat I C) ∧ (@Ne Nat I D) ∧ (@Ne Nat C D)) →
      wpAny (model prog w) A (eval elt (compEnvC scope cl C env)) (CompEnd h₀ L m { s₁ with heap := h, toks := tk } I oI C oC D (lst ys) (fun _ => True) (fun y nw' => nw' = news ∧ ∃ t, y = .str (f c) t)) E' { s₁ with heap := h, toks := tk })
    (fin : ∀ g ys, StrsAre ys (xt.cps.toList.map f) → Fin { s₁ with heap := g } ys news) :
    SrcText prog w A h₀ L m env elt x scope cl Fin (.str xt tx) s₁ := by
  refine ⟨xt, tx, news, rfl, hh, F, N, hsz, fun g => ?_⟩
  refine comp_rest (fun i ys nw => nw = news ∧ StrsAre ys ((xt.cps.toList.take i).map f)) ⟨rfl, .nil⟩ ?_ ?_
  · rintro i v I oI C oC D m₂ ys nw h tk E' hi ⟨c, u, hc, rfl⟩ ⟨rfl, hys⟩ hC hx F N off ne
    have hc' : xt.cps.toList[i]? = some c := by simpa using hc
    refine wpAny_mono (turn c u I oI C oC D m₂ ys h tk E' (List.mem_of_getElem? hc') hC hx F N off ne) (fun y s₂ hq => ?_) fun _ _ e => e
    obtain ⟨h', tk', nw', e, F', N', off', hS, rfl, t, rfl⟩ := hq
    refine ⟨h', tk', nw', e, F', N', off', hS, rfl, ?_⟩
    rw [List.take_add_one, hc', List.map_append]
    exact hys.append' (.cons _ _ .nil)
  · rintro ys nw ⟨rfl, hys⟩
    have e : xt.cps.size = xt.cps.toList.length := by simp
    rw [e, List.take_length] at hys
    exact fin g ys hys

/-- the source is a text, the signs are kept that pass the test -/
theorem srcText_filter {ct elt : Expr} {x : Str} {scope : Scope} {cl : List (Str × Addr)} {Fin : Shared → List Value → List (Addr × Obj) → Prop} {xt : Str} {tx : Tok} {s₁ : Shared} {news : List (Addr × Obj)} (p : Nat → Bool)
    (hh : A.handled = none) (F : Fr h₀ L s₁.heap m) (N : News h₀ L s₁.heap news) (hsz : xt.cps.size ≤ sizeLine)
    (turn : ∀ c t I oI C oC D m₂ ys h tk (E' : Value → Shared → Prop), c ∈ xt.cps.toList → NsObj oC m₂ → m₂ x = some (.str ⟨#[c]⟩ t) → Fr h₀ L h m → News h₀ L h ((I, oI) :: (C, oC) :: (D, lst ys) :: news) → Off3 I C D news → ((@Ne Nat I C) ∧ (@Ne Nat I D) ∧ (@Ne Nat C D)) →
      wpAny (model prog w) A (isTrue ct (compEnvC scope cl C env) (eval ct (compEnvC scope cl C env))) (fun ok s' => if ok = true then
        wpAny (model prog w) A (eval elt (compEnvC scope cl C env)) (CompEnd h₀ L m { s₁ with heap := h, toks := tk } I oI C oC D (lst ys) (fun _ => True) (fun y nw' => nw' = news ∧ p c = true ∧ ∃ t, y = .str ⟨#[c]⟩ t)) E' s'
        else CompEnd h₀ L m { s₁ with heap := h, toks := tk } I oI C oC D (lst ys) (fun _ => True) (fun _ nw' => nw' = news ∧ p c = false) Value.none s') E' { s₁ with heap := h, toks := tk })
    (fin : ∀ g ys, StrsAre ys ((xt.cps.toList.filter p).map fun c => ⟨#[c]⟩) → Fin { s₁ with heap := g } ys news) :
    SrcTextT prog w A h₀ L m env ct elt x scope cl Fin (.str xt tx) s₁ := by
  refine ⟨xt, tx, news, rfl, hh, F, N, hsz, fun g => ?_⟩
  refine comp_restT (fun i ys nw => nw = news ∧ StrsAre ys (((xt.cps.toList.take i).filter p).map fun c => ⟨#[c]⟩)) ⟨rfl, .nil⟩ ?_ ?_
  · rintro i v I oI C oC D m₂ ys nw h tk E' hi ⟨c, u, hc, rfl⟩ ⟨rfl, hys⟩ hC hx F N off ne
    have hc' : xt.cps.toList[i]? = some c := by simpa using hc
    refine wpAny_mono (turn c u I oI C oC D m₂ ys h tk E' (List.mem_of_getElem? hc') hC hx F N off ne) (fun ok s₂ hq => ?_) fun _ _ e => e
    cases ok with
    | true =>
      simp only [if_true] at hq ⊢
      refine wpAny_mono hq (fun y s₃ hq => ?_) fun _ _ e => e
      obtain ⟨h', tk', nw', e, F', N', off', hS, rfl, hp, t, rfl⟩ := hq
      refine ⟨h', tk', nw', e, F', N', off', hS, rfl, ?_⟩
      rw [List.take_add_one, hc', List.filter_append, List.map_append]
      simp only [Option.toList_some, List.filter_cons, hp, if_true, List.filter_nil, List.map_cons, List.map_nil]
      exact hys.append' (.cons _ _ .nil)
    | false =>
      simp only [Bool.false_eq_true, if_false] at hq ⊢
      obtain ⟨h', tk', nw', e, F', N', off', hS, rfl, hp⟩ := hq
      refine ⟨h', tk', nw', e, F', N', off', hS, rfl, ?_⟩
      rw [List.take_add_one, hc', List.filter_append]
      simpa only [Option.toList_some, List.filter_cons, hp, Bool.false_eq_true, if_false, List.filter_nil, List.append_nil] using hys
  · rintro ys nw ⟨rfl, hys⟩
    have e : xt.cps.size = xt.cps.toList.length := by simp
    rw [e, List.take_length] at hys
    exact fin g ys hys

/-- turns over a list of texts, with a test: those that pass -/
theorem restT_strs {ct elt : Expr} {x : Str} {scope : Scope} {cl : List (Str × Addr)} {S : List (Addr × Obj) → Prop} {Fin : List Value → List (Addr × Obj) → Prop} {its : Array Value} {ss : List Str} {news : List (Addr × Obj)} (p : Str → Bool) (hi : StrsAre its.toList ss)
    (turn : ∀ y t I oI C oC D m₂ ys h tk (E' : Value → Shared → Prop), y ∈ ss → NsObj oC m₂ → m₂ x = some (.str y t) → Fr h₀ L h m → News h₀ L h ((I, oI) :: (C, oC) :: (D, lst ys) :: news) → Off3 I C D news → ((@Ne Nat I C) ∧ (@Ne Nat I D) ∧ (@Ne Nat C D)) →
      wpAny (model prog w) A (isTrue ct (compEnvC scope cl C env) (eval ct (compEnvC scope cl C env))) (fun ok s' => if ok = true then
        wpAny (model prog w) A (eval elt (compEnvC scope cl C env)) (CompEnd h₀ L m { s with heap := h, toks := tk } I oI C oC D (lst ys) S (fun z nw' => nw' = news ∧ p y = true ∧ ∃ t, z = .str y t)) E' s'
        else CompEnd h₀ L m { s with heap := h, toks := tk } I oI C oC D (lst ys) S (fun _ nw' => nw' = news ∧ p y = false) Value.none s') E' { s with heap := h, toks := tk })
    (fin : ∀ ys, StrsAre ys (ss.filter p) → Fin ys news) :
    CompRestT prog w A h₀ L m env ct elt x scope cl s S (fun i v => its[i]? = some v) Fin its.size 0 [] news := by
  have hlen : its.size = ss.length := by have := hi.length; simpa using this
  refine comp_restT (fun i ys nw => nw = news ∧ StrsAre ys ((ss.take i).filter p)) ⟨rfl, .nil⟩ ?_ ?_
  · rintro i v I oI C oC D m₂ ys nw h tk E' hi' hv ⟨rfl, hys⟩ hC hx F N off ne
    obtain ⟨y, t, rfl, hy⟩ := StrsAre.item hi i v (by simpa using hv)
    refine wpAny_mono (turn y t I oI C oC D m₂ ys h tk E' (List.mem_of_getElem? hy) hC hx F N off ne) (fun ok s₂ hq => ?_) fun _ _ e => e
    cases ok with
    | true =>
      simp only [if_true] at hq ⊢
      refine wpAny_mono hq (fun z s₃ hq => ?_) fun _ _ e => e
      obtain ⟨h', tk', nw', e, F', N', off', hS, rfl, hp, t, rfl⟩ := hq
      refine ⟨h', tk', nw', e, F', N', off', hS, rfl, ?_⟩
      rw [List.take_add_one, hy, List.filter_append]
      simp only [Option.toList_some, List.filter_cons, hp, if_true, List.filter_nil]
      exact hys.append' (.cons _ _ .nil)
    | false =>
      simp only [Bool.false_eq_true, if_false] at hq ⊢
      obtain ⟨h', tk', nw', e, F', N', off', hS, rfl, hp⟩ := hq
      refine ⟨h', tk', nw', e, F', N', off', hS, rfl, ?_⟩
      rw [List.take_add_one, hy, List.filter_append]
      simpa only [Option.toList_some, List.filter_cons, hp, Bool.false_eq_true, if_false, List.filter_nil, List.append_nil] using hys
  · rintro ys nw ⟨rfl, hys⟩
    rw [hlen, List.take_length] at hys
    exact fin ys hys

/-- turns over a list of ints, with a test -/
theorem restT_ints {ct elt : Expr} {x : Str} {scope : Scope} {cl : List (Str × Addr)} {S : List (Addr × Obj) → Prop} {Fin : List Value → List (Addr × Obj) → Prop} {vs : List Value} {ns : List Int} {news : List (Addr × Obj)} (p : Int → Bool) (hi : IntsAre vs ns)
    (turn : ∀ k t I oI C oC D m₂ ys h tk (E' : Value → Shared → Prop), k ∈ ns → NsObj oC m₂ → m₂ x = some (.int k t) → Fr h₀ L h m → News h₀ L h ((I, oI) :: (C, oC) :: (D, lst ys) :: news) → Off3 I C D news → ((@Ne Nat I C) ∧ (@Ne Nat I D) ∧ (@Ne Nat C D)) →
      wpAny (model prog w) A (isTrue ct (compEnvC scope cl C env) (eval ct (compEnvC scope cl C env))) (fun ok s' => if ok = true then
        wpAny (model prog w) A (eval elt (compEnvC scope cl C env)) (CompEnd h₀ L m { s with heap := h, toks := tk } I oI C oC D (lst ys) S (fun z nw' => nw' = news ∧ p k = true ∧ ∃ t, z = .int k t)) E' s'
        else CompEnd h₀ L m { s with heap := h, toks := tk } I oI C oC D (lst ys) S (fun _ nw' => nw' = news ∧ p k = false) Value.none s') E' { s with heap := h, toks := tk })
    (fin : ∀ ys, IntsAre ys (ns.filter p) → Fin ys news) :
    CompRestT prog w A h₀ L m env ct elt x scope cl s S (fun i v => vs.toArray[i]? = some v) Fin vs.toArray.size 0 [] news := by
  have hlen : vs.toArray.size = ns.length := by simp [hi.length]
  refine comp_restT (fun i ys nw => nw = news ∧ IntsAre ys ((ns.take i).filter p)) ⟨rfl, .nil⟩ ?_ ?_
  · rintro i v I oI C oC D m₂ ys nw h tk E' hi' hv ⟨rfl, hys⟩ hC hx F N off ne
    obtain ⟨k, t, rfl, hy⟩ := IntsAre.at hi i v (by simpa using hv)
    refine wpAny_mono (turn k t I oI C oC D m₂ ys h tk E' (List.mem_of_getElem? hy) hC hx F N off ne) (fun ok s₂ hq => ?_) fun _ _ e => e
    cases ok with
    | true =>
      simp only [if_true] at hq ⊢
      refine wpAny_mono hq (fun z s₃ hq => ?_) fun _ _ e => e
      obtain ⟨h', tk', nw', e, F', N', off', hS, rfl, hp, t, rfl⟩ := hq
      refine ⟨h', tk', nw', e, F', N', off', hS, rfl, ?_⟩
      rw [List.take_add_one, hy, List.filter_append]
      simp only [Option.toList_some, List.filter_cons, hp, if_true, List.filter_nil]
      exact IntsAre.append hys (.cons _ _ .nil)
    | false =>
      simp only [Bool.false_eq_true, if_false] at hq ⊢
      obtain ⟨h', tk', nw', e, F', N', off', hS, rfl, hp⟩ := hq
      refine ⟨h', tk', nw', e, F', N', off', hS, rfl, ?_⟩
      rw [List.take_add_one, hy, List.filter_append]
      simpa only [Option.toList_some, List.filter_cons, hp, Bool.false_eq_true, if_false, List.filter_nil, List.append_nil] using hys
  · rintro ys nw ⟨rfl, hys⟩
    rw [hlen, List.take_length] at hys
    exact fin ys hys
end
end
section
variable {prog : Program} {w : World} {A A₀ : Around} {s : Shared} {K : Frag} {L : Addr} {h₀ base : Heap} {m mg mb : Str → Option Value} {news mine : List (Addr × Obj)} {p : Program} {loose : List Str} {mean : ExcName → Option Value}
/-- a def whose names are caught by blocks within it -/
theorem enter_partC {env : Env} {outer : List Env} {R : Result → Shared → Prop} {name qual : Str} {params : Arguments} {body : List Stmt} {scope : Scope} {dV kV doc pm cdv ct oc : Value} {an od : Option Addr} {osl : Array (Option Value)} {f : Addr} {args : Args} {binds : List (Str × Value)}
    (hm : ∀ q ∈ mine, q ∈ news)
    (B : Below A₀ base outer h₀) (F : Fr h₀ L s.heap m) (X₀ : K.In h₀) (N : News h₀ L s.heap news) (T : Top p loose mean mg mb h₀) (hA : A.frames = some (env :: outer)) (hf : env.frame = some L) (hke : env.scope.kind = .function)
    (ho : K.lookup f = some ⟨oc, od, .func (fnOf name qual params body scope dV kV doc pm an cdv ct), osl⟩) (hcd : codeIn K cdv qual = true) (hroom : A.depth < recursionLimit)
    (hbind : BindsTo s (fnOf name qual params body scope dV kV doc pm an cdv ct) args binds) (hkind : (binds.all fun y => scope.names.lookup y.1 == some .local || scope.names.lookup y.1 == some .cell) = true)
    (hnd : ((cellsFrom 0 scope.names []).map (·.1)).Nodup)
    (h : ∀ g L' h₁ tk cells, Fr h₀ L g m → Fr g L' h₁ (bindL (envOfC qual scope L' f cdv).kindOf binds fun _ => none) → News g L' h₁ (cells ++ mine) →
      CellsAre (bindC (envOfC qual scope L' f cdv).kindOf binds fun _ => none) (cellsFrom (L' + 1) scope.names []) cells → Below A base (env :: outer) g → K.In g → Top p loose mean mg mb g → (∀ p ∈ mine, p.1 < L') →
      (∀ (h' : Heap) (l l' : List (Addr × Obj)), (∀ b o, g.get? b = some o → h'.get? b = some o) → News h₀ L h' l → (∀ q ∈ l', q ∈ l ∨ (q ∈ news ∧ q.1 ∉ mine.map (·.1))) → News h₀ L h' l') →
      wpAny (model prog w) (A.deeper (envOfC qual scope L' f cdv)) (execs body (envOfC qual scope L' f cdv))
        (fun fl s' => LeaveK h₀ L m g R (match fl with | .ret v => v | _ => .none) s')
        (fun e s' => wpAny (model prog w) (A.deeper (envOfC qual scope L' f cdv)) (leaving (envOfC qual scope L' f cdv) e) (fun _ s'' => R (.error e) s'') (fun e' s'' => R (.error e') s'') s')
        { s with heap := h₁, toks := tk })
    (hco : scope.isCoroutine = false) (hgen : scope.isGenerator = false) (hk : scope.kind = .function) : codeAny (model prog w) A (.call (.ref f) args) R s := by
  have Nm : News h₀ L s.heap mine := fun q hq => N q (hm q hq)
  obtain ⟨FG, BG, st, lv⟩ := groundX (R := R) B F Nm hA hf hke
  have hlim := T.nolimit
  refine codeAny_call_function (fd := fnOf name qual params body scope dV kV doc pm an cdv ct) hroom ((X₀.keeps F.keep) _ _ ho) rfl hco hgen rfl (codeRec_of (X₀.keeps F.keep) hcd) (hbind _ _ _ _ ?_)
  refine wpAny_newFunctionEnv_cells hk (kindsX hkind _) fun env' he s' x => ?_
  subst he
  refine ⟨(hlim.keeps F.keep).keeps x.toInCall.keep, codeAny_func ?_⟩
  obtain ⟨h₁, tk, rfl, _⟩ := x.done
  have hk₁ := x.toInCall.keep
  obtain ⟨cells, NC, Y⟩ := Cl.news (h₀ := s.heap) (Nat.le_refl _) fun n c hm => ⟨x.cell n c (lookup_of_mem_nodup (cellsFrom_names scope.names 0 (s.heap.objs.size + 1) [] [] rfl ▸ hnd) hm), x.above n c hm⟩
  refine wpAny_mono (h _ s.heap.objs.size h₁ tk cells FG ⟨x.toInCall.ns, fun b o e => hk₁ b o (of_hideAll _ e), Nat.le_of_eq (hideAll_size _ _)⟩ (fun p hp => ?_) Y BG (X₀.keeps st) (T.keeps st) (fun p hp => Heap.lt_size (Nm p hp).1) ?_) (fun fl s' hl => lv _ _ hl) fun _ _ y => y
  · rcases List.mem_append.mp hp with hp | hp
    · refine ⟨(NC p hp).1, (NC p hp).2.1, ?_⟩
      cases q : (hideAll s.heap (mine.map (·.1))).get? p.1 with
      | none => rfl
      | some o => have := of_hideAll _ q; rw [(NC p hp).2.2] at this; cases this
    · exact ⟨hk₁ _ _ (Nm p hp).1, Nat.ne_of_lt (Heap.lt_size (Nm p hp).1), hideAll_none _ (List.mem_map_of_mem hp)⟩
  · intro h' l l' hk' Nl hl q hq
    rcases hl q hq with hq | ⟨hq, hn⟩
    · exact Nl q hq
    · exact ⟨hk' _ _ (hideAll_get _ (N q hq).1 hn), (N q hq).2.1, (N q hq).2.2⟩

theorem enter_pureC {env : Env} {outer : List Env} {R : Result → Shared → Prop} {name qual : Str} {params : Arguments} {body : List Stmt} {scope : Scope} {dV kV doc pm cdv ct oc : Value} {an od : Option Addr} {osl : Array (Option Value)} {f : Addr} {args : Args} {binds : List (Str × Value)}
    (B : Below A₀ base outer h₀) (F : Fr h₀ L s.heap m) (X₀ : K.In h₀) (N : News h₀ L s.heap news) (T : Top p loose mean mg mb h₀) (hA : A.frames = some (env :: outer)) (hf : env.frame = some L) (hke : env.scope.kind = .function)
    (ho : K.lookup f = some ⟨oc, od, .func (fnOf name qual params body scope dV kV doc pm an cdv ct), osl⟩) (hcd : codeIn K cdv qual = true) (hroom : A.depth < recursionLimit)
    (hbind : BindsTo s (fnOf name qual params body scope dV kV doc pm an cdv ct) args binds) (hkind : (binds.all fun y => scope.names.lookup y.1 == some .local || scope.names.lookup y.1 == some .cell) = true)
    (hnd : ((cellsFrom 0 scope.names []).map (·.1)).Nodup)
    (h : ∀ g L' h₁ tk cells, Fr h₀ L g m → Fr g L' h₁ (bindL (envOfC qual scope L' f cdv).kindOf binds fun _ => none) → News g L' h₁ cells →
      CellsAre (bindC (envOfC qual scope L' f cdv).kindOf binds fun _ => none) (cellsFrom (L' + 1) scope.names []) cells → Below A base (env :: outer) g → K.In g → Top p loose mean mg mb g →
      (∀ (h' : Heap), (∀ b o, g.get? b = some o → h'.get? b = some o) → News h₀ L h' news) →
      wpAny (model prog w) (A.deeper (envOfC qual scope L' f cdv)) (execs body (envOfC qual scope L' f cdv))
        (fun fl s' => LeaveK h₀ L m g R (match fl with | .ret v => v | _ => .none) s')
        (fun e s' => wpAny (model prog w) (A.deeper (envOfC qual scope L' f cdv)) (leaving (envOfC qual scope L' f cdv) e) (fun _ s'' => R (.error e) s'') (fun e' s'' => R (.error e') s'') s')
        { s with heap := h₁, toks := tk })
    (hco : scope.isCoroutine = false) (hgen : scope.isGenerator = false) (hk : scope.kind = .function) : codeAny (model prog w) A (.call (.ref f) args) R s :=
  enter_partC (mine := []) (fun _ hq => nomatch hq) B F X₀ N T hA hf hke ho hcd hroom hbind hkind hnd
    (fun g L' h₁ tk cells FG F' N' Y B' X' T' _ hN => h g L' h₁ tk cells FG F' (by rw [List.append_nil] at N'; exact N') Y B' X' T' fun h' hk' => hN h' [] news hk' News.nil fun q hq => .inr ⟨hq, by simp⟩) hco hgen hk
end
local macro_rules | `(tactic| walk_at "pyIter ref") => `(tactic| (k_here; k_extra "pyIter ref"))
local macro_rules | `(tactic| walk_at "pyIter str") => `(tactic| (k_here; k_extra "pyIter str"))
local macro_rules | `(tactic| walk_at "exec For Name Name cons nil") => `(tactic| (k_here; k_extra "exec For Name Name cons nil"))
local macro_rules | `(tactic| walk_at "exec For Name Call cons nil") => `(tactic| (k_here; k_extra "exec For Name Call cons nil"))
local macro_rules | `(tactic| walk_at "exec For Tuple Name cons nil") => `(tactic| (k_here; k_extra "exec For Tuple Name cons nil"))
local macro_rules | `(tactic| walk_at "eval ListComp") => `(tactic| (k_here; k_extra "eval ListComp"))
local macro_rules | `(tactic| walk_at "exec Assign cons ListComp") => `(tactic| (k_here; k_extra "exec Assign cons ListComp"))
local macro_rules | `(tactic| walk_at "CompSrc") => `(tactic| (k_here; k_extra "CompSrc"))
local macro_rules | `(tactic| walk_at "CompRest") => `(tactic| (k_here; k_extra "CompRest"))
local macro_rules | `(tactic| walk_at "CompRestT") => `(tactic| (k_here; k_extra "CompRestT"))
local macro_rules | `(tactic| walk_at "CompSrcT") => `(tactic| (k_here; k_extra "CompSrcT"))
local macro_rules | `(tactic| walk_at "call ref") => `(tactic| (k_here; k_extra "call ref"))
local macro_rules | `(tactic| walk_at "call builtin:str.join") => `(tactic| (k_here; k_extra "call builtin:str.join"))
local macro_rules | `(tactic| walk_at "call builtin:str.split") => `(tactic| (k_here; k_extra "call builtin:str.split"))
local macro_rules | `(tactic| walk_at "compareOp Eq ref ref") => `(tactic| (k_here; k_extra "compareOp Eq ref ref"))
local macro_rules | `(tactic| walk_at "compareOp NotEq ref ref") => `(tactic| (k_here; k_extra "compareOp NotEq ref ref"))
local macro_rules | `(tactic| walk_at "subscriptTail") => `(tactic| (k_here; k_extra "subscriptTail"))
local macro_rules | `(tactic| walk_at "getItem ref int") => `(tactic| (k_here; k_extra "getItem ref int"))
local macro_rules | `(tactic| walk_at "setItem ref int") => `(tactic| (k_here; k_extra "setItem ref int"))
local macro_rules | `(tactic| walk_at "call type:enumerate") => `(tactic| (k_here; k_extra "call type:enumerate"))
local macro_rules | `(tactic| walk_at "pyIter") => `(tactic| (k_here; k_extra "pyIter"))
local macro_rules | `(tactic| walk_at "exec Try") => `(tactic| (k_here; k_extra "exec Try"))
local macro_rules | `(tactic| walk_at "exec Raise some none") => `(tactic| (k_here; k_extra "exec Raise some none"))
local macro_rules | `(tactic| walk_at "eval Subscript") => `(tactic| (k_here; k_extra "eval Subscript"))

theorem litA : Str.ofString "a" = ⟨#[97]⟩ := by decide +kernel
theorem litz : Str.ofString "z" = ⟨#[122]⟩ := by decide +kernel
theorem litAA : Str.ofString "A" = ⟨#[65]⟩ := by decide +kernel
theorem litZZ : Str.ofString "Z" = ⟨#[90]⟩ := by decide +kernel
theorem lit0 : Str.ofString "0" = ⟨#[48]⟩ := by decide +kernel
theorem lit9 : Str.ofString "9" = ⟨#[57]⟩ := by decide +kernel
theorem litU : Str.ofString "_" = ⟨#[95]⟩ := by decide +kernel
theorem litC : Str.ofString ":" = ⟨#[58]⟩ := by decide +kernel
theorem litM : Str.ofString "-" = ⟨#[45]⟩ := by decide +kernel
theorem litD : Str.ofString "." = ⟨#[46]⟩ := by decide +kernel
theorem litEmpty : Str.ofString "" = ⟨#[]⟩ := by decide +kernel
theorem litSp : Str.ofString " \t\n\x0d" = ⟨#[32, 9, 10, 13]⟩ := by decide +kernel
theorem found_sp (c : Nat) : (!(Builtin.Str.occurrences ⟨#[32, 9, 10, 13]⟩ ⟨#[c]⟩ 0 (Str.length ⟨#[32, 9, 10, 13]⟩) 1).isEmpty) = spaceN c := by
  rw [StrLaws.found_one]
  simp [spaceN, Bool.or_assoc]
theorem sp1 (c : Nat) : (!(Builtin.Str.occurrences (Str.ofString " \t\n\x0d") (one c) 0 (Str.ofString " \t\n\x0d").length 1).isEmpty) = spaceN c := by
  rw [litSp]; exact found_sp c
theorem sp2 {c : Nat} (h : (Builtin.Str.occurrences (Str.ofString " \t\n\x0d") (one c) 0 (Str.ofString " \t\n\x0d").length 1).isEmpty = false) : (one c != Str.ofString "") = spaceN c := by
  rw [← sp1, h, litEmpty]; simp [bne, BEq.beq, one]
theorem sp3 {c : Nat} (h : (c : Int) < 32) : (!(Builtin.Str.occurrences (Str.ofString " \t\n\x0d") (one c) 0 (Str.ofString " \t\n\x0d").length 1).isEmpty) = charN c := by
  rw [sp1]; unfold charN; rw [if_pos (by omega)]
theorem ch2 {c : Nat} (h : ¬ (c : Int) < 32) : inR (c : Int) charT = charN c := by
  unfold charN; rw [if_neg (by omega)]
theorem one_beq (c d : Nat) : (one c == one d) = decide (c = d) := by
  rw [Bool.eq_iff_iff]; simp
theorem c_small (w : World) (mean : ExcName → Option Value) (mg mb : Str → Option Value) (c : Nat) (t : Tok) :
    SaysV w mean mg mb 1 95 [.str (one c) t] (fun _ => .bool (smallN c)) := by
  k_with_none
  w_top off
  unfold SaysV
  k_fill
  intro news dp un gd cn cs a ccd cl outer A₀ base h₀ L m s Q E B F X N T hk hd hu hret
  refine wpAny_call ?_
  k_dflt (refine' enter_pure ?k1 ?k2 ?k3 ?k4 ?k5 ?kA ?kF ?kK ?k6 ?k7 ?k8 ?k9 ?kB ?_ ?c2 ?c3 ?c4 ?c5; (case kA => exact rfl); (case kF => exact rfl); (case kK => assumption); (case k1 => k_asm); (case k2 => k_asm); (case k3 => k_asm); (case k4 => k_asm); (case k5 => k_asm); (case k6 => k_is); (case k7 => k_is); (case k8 => ktr_room); (case k9 => exact BindsTo.of_eq rfl); (case c5 => decide); (case kB => exact locs rfl); (case c2 => exact rfl); (case c3 => exact rfl); (case c4 => exact rfl); k_whole; intro g' L' h' FG' F' N' B' X' T' lt' hN'; (try dsimp only); (try k_lift B'); (try k_fold))
  k_steps
  all_goals (refine' cb_retB hret ?_ (by k_asm) (by exact hN' _ (Fr.keep (by k_asm))))
  all_goals (simp only [litA, litz] at *)
  all_goals (apply Bool.eq_iff_iff.mpr)
  all_goals (simp [smallN, List.cons_lt_cons_iff] at *)
  all_goals omega
theorem c_space (w : World) (mean : ExcName → Option Value) (mg mb : Str → Option Value) (c : Nat) (t : Tok) :
    SaysV w mean mg mb 1 81 [.str (one c) t] (fun _ => .bool (spaceN c)) := by
  k_with_none
  w_top off
  unfold SaysV
  k_fill
  intro news dp un gd cn cs a ccd cl outer A₀ base h₀ L m s Q E B F X N T hk hd hu hret
  refine wpAny_call ?_
  k_dflt (refine' enter_pure ?k1 ?k2 ?k3 ?k4 ?k5 ?kA ?kF ?kK ?k6 ?k7 ?k8 ?k9 ?kB ?_ ?c2 ?c3 ?c4 ?c5; (case kA => exact rfl); (case kF => exact rfl); (case kK => assumption); (case k1 => k_asm); (case k2 => k_asm); (case k3 => k_asm); (case k4 => k_asm); (case k5 => k_asm); (case k6 => k_is); (case k7 => k_is); (case k8 => ktr_room); (case k9 => exact BindsTo.of_eq rfl); (case c5 => decide); (case kB => exact locs rfl); (case c2 => exact rfl); (case c3 => exact rfl); (case c4 => exact rfl); k_whole; intro g' L' h' FG' F' N' B' X' T' lt' hN'; (try dsimp only); (try k_lift B'); (try k_fold))
  k_steps
  all_goals (refine' cb_retB hret ?_ (by k_asm) (by exact hN' _ (Fr.keep (by k_asm))))
  · exact sp1 c
  · exact sp2 (by simp_all)
theorem c_rangesC (w : World) (mean : ExcName → Option Value) (mg mb : Str → Option Value) (c : Int) (t : Tok) :
    SaysV w mean mg mb 1 74 [.int c t, .ref 50] (fun _ => .bool (inR c charT)) := by
  k_with_none
  w_top off
  k_with_none
  k_with "exec For Tuple Name cons nil" => ((rename Fr _ _ _ _ => lF'); (with_unfolding_all refine' For_turns lF' ?_; k_whole))
  unfold SaysV
  k_fill
  intro news dp un gd cn cs a ccd cl outer A₀ base h₀ L m s Q E B F X N T hk hd hu hret
  refine wpAny_call ?_
  k_dflt (refine' enter_pure ?k1 ?k2 ?k3 ?k4 ?k5 ?kA ?kF ?kK ?k6 ?k7 ?k8 ?k9 ?kB ?_ ?c2 ?c3 ?c4 ?c5; (case kA => exact rfl); (case kF => exact rfl); (case kK => assumption); (case k1 => k_asm); (case k2 => k_asm); (case k3 => k_asm); (case k4 => k_asm); (case k5 => k_asm); (case k6 => k_is); (case k7 => k_is); (case k8 => ktr_room); (case k9 => exact BindsTo.of_eq rfl); (case c5 => decide); (case kB => exact locs rfl); (case c2 => exact rfl); (case c3 => exact rfl); (case c4 => exact rfl); k_whole; intro g' L' h' FG' F' N' B' X' T' lt' hN'; (try dsimp only); (try k_lift B'); (try k_fold))
  k_steps
  all_goals (refine' cb_retB hret ?_ (by k_asm) (by exact hN' _ (Fr.keep (by k_asm))))
  all_goals (simp only [inR, charT])
  all_goals (repeat (first | rw [if_pos (by assumption)] | rw [if_neg (by assumption)]))
theorem c_rangesS (w : World) (mean : ExcName → Option Value) (mg mb : Str → Option Value) (c : Int) (t : Tok) :
    SaysV w mean mg mb 1 74 [.int c t, .ref 63] (fun _ => .bool (inR c startT)) := by
  k_with_none
  w_top off
  k_with_none
  k_with "exec For Tuple Name cons nil" => ((rename Fr _ _ _ _ => lF'); (with_unfolding_all refine' For_turns lF' ?_; k_whole))
  unfold SaysV
  k_fill
  intro news dp un gd cn cs a ccd cl outer A₀ base h₀ L m s Q E B F X N T hk hd hu hret
  refine wpAny_call ?_
  k_dflt (refine' enter_pure ?k1 ?k2 ?k3 ?k4 ?k5 ?kA ?kF ?kK ?k6 ?k7 ?k8 ?k9 ?kB ?_ ?c2 ?c3 ?c4 ?c5; (case kA => exact rfl); (case kF => exact rfl); (case kK => assumption); (case k1 => k_asm); (case k2 => k_asm); (case k3 => k_asm); (case k4 => k_asm); (case k5 => k_asm); (case k6 => k_is); (case k7 => k_is); (case k8 => ktr_room); (case k9 => exact BindsTo.of_eq rfl); (case c5 => decide); (case kB => exact locs rfl); (case c2 => exact rfl); (case c3 => exact rfl); (case c4 => exact rfl); k_whole; intro g' L' h' FG' F' N' B' X' T' lt' hN'; (try dsimp only); (try k_lift B'); (try k_fold))
  k_steps
  all_goals (refine' cb_retB hret ?_ (by k_asm) (by exact hN' _ (Fr.keep (by k_asm))))
  all_goals (simp only [inR, startT])
  all_goals (repeat (first | rw [if_pos (by assumption)] | rw [if_neg (by assumption)]))
theorem c_rangesM (w : World) (mean : ExcName → Option Value) (mg mb : Str → Option Value) (c : Int) (t : Tok) :
    SaysV w mean mg mb 1 74 [.int c t, .ref 67] (fun _ => .bool (inR c moreT)) := by
  k_with_none
  w_top off
  k_with_none
  k_with "exec For Tuple Name cons nil" => ((rename Fr _ _ _ _ => lF'); (with_unfolding_all refine' For_turns lF' ?_; k_whole))
  unfold SaysV
  k_fill
  intro news dp un gd cn cs a ccd cl outer A₀ base h₀ L m s Q E B F X N T hk hd hu hret
  refine wpAny_call ?_
  k_dflt (refine' enter_pure ?k1 ?k2 ?k3 ?k4 ?k5 ?kA ?kF ?kK ?k6 ?k7 ?k8 ?k9 ?kB ?_ ?c2 ?c3 ?c4 ?c5; (case kA => exact rfl); (case kF => exact rfl); (case kK => assumption); (case k1 => k_asm); (case k2 => k_asm); (case k3 => k_asm); (case k4 => k_asm); (case k5 => k_asm); (case k6 => k_is); (case k7 => k_is); (case k8 => ktr_room); (case k9 => exact BindsTo.of_eq rfl); (case c5 => decide); (case kB => exact locs rfl); (case c2 => exact rfl); (case c3 => exact rfl); (case c4 => exact rfl); k_whole; intro g' L' h' FG' F' N' B' X' T' lt' hN'; (try dsimp only); (try k_lift B'); (try k_fold))
  k_steps
  all_goals (refine' cb_retB hret ?_ (by k_asm) (by exact hN' _ (Fr.keep (by k_asm))))
  all_goals (simp only [inR, moreT])
  all_goals (repeat (first | rw [if_pos (by assumption)] | rw [if_neg (by assumption)]))
local macro_rules | `(tactic| walk_at "call ref") => `(tactic| ((with_reducible show wpAny _ _ (call (Value.ref 81) _) _ _ _); k_here; k_dflt (refine' saysV_use (c_space _ _ _ _ _ _) ?k1 ?k2 ?k3 ?k4 ?k5 ?kK ?kd ?ku ?_; (case k1 => k_asm); (case k2 => k_asm); (case k3 => k_asm); (case k4 => k_asm); (case k5 => k_asm); (case kK => first | exact rfl | assumption); (case kd => ktr_room); (case ku => ktr_units)); intro t9 h9 tk9 F9 N9; (try dsimp only); (try k_sweep); (try k_fold)))
local macro_rules | `(tactic| walk_at "call ref") => `(tactic| ((with_reducible show wpAny _ _ (call (Value.ref 95) _) _ _ _); k_here; k_dflt (refine' saysV_use (c_small _ _ _ _ _ _) ?k1 ?k2 ?k3 ?k4 ?k5 ?kK ?kd ?ku ?_; (case k1 => k_asm); (case k2 => k_asm); (case k3 => k_asm); (case k4 => k_asm); (case k5 => k_asm); (case kK => first | exact rfl | assumption); (case kd => ktr_room); (case ku => ktr_units)); intro t9 h9 tk9 F9 N9; (try dsimp only); (try k_sweep); (try k_fold)))
local macro_rules | `(tactic| walk_at "call ref") => `(tactic| ((with_reducible show wpAny _ _ (call (Value.ref 74) [_, Value.ref 50]) _ _ _); k_here; k_dflt (refine' saysV_use (c_rangesC _ _ _ _ _ _) ?k1 ?k2 ?k3 ?k4 ?k5 ?kK ?kd ?ku ?_; (case k1 => k_asm); (case k2 => k_asm); (case k3 => k_asm); (case k4 => k_asm); (case k5 => k_asm); (case kK => first | exact rfl | assumption); (case kd => ktr_room); (case ku => ktr_units)); intro t9 h9 tk9 F9 N9; (try dsimp only); (try k_sweep); (try k_fold)))
local macro_rules | `(tactic| walk_at "call ref") => `(tactic| ((with_reducible show wpAny _ _ (call (Value.ref 74) [_, Value.ref 63]) _ _ _); k_here; k_dflt (refine' saysV_use (c_rangesS _ _ _ _ _ _) ?k1 ?k2 ?k3 ?k4 ?k5 ?kK ?kd ?ku ?_; (case k1 => k_asm); (case k2 => k_asm); (case k3 => k_asm); (case k4 => k_asm); (case k5 => k_asm); (case kK => first | exact rfl | assumption); (case kd => ktr_room); (case ku => ktr_units)); intro t9 h9 tk9 F9 N9; (try dsimp only); (try k_sweep); (try k_fold)))
local macro_rules | `(tactic| walk_at "call ref") => `(tactic| ((with_reducible show wpAny _ _ (call (Value.ref 74) [_, Value.ref 67]) _ _ _); k_here; k_dflt (refine' saysV_use (c_rangesM _ _ _ _ _ _) ?k1 ?k2 ?k3 ?k4 ?k5 ?kK ?kd ?ku ?_; (case k1 => k_asm); (case k2 => k_asm); (case k3 => k_asm); (case k4 => k_asm); (case k5 => k_asm); (case kK => first | exact rfl | assumption); (case kd => ktr_room); (case ku => ktr_units)); intro t9 h9 tk9 F9 N9; (try dsimp only); (try k_sweep); (try k_fold)))
theorem c_char (w : World) (mean : ExcName → Option Value) (mg mb : Str → Option Value) (c : Nat) (t : Tok) :
    SaysV w mean mg mb 2 88 [.str (one c) t] (fun _ => .bool (charN c)) := by
  k_with_none
  w_top off
  unfold SaysV
  k_fill
  intro news dp un gd cn cs a ccd cl outer A₀ base h₀ L m s Q E B F X N T hk hd hu hret
  refine wpAny_call ?_
  k_dflt (refine' enter_pure ?k1 ?k2 ?k3 ?k4 ?k5 ?kA ?kF ?kK ?k6 ?k7 ?k8 ?k9 ?kB ?_ ?c2 ?c3 ?c4 ?c5; (case kA => exact rfl); (case kF => exact rfl); (case kK => assumption); (case k1 => k_asm); (case k2 => k_asm); (case k3 => k_asm); (case k4 => k_asm); (case k5 => k_asm); (case k6 => k_is); (case k7 => k_is); (case k8 => ktr_room); (case k9 => exact BindsTo.of_eq rfl); (case c5 => decide); (case kB => exact locs rfl); (case c2 => exact rfl); (case c3 => exact rfl); (case c4 => exact rfl); k_whole; intro g' L' h' FG' F' N' B' X' T' lt' hN'; (try dsimp only); (try k_lift B'); (try k_fold))
  k_steps
  all_goals (refine' cb_retB hret ?_ (by k_asm) (by exact hN' _ (Fr.keep (by k_asm))))
  · exact sp3 (by assumption)
  · exact ch2 (by assumption)
theorem c_start (w : World) (mean : ExcName → Option Value) (mg mb : Str → Option Value) (c : Nat) (t : Tok) :
    SaysV w mean mg mb 2 102 [.str (one c) t] (fun _ => .bool (startN c)) := by
  k_with_none
  w_top off
  unfold SaysV
  k_fill
  intro news dp un gd cn cs a ccd cl outer A₀ base h₀ L m s Q E B F X N T hk hd hu hret
  refine wpAny_call ?_
  k_dflt (refine' enter_pure ?k1 ?k2 ?k3 ?k4 ?k5 ?kA ?kF ?kK ?k6 ?k7 ?k8 ?k9 ?kB ?_ ?c2 ?c3 ?c4 ?c5; (case kA => exact rfl); (case kF => exact rfl); (case kK => assumption); (case k1 => k_asm); (case k2 => k_asm); (case k3 => k_asm); (case k4 => k_asm); (case k5 => k_asm); (case k6 => k_is); (case k7 => k_is); (case k8 => ktr_room); (case k9 => exact BindsTo.of_eq rfl); (case c5 => decide); (case kB => exact locs rfl); (case c2 => exact rfl); (case c3 => exact rfl); (case c4 => exact rfl); k_whole; intro g' L' h' FG' F' N' B' X' T' lt' hN'; (try dsimp only); (try k_lift B'); (try k_fold))
  k_steps
  all_goals (refine' cb_retB hret ?_ (by k_asm) (by exact hN' _ (Fr.keep (by k_asm))))
  all_goals (simp only [litAA, litZZ, litU, litC, one_beq] at *)
  all_goals (apply Bool.eq_iff_iff.mpr)
  all_goals (simp only [startN])
  all_goals (first | rw [if_pos (by omega)] | rw [if_neg (by omega)])
  all_goals (simp [List.cons_lt_cons_iff, *] at *)
  all_goals (try omega)
local macro_rules | `(tactic| walk_at "call ref") => `(tactic| ((with_reducible show wpAny _ _ (call (Value.ref 88) _) _ _ _); k_here; k_dflt (refine' saysV_use (c_char _ _ _ _ _ _) ?k1 ?k2 ?k3 ?k4 ?k5 ?kK ?kd ?ku ?_; (case k1 => k_asm); (case k2 => k_asm); (case k3 => k_asm); (case k4 => k_asm); (case k5 => k_asm); (case kK => first | exact rfl | assumption); (case kd => ktr_room); (case ku => ktr_units)); intro t9 h9 tk9 F9 N9; (try dsimp only); (try k_sweep); (try k_fold)))
local macro_rules | `(tactic| walk_at "call ref") => `(tactic| ((with_reducible show wpAny _ _ (call (Value.ref 102) _) _ _ _); k_here; k_dflt (refine' saysV_use (c_start _ _ _ _ _ _) ?k1 ?k2 ?k3 ?k4 ?k5 ?kK ?kd ?ku ?_; (case k1 => k_asm); (case k2 => k_asm); (case k3 => k_asm); (case k4 => k_asm); (case k5 => k_asm); (case kK => first | exact rfl | assumption); (case kd => ktr_room); (case ku => ktr_units)); intro t9 h9 tk9 F9 N9; (try dsimp only); (try k_sweep); (try k_fold)))
theorem c_name (w : World) (mean : ExcName → Option Value) (mg mb : Str → Option Value) (c : Nat) (t : Tok) :
    SaysV w mean mg mb 3 109 [.str (one c) t] (fun _ => .bool (nameN c)) := by
  k_with_none
  w_top off
  unfold SaysV
  k_fill
  intro news dp un gd cn cs a ccd cl outer A₀ base h₀ L m s Q E B F X N T hk hd hu hret
  refine wpAny_call ?_
  k_dflt (refine' enter_pure ?k1 ?k2 ?k3 ?k4 ?k5 ?kA ?kF ?kK ?k6 ?k7 ?k8 ?k9 ?kB ?_ ?c2 ?c3 ?c4 ?c5; (case kA => exact rfl); (case kF => exact rfl); (case kK => assumption); (case k1 => k_asm); (case k2 => k_asm); (case k3 => k_asm); (case k4 => k_asm); (case k5 => k_asm); (case k6 => k_is); (case k7 => k_is); (case k8 => ktr_room); (case k9 => exact BindsTo.of_eq rfl); (case c5 => decide); (case kB => exact locs rfl); (case c2 => exact rfl); (case c3 => exact rfl); (case c4 => exact rfl); k_whole; intro g' L' h' FG' F' N' B' X' T' lt' hN'; (try dsimp only); (try k_lift B'); (try k_fold))
  k_steps
  all_goals (refine' cb_retB hret ?_ (by k_asm) (by exact hN' _ (Fr.keep (by k_asm))))
  all_goals (simp only [lit0, lit9, litM, litD, one_beq] at *)
  all_goals (apply Bool.eq_iff_iff.mpr)
  all_goals (simp only [nameN])
  all_goals (first | rw [if_pos (by omega)] | rw [if_neg (by omega)] | skip)
  all_goals (simp [List.cons_lt_cons_iff, *] at *)
  all_goals (try omega)

def tokenL (l : List Nat) : Bool := l.all nameN && !l.isEmpty
def nameL : List Nat → Bool
  | [] => false
  | c :: r => startN c && tokenL (c :: r)
def ncL (l : List Nat) : Bool := !(l.contains 58) && nameL l
def otherL (l : List Nat) : Option Nat := l.findIdx? fun c => !charN c
def optV : Option Nat → Tok → Value
  | some i, t => .int i t
  | none, _ => .none
def blankL (l : List Nat) : Bool := l.all spaceN
theorem all_false {p : Nat → Bool} {l : List Nat} {c : Nat} (hc : c ∈ l) (h : p c = false) : l.all p = false := by
  rw [List.all_eq_false]; exact ⟨c, hc, by simp [h]⟩
theorem all_true {p : Nat → Bool} {l : List Nat} (h : ∀ c ∈ l, p c = true) : l.all p = true := List.all_eq_true.mpr h
theorem ne_empty (x : Str) : (x != Str.ofString "") = !x.cps.toList.isEmpty := by
  rw [litEmpty]
  rcases x with ⟨⟨l⟩⟩
  cases l with
  | nil => rfl
  | cons c r => rw [Bool.eq_iff_iff]; simp
theorem tok1 {x : Str} {c : Nat} (hc : c ∈ x.cps.toList) (h : nameN c = false) : false = tokenL x.cps.toList := by
  unfold tokenL; rw [all_false hc h]; rfl
theorem tok2 {x : Str} (h : ∀ c ∈ x.cps.toList, nameN c = true) : (x != Str.ofString "") = tokenL x.cps.toList := by
  unfold tokenL; rw [all_true h, ne_empty]; rfl
theorem item0 {x : Str} (h : (x != Str.ofString "") = true) : ∃ c r, x.cps.toList = c :: r ∧ (Txt.charAt x 0).getD 0 = c := by
  rw [ne_empty] at h
  rcases x with ⟨⟨l⟩⟩
  cases l with
  | nil => simp at h
  | cons c r => exact ⟨c, r, rfl, by simp [Txt.charAt, seqIndex?, Str.length]⟩
theorem nm1 {x : Str} (h : (x != Str.ofString "") = false) : (x != Str.ofString "") = nameL x.cps.toList := by
  rw [h]; rw [ne_empty] at h
  have : x.cps.toList = [] := by simpa using h
  rw [this]; rfl
theorem nm2 {x : Str} (h0 : (x != Str.ofString "") = true) (h : startN ((Txt.charAt x 0).getD 0) = false) : startN ((Txt.charAt x 0).getD 0) = nameL x.cps.toList := by
  obtain ⟨c, r, e, e2⟩ := item0 h0
  rw [h, e]; rw [e2] at h; simp [nameL, h]
theorem nm3 {x : Str} (h0 : (x != Str.ofString "") = true) (h : startN ((Txt.charAt x 0).getD 0) = true) : tokenL x.cps.toList = nameL x.cps.toList := by
  obtain ⟨c, r, e, e2⟩ := item0 h0
  rw [e]; rw [e2] at h; simp [nameL, h]
theorem found_colon (x : Str) : (!(Builtin.Str.occurrences x (Str.ofString ":") 0 x.length 1).isEmpty) = x.cps.toList.contains 58 := by
  rw [litC, StrLaws.found_one]; rw [Bool.eq_iff_iff]; simp
theorem nc1 {x : Str} (h : (Builtin.Str.occurrences x (Str.ofString ":") 0 x.length 1).isEmpty = true) : nameL x.cps.toList = ncL x.cps.toList := by
  unfold ncL; rw [← found_colon, h]; simp
theorem nc2 {x : Str} (h : (Builtin.Str.occurrences x (Str.ofString ":") 0 x.length 1).isEmpty = false) : (!!(Builtin.Str.occurrences x (Str.ofString ":") 0 x.length 1).isEmpty) = ncL x.cps.toList := by
  unfold ncL; rw [← found_colon, h]; simp
theorem cb_ret {h₀ h' : Heap} {L : Addr} {m : Str → Option Value} {news : List (Addr × Obj)} {s : Shared} {Q : Value → Shared → Prop} {R : Tok → Value} {tk' : Nat} {v : Value}
    (hret : CbRet h₀ L m news s Q R) (t : Tok) (e : R t = v) (F : Fr h₀ L h' m) (N : News h₀ L h' news) : Q v { s with heap := h', toks := tk' } := e ▸ hret t h' tk' F N
theorem charAt_nat {x : Str} {i : Nat} (hi : i < ((x.length : Int) - 0).toNat) : (Txt.charAt x (0 + (i : Int))).getD 0 = x.cps.toList.getD i 0 := by
  have hi' : i < x.length := by omega
  have e : seqIndex? (0 + (i : Int)) x.length = some i := by
    rw [Int.zero_add, StrLaws.seqIndex_nonneg (by omega) (by omega)]; rfl
  unfold Txt.charAt
  rw [e]
  simp [List.getD]
theorem ot1 {x : Str} {t : Tok} (h : ∀ j, j < ((x.length : Int) - 0).toNat → charN (x.cps.toList.getD j 0) = true) : optV (otherL x.cps.toList) t = .none := by
  have e : otherL x.cps.toList = none := by
    unfold otherL
    rw [List.findIdx?_eq_none_iff]
    intro c hc
    obtain ⟨j, hj, rfl⟩ := List.mem_iff_getElem.mp hc
    have := h j (by have : j < x.cps.size := by simpa using hj
                    show j < ((x.cps.size : Int) - 0).toNat
                    omega)
    rw [List.getD_eq_getElem?_getD, List.getElem?_eq_getElem hj] at this
    simpa using this
  rw [e]; rfl
theorem ot3 {x : Str} {i : Nat} (hi : i < ((x.length : Int) - 0).toNat) (h : charN ((Txt.charAt x (0 + (i : Int))).getD 0) = true) : charN (x.cps.toList.getD i 0) = true := charAt_nat hi ▸ h
theorem ot2 {x : Str} {i : Nat} {t : Tok} (hi : i < ((x.length : Int) - 0).toNat) (hb : ∀ j, j < i → charN (x.cps.toList.getD j 0) = true) (h : charN ((Txt.charAt x (0 + (i : Int))).getD 0) = false) : optV (otherL x.cps.toList) t = .int (0 + (i : Int)) t := by
  rw [charAt_nat hi] at h
  have hi' : i < x.cps.toList.length := by simp only [Array.length_toList]; have : x.length = x.cps.size := rfl; omega
  have e : otherL x.cps.toList = some i := by
    unfold otherL
    rw [List.findIdx?_eq_some_iff_getElem]
    refine ⟨hi', ?_, fun j hj => ?_⟩
    · rw [List.getD_eq_getElem?_getD, List.getElem?_eq_getElem hi'] at h
      simpa using h
    · have := hb j hj
      rw [List.getD_eq_getElem?_getD, List.getElem?_eq_getElem (by omega)] at this
      simpa using this
  rw [e, Int.zero_add]; rfl
theorem bl1 {x : Str} {c : Nat} (hc : c ∈ x.cps.toList) (h : spaceN c = false) : false = blankL x.cps.toList := by
  unfold blankL; rw [all_false hc h]
theorem bl2 {x : Str} (h : ∀ c ∈ x.cps.toList, spaceN c = true) : true = blankL x.cps.toList := by
  unfold blankL; rw [all_true h]
local macro_rules | `(tactic| walk_at "call ref") => `(tactic| ((with_reducible show wpAny _ _ (call (Value.ref 109) _) _ _ _); k_here; k_dflt (refine' saysV_use (c_name _ _ _ _ _ _) ?k1 ?k2 ?k3 ?k4 ?k5 ?kK ?kd ?ku ?_; (case k1 => k_asm); (case k2 => k_asm); (case k3 => k_asm); (case k4 => k_asm); (case k5 => k_asm); (case kK => first | exact rfl | assumption); (case kd => ktr_room); (case ku => ktr_units)); intro t9 h9 tk9 F9 N9; (try dsimp only); (try k_sweep); (try k_fold)))
theorem c_token (w : World) (mean : ExcName → Option Value) (mg mb : Str → Option Value) (x : Str) (t : Tok) :
    SaysV w mean mg mb 4 123 [.str x t] (fun _ => .bool (tokenL x.cps.toList)) := by
  k_with_none
  w_top off
  k_with_none
  k_with "exec For Name Name cons nil" => ((rename Fr _ _ _ _ => lF'); (with_unfolding_all refine' For_invVF lF' ?k1 ?k2 ?_; (case k1 => exact rfl); (case k2 => exact rfl); k_whole))
  k_with "pyIter str" => k_dflt ((with_reducible show wpAny _ _ (pyIter (Value.str _ _)) (fun it s₂ => LoopAtV _ _ _ _ _ _ _ _ _ it s₂) _ _); (with_unfolding_all refine' search_text (fun c => nameN c = true) (by rfl) ?kF ?kN ?turn ?done; (case kF => k_asm); (case kN => k_asm)); (case' turn => intro c' t' h' tk' own' hc' hoff' F' N'; (try k_sweep)); (case' done => intro u' h' tk' hG' F' N'; (try k_sweep)); (all_goals (try k_fold)))
  unfold SaysV
  k_fill
  intro news dp un gd cn cs a ccd cl outer A₀ base h₀ L m s Q E B F X N T hk hd hu hret
  refine wpAny_call ?_
  k_dflt (refine' enter_pure ?k1 ?k2 ?k3 ?k4 ?k5 ?kA ?kF ?kK ?k6 ?k7 ?k8 ?k9 ?kB ?_ ?c2 ?c3 ?c4 ?c5; (case kA => exact rfl); (case kF => exact rfl); (case kK => assumption); (case k1 => k_asm); (case k2 => k_asm); (case k3 => k_asm); (case k4 => k_asm); (case k5 => k_asm); (case k6 => k_is); (case k7 => k_is); (case k8 => ktr_room); (case k9 => exact BindsTo.of_eq rfl); (case c5 => decide); (case kB => exact locs rfl); (case c2 => exact rfl); (case c3 => exact rfl); (case c4 => exact rfl); k_whole; intro g' L' h' FG' F' N' B' X' T' lt' hN'; (try dsimp only); (try k_lift B'); (try k_fold))
  k_steps
  · exact cb_retB hret (tok2 (by assumption)) (by k_asm) (hN' _ (Fr.keep (by k_asm)))
  · exact search_end (by assumption) (by assumption) (fun _ h => nomatch h) (fun p hp => by simpa using hp) (fun z hz => if_neg hz) (by assumption)
  · exact cb_retB hret (tok1 (by assumption) (by assumption)) (by k_asm) (hN' _ (Fr.keep (by k_asm)))
theorem c_blank (w : World) (mean : ExcName → Option Value) (mg mb : Str → Option Value) (x : Str) (t : Tok) :
    SaysV w mean mg mb 4 177 [.str x t] (fun _ => .bool (blankL x.cps.toList)) := by
  k_with_none
  w_top off
  k_with_none
  k_with "exec For Name Name cons nil" => ((rename Fr _ _ _ _ => lF'); (with_unfolding_all refine' For_invVF lF' ?k1 ?k2 ?_; (case k1 => exact rfl); (case k2 => exact rfl); k_whole))
  k_with "pyIter str" => k_dflt ((with_reducible show wpAny _ _ (pyIter (Value.str _ _)) (fun it s₂ => LoopAtV _ _ _ _ _ _ _ _ _ it s₂) _ _); (with_unfolding_all refine' search_text (fun c => spaceN c = true) (by rfl) ?kF ?kN ?turn ?done; (case kF => k_asm); (case kN => k_asm)); (case' turn => intro c' t' h' tk' own' hc' hoff' F' N'; (try k_sweep)); (case' done => intro u' h' tk' hG' F' N'; (try k_sweep)); (all_goals (try k_fold)))
  unfold SaysV
  k_fill
  intro news dp un gd cn cs a ccd cl outer A₀ base h₀ L m s Q E B F X N T hk hd hu hret
  refine wpAny_call ?_
  k_dflt (refine' enter_pure ?k1 ?k2 ?k3 ?k4 ?k5 ?kA ?kF ?kK ?k6 ?k7 ?k8 ?k9 ?kB ?_ ?c2 ?c3 ?c4 ?c5; (case kA => exact rfl); (case kF => exact rfl); (case kK => assumption); (case k1 => k_asm); (case k2 => k_asm); (case k3 => k_asm); (case k4 => k_asm); (case k5 => k_asm); (case k6 => k_is); (case k7 => k_is); (case k8 => ktr_room); (case k9 => exact BindsTo.of_eq rfl); (case c5 => decide); (case kB => exact locs rfl); (case c2 => exact rfl); (case c3 => exact rfl); (case c4 => exact rfl); k_whole; intro g' L' h' FG' F' N' B' X' T' lt' hN'; (try dsimp only); (try k_lift B'); (try k_fold))
  k_steps
  · exact cb_retB hret (bl2 (by assumption)) (by k_asm) (hN' _ (Fr.keep (by k_asm)))
  · exact search_end (by assumption) (by assumption) (fun _ h => nomatch h) (fun p hp => by simpa using hp) (fun z hz => if_neg hz) (by assumption)
  · exact cb_retB hret (bl1 (by assumption) (by assumption)) (by k_asm) (hN' _ (Fr.keep (by k_asm)))
local macro_rules | `(tactic| walk_at "call ref") => `(tactic| ((with_reducible show wpAny _ _ (call (Value.ref 123) _) _ _ _); k_here; k_dflt (refine' saysV_use (c_token _ _ _ _ _ _) ?k1 ?k2 ?k3 ?k4 ?k5 ?kK ?kd ?ku ?_; (case k1 => k_asm); (case k2 => k_asm); (case k3 => k_asm); (case k4 => k_asm); (case k5 => k_asm); (case kK => first | exact rfl | assumption); (case kd => ktr_room); (case ku => ktr_units)); intro t9 h9 tk9 F9 N9; (try dsimp only); (try k_sweep); (try k_fold)))
local macro_rules | `(tactic| walk_at "call ref") => `(tactic| ((with_reducible show wpAny _ _ (call (Value.ref 177) _) _ _ _); k_here; k_dflt (refine' saysV_use (c_blank _ _ _ _ _ _) ?k1 ?k2 ?k3 ?k4 ?k5 ?kK ?kd ?ku ?_; (case k1 => k_asm); (case k2 => k_asm); (case k3 => k_asm); (case k4 => k_asm); (case k5 => k_asm); (case kK => first | exact rfl | assumption); (case kd => ktr_room); (case ku => ktr_units)); intro t9 h9 tk9 F9 N9; (try dsimp only); (try k_sweep); (try k_fold)))
theorem c_isname (w : World) (mean : ExcName → Option Value) (mg mb : Str → Option Value) (x : Str) (t : Tok) :
    SaysV w mean mg mb 5 130 [.str x t] (fun _ => .bool (nameL x.cps.toList)) := by
  k_with_none
  w_top off
  unfold SaysV
  k_fill
  intro news dp un gd cn cs a ccd cl outer A₀ base h₀ L m s Q E B F X N T hk hd hu hret
  refine wpAny_call ?_
  k_dflt (refine' enter_pure ?k1 ?k2 ?k3 ?k4 ?k5 ?kA ?kF ?kK ?k6 ?k7 ?k8 ?k9 ?kB ?_ ?c2 ?c3 ?c4 ?c5; (case kA => exact rfl); (case kF => exact rfl); (case kK => assumption); (case k1 => k_asm); (case k2 => k_asm); (case k3 => k_asm); (case k4 => k_asm); (case k5 => k_asm); (case k6 => k_is); (case k7 => k_is); (case k8 => ktr_room); (case k9 => exact BindsTo.of_eq rfl); (case c5 => decide); (case kB => exact locs rfl); (case c2 => exact rfl); (case c3 => exact rfl); (case c4 => exact rfl); k_whole; intro g' L' h' FG' F' N' B' X' T' lt' hN'; (try dsimp only); (try k_lift B'); (try k_fold))
  k_steps
  all_goals (refine' cb_retB hret ?_ (by k_asm) (by exact hN' _ (Fr.keep (by k_asm))))
  · exact nm3 (by assumption) (by assumption)
  · exact nm2 (by assumption) (by assumption)
  · exact nm1 (by assumption)
local macro_rules | `(tactic| walk_at "call ref") => `(tactic| ((with_reducible show wpAny _ _ (call (Value.ref 130) _) _ _ _); k_here; k_dflt (refine' saysV_use (c_isname _ _ _ _ _ _) ?k1 ?k2 ?k3 ?k4 ?k5 ?kK ?kd ?ku ?_; (case k1 => k_asm); (case k2 => k_asm); (case k3 => k_asm); (case k4 => k_asm); (case k5 => k_asm); (case kK => first | exact rfl | assumption); (case kd => ktr_room); (case ku => ktr_units)); intro t9 h9 tk9 F9 N9; (try dsimp only); (try k_sweep); (try k_fold)))
theorem c_nc (w : World) (mean : ExcName → Option Value) (mg mb : Str → Option Value) (x : Str) (t : Tok) :
    SaysV w mean mg mb 6 137 [.str x t] (fun _ => .bool (ncL x.cps.toList)) := by
  k_with_none
  w_top off
  unfold SaysV
  k_fill
  intro news dp un gd cn cs a ccd cl outer A₀ base h₀ L m s Q E B F X N T hk hd hu hret
  refine wpAny_call ?_
  k_dflt (refine' enter_pure ?k1 ?k2 ?k3 ?k4 ?k5 ?kA ?kF ?kK ?k6 ?k7 ?k8 ?k9 ?kB ?_ ?c2 ?c3 ?c4 ?c5; (case kA => exact rfl); (case kF => exact rfl); (case kK => assumption); (case k1 => k_asm); (case k2 => k_asm); (case k3 => k_asm); (case k4 => k_asm); (case k5 => k_asm); (case k6 => k_is); (case k7 => k_is); (case k8 => ktr_room); (case k9 => exact BindsTo.of_eq rfl); (case c5 => decide); (case kB => exact locs rfl); (case c2 => exact rfl); (case c3 => exact rfl); (case c4 => exact rfl); k_whole; intro g' L' h' FG' F' N' B' X' T' lt' hN'; (try dsimp only); (try k_lift B'); (try k_fold))
  k_steps
  all_goals (refine' cb_retB hret ?_ (by k_asm) (by exact hN' _ (Fr.keep (by k_asm))))
  · exact nc1 (by assumption)
  · exact nc2 (by assumption)
theorem c_other (w : World) (mean : ExcName → Option Value) (mg mb : Str → Option Value) (x : Str) (t : Tok) (hx : x.length ≤ 64) :
    SaysV w mean mg mb 4 116 [.str x t] (fun t => optV (otherL x.cps.toList) t) := by
  k_with_none
  w_top off
  k_with_none
  k_with "exec For Name Call cons nil" => ((rename Fr _ _ _ _ => lF'); (with_unfolding_all refine' For_invVF lF' ?k1 ?k2 ?_; (case k1 => exact rfl); (case k2 => exact rfl); k_whole))
  k_with "pyIter ref" => k_dflt ((with_reducible show wpAny _ _ (pyIter (Value.ref _)) (fun it s₂ => LoopAtV _ _ _ _ _ _ _ _ _ it s₂) _ _); (with_unfolding_all refine' search_range (fun i => charN (x.cps.toList.getD i 0) = true) (by rfl) ?kR ?kS ?kZ ?kF ?kN ?turn ?done; (case kR => assumption); (case kF => k_asm); (case kN => k_asm); (case kS => first | decide | exact small_one (by l_bnd) (by l_bnd) (by l_bnd) (by l_bnd)); (case kZ => first | exact rangeSize_nat _ _ | rfl)); (case' turn => intro i' t' h' tk' own' hi' hG' hoff' F' N'; (try k_sweep)); (case' done => intro u' h' tk' hG' F' N'; (try k_sweep)); (all_goals (try k_fold)))
  unfold SaysV
  k_fill
  intro news dp un gd cn cs a ccd cl outer A₀ base h₀ L m s Q E B F X N T hk hd hu hret
  refine wpAny_call ?_
  k_dflt (refine' enter_pure ?k1 ?k2 ?k3 ?k4 ?k5 ?kA ?kF ?kK ?k6 ?k7 ?k8 ?k9 ?kB ?_ ?c2 ?c3 ?c4 ?c5; (case kA => exact rfl); (case kF => exact rfl); (case kK => assumption); (case k1 => k_asm); (case k2 => k_asm); (case k3 => k_asm); (case k4 => k_asm); (case k5 => k_asm); (case k6 => k_is); (case k7 => k_is); (case k8 => ktr_room); (case k9 => exact BindsTo.of_eq rfl); (case c5 => decide); (case kB => exact locs rfl); (case c2 => exact rfl); (case c3 => exact rfl); (case c4 => exact rfl); k_whole; intro g' L' h' FG' F' N' B' X' T' lt' hN'; (try dsimp only); (try k_lift B'); (try k_fold))
  k_steps
  · exact cb_ret hret 0 (ot1 (by assumption)) (by k_asm) (hN' _ (Fr.keep (by k_asm)))
  · exact search_end (by assumption) (by assumption) (fun _ h => nomatch h) (fun p hp => by simpa using hp) (fun z hz => if_neg hz) (ot3 (by assumption) (by assumption))
  · exact cb_ret hret t' (ot2 (by assumption) (by assumption) (by assumption)) (by k_asm) (hN' _ (Fr.keep (by k_asm)))
local macro_rules | `(tactic| walk_at "call ref") => `(tactic| ((with_reducible show wpAny _ _ (call (Value.ref 137) _) _ _ _); k_here; k_dflt (refine' saysV_use (c_nc _ _ _ _ _ _) ?k1 ?k2 ?k3 ?k4 ?k5 ?kK ?kd ?ku ?_; (case k1 => k_asm); (case k2 => k_asm); (case k3 => k_asm); (case k4 => k_asm); (case k5 => k_asm); (case kK => first | exact rfl | assumption); (case kd => ktr_room); (case ku => ktr_units)); intro t9 h9 tk9 F9 N9; (try dsimp only); (try k_sweep); (try k_fold)))

def subL (l : List Nat) (i j : Nat) : Str := ⟨((l.drop i).take (j - i)).toArray⟩
def splitRun (l : List Nat) : Nat → List Str × Nat
  | 0 => ([], 0)
  | i + 1 => if i = l.length || spaceN (l.getD i 0) then ((if (splitRun l i).2 < i then (splitRun l i).1 ++ [subL l (splitRun l i).2 i] else (splitRun l i).1), i + 1) else splitRun l i
def wordsL (l : List Nat) : List Str := (splitRun l (l.length + 1)).1
def MadeTexts (news : List (Addr × Obj)) (ws : List Str) (news' : List (Addr × Obj)) (r : Value) : Prop :=
  ∃ l its k, r = .ref l ∧ news' = (l, W.listOf its k) :: news ∧ StrsAre its.toList ws ∧ ∀ p ∈ news, @Ne Nat p.1 l
theorem slice_sub {x : Str} {b : Int} {i : Nat} (h0 : 0 ≤ b) (h1 : b ≤ i) (h2 : i ≤ x.length) : Txt.slice x (some b) (some (0 + (i : Int))) = subL x.cps.toList b.toNat i := by
  show StrLaws.sliceText x (some b) (some (0 + (i : Int))) = _
  rw [StrLaws.sliceText_plain ⟨h0, by omega, by simp only [Array.length_toList]; have : x.length = x.cps.size := rfl; omega⟩]
  unfold subL
  rw [show (0 + (i : Int) - b).toNat = i - b.toNat by omega]
theorem strs_push {its : Array Value} {ws : List Str} {y : Str} {t : Tok} (h : StrsAre its.toList ws) : StrsAre (its.push (.str y t)).toList (ws ++ [y]) := by
  rw [Array.toList_push]; exact h.append' (.cons _ _ .nil)
def SplitP (l : List Nat) (i : Nat) (ws : List Str) (b : Int) : Prop := splitRun l i = (ws, b.toNat) ∧ 0 ≤ b ∧ b ≤ i
theorem cond_or {x : Str} {i : Nat} (hl : x.cps.toList.length = x.length) (hc : i = x.length ∨ spaceN (x.cps.toList.getD i 0) = true) : (decide (i = x.cps.toList.length) || spaceN (x.cps.toList.getD i 0)) = true := by
  rcases hc with e | e
  · rw [hl, e]; simp
  · rw [e]; simp
theorem sp_yes {x : Str} {i : Nat} {ws : List Str} {b : Int} (hP : SplitP x.cps.toList i ws b) (hi : i ≤ x.length) (hc : i = x.length ∨ spaceN (x.cps.toList.getD i 0) = true) (hb : b < 0 + (i : Int)) :
    SplitP x.cps.toList (i + 1) (ws ++ [Txt.slice x (some b) (some (0 + (i : Int)))]) (0 + (i : Int) + 1) := by
  obtain ⟨h1, h2, h3⟩ := hP
  refine ⟨?_, by omega, by omega⟩
  have hl : x.cps.toList.length = x.length := by simp [Str.length]
  simp only [splitRun, h1]
  rw [slice_sub h2 h3 hi, if_pos (cond_or hl hc)]
  simp only [show b.toNat < i by omega, if_true, Int.zero_add]
  exact congrArg (Prod.mk _) (by omega)
theorem sp_no {x : Str} {i : Nat} {ws : List Str} {b : Int} (hP : SplitP x.cps.toList i ws b) (hc : i = x.length ∨ spaceN (x.cps.toList.getD i 0) = true) (hb : ¬ b < 0 + (i : Int)) :
    SplitP x.cps.toList (i + 1) ws (0 + (i : Int) + 1) := by
  obtain ⟨h1, h2, h3⟩ := hP
  refine ⟨?_, by omega, by omega⟩
  have hl : x.cps.toList.length = x.length := by simp [Str.length]
  simp only [splitRun, h1]
  rw [if_pos (cond_or hl hc)]
  simp only [show ¬ b.toNat < i by omega, if_false, Int.zero_add]
  exact congrArg (Prod.mk _) (by omega)
theorem sp_else {x : Str} {i : Nat} {ws : List Str} {b : Int} (hP : SplitP x.cps.toList i ws b) (hi : i ≠ x.length) (hc : spaceN (x.cps.toList.getD i 0) = false) : SplitP x.cps.toList (i + 1) ws b := by
  obtain ⟨h1, h2, h3⟩ := hP
  refine ⟨?_, by omega, by omega⟩
  have hl : x.cps.toList.length = x.length := by simp [Str.length]
  simp only [splitRun, h1]
  rw [if_neg (by rw [hc, hl]; simp [hi])]
theorem sp_cond {x : Str} {i : Nat} {r : Bool} (h : (if 1 ≤ (Txt.item x (0 + (i : Int))).length ∧ (Txt.item x (0 + (i : Int))).length ≤ 1 then spaceN ((Txt.charAt x (0 + (i : Int))).getD 0) else false) = r) (hi : i < ((x.length : Int) + 1 - 0).toNat) (hn : 0 + (i : Int) ≠ x.length) : spaceN (x.cps.toList.getD i 0) = r := by
  rw [if_pos (by simp [Txt.item, Str.length])] at h
  rw [← charAt_nat (by omega)]; exact h
theorem split_done {x : Str} {its : Array Value} {ws : List Str} {b : Int} (hs : StrsAre its.toList ws) (hP : SplitP x.cps.toList ((x.length : Int) + 1 - 0).toNat ws b) : StrsAre its.toList (wordsL x.cps.toList) := by
  have e : ((x.length : Int) + 1 - 0).toNat = x.cps.toList.length + 1 := by simp only [Array.length_toList]; have : x.length = x.cps.size := rfl; omega
  rw [e] at hP
  unfold wordsL; rw [hP.1]; exact hs
theorem made_one {h₀ g h' : Heap} {L L' : Addr} {m' : Str → Option Value} {news all all' : List (Addr × Obj)} {l : Addr} {o : Obj} (hN : ∀ h' : Heap, (∀ b o, g.get? b = some o → h'.get? b = some o) → News h₀ L h' news) (F : Fr g L' h' m') (N : News g L' h' all) (hm : (l, o) ∈ all) (kN : News h₀ L h' all') (hm' : (l, o) ∈ all') :
    News h₀ L h' ((l, o) :: news) ∧ ∀ p ∈ news, @Ne Nat p.1 l := by
  refine ⟨fun p hp => ?_, fun p hp e => ?_⟩
  · rcases List.mem_cons.mp hp with rfl | hp
    · exact kN _ hm'
    · exact hN h' F.keep p hp
  · have h1 := (hN g (fun _ _ e => e) p hp).1
    have h2 := (N _ hm).2.2
    rw [show p.1 = l from e] at h1
    rw [show g.get? l = none from h2] at h1
    cases h1
theorem c_split (w : World) (mean : ExcName → Option Value) (mg mb : Str → Option Value) (news : List (Addr × Obj)) (x : Str) (t : Tok) (hx : x.length ≤ 64) :
    Says w mean mg mb 4 158 (fun _ => True) news [.str x t] (MadeTexts news (wordsL x.cps.toList)) := by
  k_with_none
  w_top off
  k_with_none
  k_with "exec For Name Call cons nil" => ((rename Fr _ _ _ _ => lF'); (with_unfolding_all refine' For_invVF lF' ?k1 ?k2 ?_; (case k1 => exact rfl); (case k2 => exact rfl); k_whole))
  k_with "pyIter ref" => k_dflt ((with_reducible show wpAny _ _ (pyIter (Value.ref _)) (fun it s₂ => LoopAtV _ _ _ _ _ _ _ _ _ it s₂) _ _); (with_unfolding_all refine' iterWB_range (yl := Str.ofString "found") (y := Str.ofString "begin") (SplitP x.cps.toList) (by rfl) ?kR ?kS ?kZ ?kF ?kN ?kL ?kM ?kY ?kX ?kP ?turn ?done; (case kR => assumption); (case kF => k_asm); (case kN => k_asm); (case kL => exact rfl); (case kM => k_mem); (case kY => exact rfl); (case kX => decide); (case kP => exact ⟨rfl, by decide, by decide⟩); (case kS => first | decide | exact small_one (by l_bnd) (by l_bnd) (by l_bnd) (by l_bnd)); (case kZ => first | exact rangeSize_nat _ _ | rfl)); (case' turn => intro i' t' its' ws' k' b' tb' h' tk' own' hi' hs' hz' hP' hoff' F' N'; have hb0 := hP'.2.1; have hb1 := hP'.2.2; have hl' := hs'.length; (try k_sweep)); (case' done => intro u' its' ws' k' b' tb' h' tk' hs' hP' F' N'; (try k_sweep)); (all_goals (try k_fold)))
  unfold Says
  k_fill
  intro dp un gd cn cs a ccd cl outer A₀ base h₀ L m s Q E B F X N T hk hd hu hask hret
  refine wpAny_call ?_
  k_dflt (refine' enter_pure ?k1 ?k2 ?k3 ?k4 ?k5 ?kA ?kF ?kK ?k6 ?k7 ?k8 ?k9 ?kB ?_ ?c2 ?c3 ?c4 ?c5; (case kA => exact rfl); (case kF => exact rfl); (case kK => assumption); (case k1 => k_asm); (case k2 => k_asm); (case k3 => k_asm); (case k4 => k_asm); (case k5 => k_asm); (case k6 => k_is); (case k7 => k_is); (case k8 => ktr_room); (case k9 => exact BindsTo.of_eq rfl); (case c5 => decide); (case kB => exact locs rfl); (case c2 => exact rfl); (case c3 => exact rfl); (case c4 => exact rfl); k_whole; intro g' L' h' FG' F' N' B' X' T' lt' hN'; (try dsimp only); (try k_lift B'); (try k_fold))
  k_steps
  · have q := made_one hN' (F := by k_asm) (N := by k_asm) (hm := .head _) (kN := by k_asm) (hm' := .head _)
    exact hret _ _ _ _ ⟨_, _, _, rfl, rfl, split_done hs' hP', q.2⟩ (by k_asm) q.1
  · refine' iterWB_end ?F1 ?N1 (List.Mem.head _) ?ho1 ?hs1 ?hk1 ?hy1 ?hr1 ?hP1
    (case F1 => k_asm); (case N1 => k_asm); (case ho1 => exact fun p hp => List.Mem.tail _ hp); (case hs1 => exact strs_push hs'); (case hk1 => simp only [Array.size_push]; omega); (case hy1 => exact rfl); (case hr1 => intro z h1 h2; simp [h1, h2])
    exact sp_yes hP' (by omega) (.inl (by omega)) (by assumption)
  · refine' iterWB_end ?F2 ?N2 (List.Mem.head _) ?ho2 ?hs2 ?hk2 ?hy2 ?hr2 ?hP2
    (case F2 => k_asm); (case N2 => k_asm); (case ho2 => exact fun p hp => List.Mem.tail _ hp); (case hs2 => exact hs'); (case hk2 => omega); (case hy2 => exact rfl); (case hr2 => intro z h1 h2; simp [h1, h2])
    exact sp_no hP' (.inl (by omega)) (by assumption)
  · refine' iterWB_end ?F3 ?N3 (List.Mem.head _) ?ho3 ?hs3 ?hk3 ?hy3 ?hr3 ?hP3
    (case F3 => k_asm); (case N3 => k_asm); (case ho3 => exact fun p hp => List.Mem.tail _ hp); (case hs3 => exact strs_push hs'); (case hk3 => simp only [Array.size_push]; omega); (case hy3 => exact rfl); (case hr3 => intro z h1 h2; simp [h1, h2])
    exact sp_yes hP' (by omega) (.inr (sp_cond (by assumption) hi' (by assumption))) (by assumption)
  · refine' iterWB_end ?F4 ?N4 (List.Mem.head _) ?ho4 ?hs4 ?hk4 ?hy4 ?hr4 ?hP4
    (case F4 => k_asm); (case N4 => k_asm); (case ho4 => exact fun p hp => List.Mem.tail _ hp); (case hs4 => exact hs'); (case hk4 => omega); (case hy4 => exact rfl); (case hr4 => intro z h1 h2; simp [h1, h2])
    exact sp_no hP' (.inr (sp_cond (by assumption) hi' (by assumption))) (by assumption)
  · refine' iterWB_end ?F5 ?N5 (List.Mem.head _) ?ho5 ?hs5 ?hk5 ?hy5 ?hr5 ?hP5
    (case F5 => k_asm); (case N5 => k_asm); (case ho5 => exact fun p hp => List.Mem.tail _ hp); (case hs5 => exact hs'); (case hk5 => omega); (case hy5 => exact rfl); (case hr5 => intro z h1 h2; simp [h1, h2])
    exact sp_else hP' (by omega) (sp_cond (by assumption) hi' (by assumption))
local macro_rules | `(tactic| walk_at "SrcText") => `(tactic| (k_here; k_extra "SrcText"))
local macro_rules | `(tactic| walk_at "SrcTextT") => `(tactic| (k_here; k_extra "SrcTextT"))
local macro_rules | `(tactic| walk_at "newList") => `(tactic| (k_here; k_extra "newList"))
local macro_rules | `(tactic| walk_at "InvEndN") => `(tactic| (k_here; k_extra "InvEndN"))
local macro_rules | `(tactic| walk_at "CompEnd") => `(tactic| (k_here; k_extra "CompEnd"))
local macro_rules | `(tactic| walk_at "binaryOp Mod int int") => `(tactic| (k_here; k_extra "binaryOp Mod int int"))
local macro_rules | `(tactic| walk_at "call ref") => `(tactic| ((with_reducible show wpAny _ _ (call (Value.ref 158) _) _ _ _); k_here; (k_dflt (refine' says_use (c_split _ _ _ _ _ _ _ ?hyp0) ?k1 ?k2 ?k3 ?k4 ?k5 ?kK ?kd ?ku ?ka ?_; (case k1 => k_asm); (case k2 => k_asm); (case k3 => k_asm); (case k4 => k_asm); (case k5 => k_asm); (case kK => first | exact rfl | assumption); (case kd => ktr_room); (case ku => ktr_units); (case ka => first | exact True.intro | assumption); (case hyp0 => first | assumption | omega | (simp only [Str.length] at *; omega)))); intro r9 nw9 h9 tk9 hr9 F9 N9; (obtain ⟨l9, its9, k9, e9, e9', hs9, hne9⟩ := hr9; subst e9; subst e9'; (try simp only [List.forall_mem_cons, List.forall_mem_nil, and_true] at hne9)); (try dsimp only at N9); (try dsimp only); (try k_sweep); (try k_fold)))
local macro_rules | `(tactic| walk_at "call builtin:str.join") => `(tactic| ((with_reducible show wpAny _ _ (call (Value.builtin "str.join") [Value.str _ _, Value.ref _]) _ _ _); k_here; (k_dflt (refine' join_list ?kl ?ki ?ko ?_; (case kl => first | is_list | exact News.isList (by k_asm) (by k_mem)); (case ki => first | assumption | (with_unfolding_all assumption)); (case ko => k_extra "joinok"))); intro t9 k9; (try dsimp only); (try (rename (List.map _ _ = Txt.split _ _) => e9; (simp only [e9])))))

theorem words_bound (l : List Nat) : ∀ i, (splitRun l i).1.length ≤ i ∧ ∀ y ∈ (splitRun l i).1, y.length ≤ l.length := by
  intro i
  induction i with
  | zero => simp [splitRun]
  | succ i ih =>
    unfold splitRun
    have hs : (subL l (splitRun l i).2 i).length ≤ l.length := by
      show (((l.drop _).take _).toArray).size ≤ _
      simp; omega
    split
    · split
      · refine ⟨by simp; exact ih.1, fun y hy => ?_⟩
        simp only [List.mem_append, List.mem_singleton] at hy
        rcases hy with hy | rfl
        · exact ih.2 y hy
        · exact hs
      · exact ⟨Nat.le_succ_of_le ih.1, ih.2⟩
    · exact ⟨Nat.le_succ_of_le ih.1, ih.2⟩
theorem ok_of_bound {ys : List Str} {B n k : Nat} (hn : ys.length ≤ n) (hB : ∀ y ∈ ys, y.length ≤ B) (h : n * B + n * k ≤ 16777216) : (ys.map (·.length)).sum + ys.length * k ≤ 16777216 := by
  have h1 := StrLaws.sumLen_le ys hB
  have h2 : ys.length * B ≤ n * B := Nat.mul_le_mul_right _ hn
  have h3 : ys.length * k ≤ n * k := Nat.mul_le_mul_right _ hn
  omega
theorem words_ok {x : Str} (hx : x.length ≤ 64) : ((wordsL x.cps.toList).map (·.length)).sum + (wordsL x.cps.toList).length * (Str.ofString " ").length ≤ 16777216 := by
  have hl : x.cps.toList.length ≤ 64 := by simpa [Str.length] using hx
  have b := words_bound x.cps.toList (x.cps.toList.length + 1)
  refine ok_of_bound (n := 65) (B := 64) (by unfold wordsL; omega) (fun y hy => Nat.le_trans (b.2 y hy) hl) ?_
  rw [show (Str.ofString " ").length = 1 by decide +kernel]; decide
theorem litBl : Str.ofString " " = one 32 := by decide +kernel
def blankF (c : Nat) : Str := if spaceN c then one 32 else one c
theorem bk1 {c : Nat} {t : Tok} (h : spaceN c = true) : Value.str (Str.ofString " ") t = .str (blankF c) t := by
  unfold blankF; rw [h, litBl]; rfl
theorem bk2 {c : Nat} {t : Tok} (h : spaceN c = false) : Value.str (one c) t = .str (blankF c) t := by
  unfold blankF; rw [h]; rfl
def endsS (x : Str) : Str := Txt.join (Str.ofString "\n") (Txt.split (Txt.join (Str.ofString "\n") (Txt.split x (Str.ofString "\x0d\n"))) (Str.ofString "\x0d"))
theorem lenNL : (Str.ofString "\n").length = 1 := by decide +kernel
theorem lenCR : (Str.ofString "\x0d").length = 1 := by decide +kernel
theorem lenCN : (Str.ofString "\x0d\n").length = 2 := by decide +kernel
theorem ends_ok1 {x : Str} {ys : List Str} (hx : x.length ≤ 64) (e : ys = Txt.split x (Str.ofString "\x0d\n")) : (ys.map (·.length)).sum + ys.length * (Str.ofString "\n").length ≤ 16777216 := by
  have h := split_weight x (Str.ofString "\x0d\n") (by rw [lenCN]; decide)
  rw [e, lenNL]; omega
theorem mid_len {x : Str} (hx : x.length ≤ 64) : (Txt.join (Str.ofString "\n") (Txt.split x (Str.ofString "\x0d\n"))).length ≤ 65 := by
  have h := split_weight x (Str.ofString "\x0d\n") (by rw [lenCN]; decide)
  show (Builtin.Str.glued _ _).length ≤ _
  rw [StrLaws.glued_eq_join]
  have h2 := StrLaws.join_length_le (Str.ofString "\n") (Txt.split x (Str.ofString "\x0d\n"))
  rw [lenNL] at h2
  omega
theorem ends_ok2 {x : Str} {ys : List Str} (hx : x.length ≤ 64) (e : ys = Txt.split (Txt.join (Str.ofString "\n") (Txt.split x (Str.ofString "\x0d\n"))) (Str.ofString "\x0d")) : (ys.map (·.length)).sum + ys.length * (Str.ofString "\n").length ≤ 16777216 := by
  have h := split_weight (Txt.join (Str.ofString "\n") (Txt.split x (Str.ofString "\x0d\n"))) (Str.ofString "\x0d") (by rw [lenCR]; decide)
  have h3 := mid_len hx
  rw [e, lenNL]; omega
def oneS (l : List Nat) : Str := ⟨l.toArray⟩
theorem blank_ok {x : Str} (hx : x.length ≤ 64) : ((x.cps.toList.map blankF).map (·.length)).sum + (x.cps.toList.map blankF).length * (Str.ofString "").length ≤ 16777216 := by
  have hl : x.cps.toList.length ≤ 64 := by simpa [Str.length] using hx
  refine ok_of_bound (n := 64) (B := 1) (by simpa using hl) (fun y hy => ?_) ?_
  · obtain ⟨c, _, rfl⟩ := List.mem_map.mp hy
    unfold blankF; split <;> simp [Str.length]
  · rw [show (Str.ofString "").length = 0 by decide +kernel]; decide
theorem c_collapsed (w : World) (mean : ExcName → Option Value) (mg mb : Str → Option Value) (x : Str) (t : Tok) (hx : x.length ≤ 64) :
    SaysV w mean mg mb 8 165 [.str x t] (fun t => .str (Txt.join (Str.ofString " ") (wordsL x.cps.toList)) t) := by
  k_with_none
  w_top off
  k_with_none
  k_with "joinok" => exact words_ok hx
  unfold SaysV
  k_fill
  intro news dp un gd cn cs a ccd cl outer A₀ base h₀ L m s Q E B F X N T hk hd hu hret
  refine wpAny_call ?_
  k_dflt (refine' enter_pure ?k1 ?k2 ?k3 ?k4 ?k5 ?kA ?kF ?kK ?k6 ?k7 ?k8 ?k9 ?kB ?_ ?c2 ?c3 ?c4 ?c5; (case kA => exact rfl); (case kF => exact rfl); (case kK => assumption); (case k1 => k_asm); (case k2 => k_asm); (case k3 => k_asm); (case k4 => k_asm); (case k5 => k_asm); (case k6 => k_is); (case k7 => k_is); (case k8 => ktr_room); (case k9 => exact BindsTo.of_eq rfl); (case c5 => decide); (case kB => exact locs rfl); (case c2 => exact rfl); (case c3 => exact rfl); (case c4 => exact rfl); k_whole; intro g' L' h' FG' F' N' B' X' T' lt' hN'; (try dsimp only); (try k_lift B'); (try k_fold))
  k_steps
  exact cb_ret hret _ rfl (by k_asm) (hN' _ (Fr.keep (by k_asm)))
theorem c_blanked (w : World) (mean : ExcName → Option Value) (mg mb : Str → Option Value) (x : Str) (t : Tok) (hx : x.length ≤ 64) :
    SaysV w mean mg mb 8 170 [.str x t] (fun t => .str (Txt.join (Str.ofString "") (x.cps.toList.map blankF)) t) := by
  k_with_none
  w_top off
  k_with_none
  k_with "joinok" => exact blank_ok hx
  k_with "eval ListComp" => (k_dflt (refine' ListComp_text (by k_asm) (by with_unfolding_all rfl) (by decide) (by rfl) (by decide) (by rfl) ?_))
  k_with "SrcText" => (k_dflt ((refine' srcText_map blankF (by rfl) (by k_asm) (by k_asm) ?sz ?turn ?fin); (case sz => (first | exact fit_text (by assumption) | exact fit_split (by assumption) (by assumption) | (rw [PySem.sizeLine_eq]; first | omega | (simp only [Str.length] at *; omega)))); (case' turn => intro c' t' I' oI' C' oC' D' m' ys' h' tk' E' hc' hC' hx' F' N' off' ne'; (simp only [LCg.Off3, and_true] at off'); (try k_sweep)); (case' fin => intro g9 ys9 hs9); (all_goals (try k_fold))))
  unfold SaysV
  k_fill
  intro news dp un gd cn cs a ccd cl outer A₀ base h₀ L m s Q E B F X N T hk hd hu hret
  refine wpAny_call ?_
  k_dflt (refine' enter_pure ?k1 ?k2 ?k3 ?k4 ?k5 ?kA ?kF ?kK ?k6 ?k7 ?k8 ?k9 ?kB ?_ ?c2 ?c3 ?c4 ?c5; (case kA => exact rfl); (case kF => exact rfl); (case kK => assumption); (case k1 => k_asm); (case k2 => k_asm); (case k3 => k_asm); (case k4 => k_asm); (case k5 => k_asm); (case k6 => k_is); (case k7 => k_is); (case k8 => ktr_room); (case k9 => exact BindsTo.of_eq rfl); (case c5 => decide); (case kB => exact locs rfl); (case c2 => exact rfl); (case c3 => exact rfl); (case c4 => exact rfl); k_whole; intro g' L' h' FG' F' N' B' X' T' lt' hN'; (try dsimp only); (try k_lift B'); (try k_fold))
  k_steps
  · exact cb_ret hret _ rfl (by k_asm) (hN' _ (Fr.keep (by k_asm)))
  · exact bk1 (by assumption)
  · exact bk2 (by assumption)
theorem c_ends (w : World) (mean : ExcName → Option Value) (mg mb : Str → Option Value) (x : Str) (t : Tok) (hx : x.length ≤ 64) :
    SaysV w mean mg mb 8 151 [.str x t] (fun t => .str (endsS x) t) := by
  k_with_none
  w_top off
  k_with_none
  k_with "joinok" => (first | exact ends_ok1 hx (by assumption) | exact ends_ok2 hx (by assumption))
  have hmid := mid_len hx
  unfold SaysV
  k_fill
  intro news dp un gd cn cs a ccd cl outer A₀ base h₀ L m s Q E B F X N T hk hd hu hret
  refine wpAny_call ?_
  k_dflt (refine' enter_pure ?k1 ?k2 ?k3 ?k4 ?k5 ?kA ?kF ?kK ?k6 ?k7 ?k8 ?k9 ?kB ?_ ?c2 ?c3 ?c4 ?c5; (case kA => exact rfl); (case kF => exact rfl); (case kK => assumption); (case k1 => k_asm); (case k2 => k_asm); (case k3 => k_asm); (case k4 => k_asm); (case k5 => k_asm); (case k6 => k_is); (case k7 => k_is); (case k8 => ktr_room); (case k9 => exact BindsTo.of_eq rfl); (case c5 => decide); (case kB => exact locs rfl); (case c2 => exact rfl); (case c3 => exact rfl); (case c4 => exact rfl); k_whole; intro g' L' h' FG' F' N' B' X' T' lt' hN'; (try dsimp only); (try k_lift B'); (try k_fold))
  k_steps
  exact cb_ret hret _ rfl (by k_asm) (hN' _ (Fr.keep (by k_asm)))
local macro_rules | `(tactic| walk_at "call builtin:len") => `(tactic| (k_here; k_extra "call builtin:len"))
local macro_rules | `(tactic| walk_at "call builtin:chr") => `(tactic| (k_here; k_extra "call builtin:chr"))
local macro_rules | `(tactic| walk_at "compareOp In int ref") => `(tactic| (k_here; k_extra "compareOp In int ref"))

theorem len_intsA {prog : Program} {w : World} {A : Around} {E : Value → Shared → Prop} {s : Shared} {a : Addr} {l : List Value} {ns : List Int} {Q : Value → Shared → Prop} (hl : s.heap.IsList a l.toArray) (hi : IntsAre l ns) (hfit : ns.length ≤ 1000)
    (h : Q (.int ns.length (s.toks + 1)) { s with toks := s.toks + 1 + 1 }) : wpAny (model prog w) A (call (.builtin "len") [.ref a]) Q E s := by
  have e : l.toArray.size = ns.length := by rw [List.size_toArray]; exact hi.length
  refine len_list hl (by rw [e]; omega) ?_
  rw [e]
  exact h
def inB (c : Int) (ns : List Int) : Bool := decide ((ns.filter fun b => decide (b ≤ c)).length % 2 = 1)
def charB : List Int := [9, 11, 13, 14, 32, 55296, 57344, 65534, 65536, 1114112]
def startB : List Int := [58, 59, 65, 91, 95, 96, 97, 123, 192, 215, 216, 247, 248, 768, 880, 894, 895, 8192, 8204, 8206, 8304, 8592, 11264, 12272, 12289, 55296, 63744, 64976, 65008, 65534, 65536, 983040]
def moreB : List Int := [45, 47, 48, 58, 183, 184, 768, 880, 8255, 8257]

theorem isin_end {α : Type} (xs : List α) : (((xs.length : Nat) : Int).fmod 2 == 1) = decide (xs.length % 2 = 1) := by
  rw [Int.fmod_eq_emod_of_nonneg _ (by decide)]
  rw [Bool.eq_iff_iff]
  simp only [beq_iff_eq, decide_eq_true_eq]
  omega
def pairsB : List Int → List (Int × Int)
  | lo :: hi :: r => (lo, hi - 1) :: pairsB r
  | _ => []
def sortedB : List Int → Bool
  | [] => true
  | [_] => false
  | lo :: hi :: r => decide (lo ≤ hi) && r.all (fun b => decide (hi ≤ b)) && sortedB r
theorem filt_none {c : Int} {r : List Int} (h : ∀ b ∈ r, c < b) : r.filter (fun b => decide (b ≤ c)) = [] := by
  rw [List.filter_eq_nil_iff]
  intro b hb
  have := h b hb
  simp; omega
theorem inB_inR (c : Int) : ∀ (ns : List Int), sortedB ns = true → inB c ns = inR c (pairsB ns)
  | [], _ => rfl
  | [_], h => by cases h
  | lo :: hi :: r, h => by
    simp only [sortedB, Bool.and_eq_true, decide_eq_true_eq, List.all_eq_true] at h
    obtain ⟨⟨h1, h2⟩, h3⟩ := h
    have ih := inB_inR c r h3
    unfold inB at ih ⊢
    simp only [pairsB, inR]
    by_cases a : c < lo
    · rw [if_pos a, filt_none (fun b hb => by
        rcases List.mem_cons.mp hb with rfl | hb
        · exact a
        · rcases List.mem_cons.mp hb with rfl | hb
          · omega
          · have := h2 b hb; omega)]
      rfl
    · rw [if_neg a]
      by_cases b : c ≤ hi - 1
      · rw [if_pos b]
        have e1 : decide (lo ≤ c) = true := decide_eq_true (by omega)
        rw [List.filter_cons, if_pos e1, filt_none (fun b' hb => by
          rcases List.mem_cons.mp hb with rfl | hb
          · omega
          · have := h2 b' hb; omega)]
        rfl
      · rw [if_neg b, ← ih]
        have e1 : decide (lo ≤ c) = true := decide_eq_true (by omega)
        have e2 : decide (hi ≤ c) = true := decide_eq_true (by omega)
        rw [List.filter_cons, if_pos e1, List.filter_cons, if_pos e2]
        simp only [List.length_cons]
        rw [Bool.eq_iff_iff]
        simp only [decide_eq_true_eq]
        omega
theorem charB_pairs : pairsB charB = (9, 10) :: (13, 13) :: charT := by decide
theorem startB_pairs : pairsB startB = (58, 58) :: (65, 90) :: (95, 95) :: (97, 122) :: startT := by decide
theorem moreB_pairs : pairsB moreB = (45, 46) :: (48, 57) :: moreT := by decide
theorem charB_lo : ∀ c : Nat, c < 32 → inR (c : Int) ((9, 10) :: (13, 13) :: charT) = spaceN c := by decide
theorem charB_eq (c : Nat) : inB c charB = charN c := by
  rw [inB_inR _ _ (by decide), charB_pairs]
  unfold charN
  by_cases h : c < 32
  · rw [if_pos h]; exact charB_lo c h
  · rw [if_neg h]
    simp only [inR]
    rw [if_neg (by omega), if_neg (by omega), if_neg (by omega), if_neg (by omega)]
theorem startB_eq (c : Nat) : inB c startB = startN c := by
  rw [inB_inR _ _ (by decide), startB_pairs]
  unfold startN smallN
  by_cases h : c < 128
  · rw [if_pos h, Bool.eq_iff_iff]
    have e : inR (c : Int) startT = false := by unfold startT; rw [inR, if_pos (by omega)]
    simp only [inR, e]
    repeat' split
    all_goals (simp; try omega)
  · rw [if_neg h]
    simp only [inR]
    rw [if_neg (by omega), if_neg (by omega), if_neg (by omega), if_neg (by omega), if_neg (by omega), if_neg (by omega), if_neg (by omega), if_neg (by omega)]
theorem moreB_eq (c : Nat) (h0 : startN c = false) : inB c moreB = nameN c := by
  rw [inB_inR _ _ (by decide), moreB_pairs]
  unfold nameN
  rw [h0, Bool.false_or]
  by_cases h : c < 128
  · rw [if_pos h, Bool.eq_iff_iff]
    have e : inR (c : Int) moreT = false := by unfold moreT; rw [inR, if_pos (by omega)]
    simp only [inR, e]
    repeat' split
    all_goals (simp; try omega)
  · rw [if_neg h]
    simp only [inR]
    rw [if_neg (by omega), if_neg (by omega), if_neg (by omega), if_neg (by omega)]
theorem sr1 {c : Int} (h0 : 0 ≤ c) : ¬ (charN c.toNat != inB c charB) = true := by
  have h := charB_eq c.toNat
  rw [Int.toNat_of_nonneg h0] at h
  rw [h]; simp
theorem sr2 {c : Int} (h0 : 0 ≤ c) : ¬ (spaceN c.toNat != [9, 10, 13, 32].any (fun x => x == c)) = true := by
  have e : spaceN c.toNat = [9, 10, 13, 32].any (fun x => x == c) := by
    unfold spaceN
    rw [Bool.eq_iff_iff]
    simp
    omega
  rw [e]; simp
theorem st1 {c : Nat} (h : startN c = true) : startN c = nameN c := by unfold nameN; rw [h]; rfl
theorem st2 {c : Nat} (h : startN c = false) : inB (c : Int) moreB = nameN c := moreB_eq c h
theorem c_isinC (w : World) (mean : ExcName → Option Value) (mg mb : Str → Option Value) (c : Int) (t : Tok) :
    SaysV w mean mg mb 2 206 [.int c t, .ref 178] (fun _ => .bool (inB c charB)) := by
  k_with_none
  w_top off
  k_with_none
  k_with "eval ListComp" => (k_dflt (refine' LCt.ListComp_T (by k_asm) (by with_unfolding_all rfl) (by decide) (by rfl) (by decide) (by rfl) ?_))
  k_with "CompSrcT" => (k_dflt ((have hL9 := lstK X' (a := 178) (by k_is)); (refine' LCt.CompSrcT.base (by rfl) (by k_asm) (by k_asm) hL9 (by exact Nat.le_of_ble_eq_true rfl) ?_); intro g9; (refine' restT_ints (fun b => decide (b ≤ c)) ?kI ?turn ?fin); (case kI => repeat' constructor); (case' turn => intro c' t' I' oI' C' oC' D' m' ys' h' tk' E' hc' hC' hx' F' N' off' ne'; (simp only [LCg.Off3, and_true] at off'); (try k_sweep)); (case' fin => intro ys9 hs9); (all_goals (try k_fold))))
  k_with "call builtin:len" => (k_dflt (refine' len_intsA (News.isList (by k_asm) (by k_mem)) (by assumption) (Nat.le_trans (List.length_filter_le _ _) (by decide)) ?_))
  unfold SaysV
  k_fill
  intro news dp un gd cn cs a ccd cl outer A₀ base h₀ L m s Q E B F X N T hk hd hu hret
  refine wpAny_call ?_
  k_dflt (refine' enter_pureC ?k1 ?k2 ?k3 ?k4 ?k5 ?kA ?kF ?kK ?k6 ?k7 ?k8 ?k9 ?kB ?kD ?_ ?c2 ?c3 ?c4; (case kA => exact rfl); (case kF => exact rfl); (case kK => assumption); (case k1 => k_asm); (case k2 => k_asm); (case k3 => k_asm); (case k4 => k_asm); (case k5 => k_asm); (case k6 => k_is); (case k7 => k_is); (case k8 => ktr_room); (case k9 => exact BindsTo.of_eq rfl); (case kB => exact rfl); (case kD => decide +kernel); (case c2 => exact rfl); (case c3 => exact rfl); (case c4 => exact rfl); k_whole; intro g' L' h' tk' cells' FG' F' N' Y' B' X' T' hN'; k_cells Y'; (try simp only [List.cons_append, List.nil_append] at N'); (try dsimp only); (try k_lift B'); (try k_fold))
  k_steps
  · exact cb_retB hret (isin_end _) (by k_asm) (hN' _ (Fr.keep (by k_asm)))
  · exact decide_eq_false (by assumption)
theorem c_isinS (w : World) (mean : ExcName → Option Value) (mg mb : Str → Option Value) (c : Int) (t : Tok) :
    SaysV w mean mg mb 2 206 [.int c t, .ref 179] (fun _ => .bool (inB c startB)) := by
  k_with_none
  w_top off
  k_with_none
  k_with "eval ListComp" => (k_dflt (refine' LCt.ListComp_T (by k_asm) (by with_unfolding_all rfl) (by decide) (by rfl) (by decide) (by rfl) ?_))
  k_with "CompSrcT" => (k_dflt ((have hL9 := lstK X' (a := 179) (by k_is)); (refine' LCt.CompSrcT.base (by rfl) (by k_asm) (by k_asm) hL9 (by exact Nat.le_of_ble_eq_true rfl) ?_); intro g9; (refine' restT_ints (fun b => decide (b ≤ c)) ?kI ?turn ?fin); (case kI => repeat' constructor); (case' turn => intro c' t' I' oI' C' oC' D' m' ys' h' tk' E' hc' hC' hx' F' N' off' ne'; (simp only [LCg.Off3, and_true] at off'); (try k_sweep)); (case' fin => intro ys9 hs9); (all_goals (try k_fold))))
  k_with "call builtin:len" => (k_dflt (refine' len_intsA (News.isList (by k_asm) (by k_mem)) (by assumption) (Nat.le_trans (List.length_filter_le _ _) (by decide)) ?_))
  unfold SaysV
  k_fill
  intro news dp un gd cn cs a ccd cl outer A₀ base h₀ L m s Q E B F X N T hk hd hu hret
  refine wpAny_call ?_
  k_dflt (refine' enter_pureC ?k1 ?k2 ?k3 ?k4 ?k5 ?kA ?kF ?kK ?k6 ?k7 ?k8 ?k9 ?kB ?kD ?_ ?c2 ?c3 ?c4; (case kA => exact rfl); (case kF => exact rfl); (case kK => assumption); (case k1 => k_asm); (case k2 => k_asm); (case k3 => k_asm); (case k4 => k_asm); (case k5 => k_asm); (case k6 => k_is); (case k7 => k_is); (case k8 => ktr_room); (case k9 => exact BindsTo.of_eq rfl); (case kB => exact rfl); (case kD => decide +kernel); (case c2 => exact rfl); (case c3 => exact rfl); (case c4 => exact rfl); k_whole; intro g' L' h' tk' cells' FG' F' N' Y' B' X' T' hN'; k_cells Y'; (try simp only [List.cons_append, List.nil_append] at N'); (try dsimp only); (try k_lift B'); (try k_fold))
  k_steps
  · exact cb_retB hret (isin_end _) (by k_asm) (hN' _ (Fr.keep (by k_asm)))
  · exact decide_eq_false (by assumption)
theorem c_isinM (w : World) (mean : ExcName → Option Value) (mg mb : Str → Option Value) (c : Int) (t : Tok) :
    SaysV w mean mg mb 2 206 [.int c t, .ref 180] (fun _ => .bool (inB c moreB)) := by
  k_with_none
  w_top off
  k_with_none
  k_with "eval ListComp" => (k_dflt (refine' LCt.ListComp_T (by k_asm) (by with_unfolding_all rfl) (by decide) (by rfl) (by decide) (by rfl) ?_))
  k_with "CompSrcT" => (k_dflt ((have hL9 := lstK X' (a := 180) (by k_is)); (refine' LCt.CompSrcT.base (by rfl) (by k_asm) (by k_asm) hL9 (by exact Nat.le_of_ble_eq_true rfl) ?_); intro g9; (refine' restT_ints (fun b => decide (b ≤ c)) ?kI ?turn ?fin); (case kI => repeat' constructor); (case' turn => intro c' t' I' oI' C' oC' D' m' ys' h' tk' E' hc' hC' hx' F' N' off' ne'; (simp only [LCg.Off3, and_true] at off'); (try k_sweep)); (case' fin => intro ys9 hs9); (all_goals (try k_fold))))
  k_with "call builtin:len" => (k_dflt (refine' len_intsA (News.isList (by k_asm) (by k_mem)) (by assumption) (Nat.le_trans (List.length_filter_le _ _) (by decide)) ?_))
  unfold SaysV
  k_fill
  intro news dp un gd cn cs a ccd cl outer A₀ base h₀ L m s Q E B F X N T hk hd hu hret
  refine wpAny_call ?_
  k_dflt (refine' enter_pureC ?k1 ?k2 ?k3 ?k4 ?k5 ?kA ?kF ?kK ?k6 ?k7 ?k8 ?k9 ?kB ?kD ?_ ?c2 ?c3 ?c4; (case kA => exact rfl); (case kF => exact rfl); (case kK => assumption); (case k1 => k_asm); (case k2 => k_asm); (case k3 => k_asm); (case k4 => k_asm); (case k5 => k_asm); (case k6 => k_is); (case k7 => k_is); (case k8 => ktr_room); (case k9 => exact BindsTo.of_eq rfl); (case kB => exact rfl); (case kD => decide +kernel); (case c2 => exact rfl); (case c3 => exact rfl); (case c4 => exact rfl); k_whole; intro g' L' h' tk' cells' FG' F' N' Y' B' X' T' hN'; k_cells Y'; (try simp only [List.cons_append, List.nil_append] at N'); (try dsimp only); (try k_lift B'); (try k_fold))
  k_steps
  · exact cb_retB hret (isin_end _) (by k_asm) (hN' _ (Fr.keep (by k_asm)))
  · exact decide_eq_false (by assumption)
local macro_rules | `(tactic| walk_at "call ref") => `(tactic| ((with_reducible show wpAny _ _ (call (Value.ref 206) [_, Value.ref 178]) _ _ _); k_here; k_dflt (refine' saysV_use (c_isinC _ _ _ _ _ _) ?k1 ?k2 ?k3 ?k4 ?k5 ?kK ?kd ?ku ?_; (case k1 => k_asm); (case k2 => k_asm); (case k3 => k_asm); (case k4 => k_asm); (case k5 => k_asm); (case kK => first | exact rfl | assumption); (case kd => ktr_room); (case ku => ktr_units)); intro t9 h9 tk9 F9 N9; (try dsimp only); (try k_sweep); (try k_fold)))
local macro_rules | `(tactic| walk_at "call ref") => `(tactic| ((with_reducible show wpAny _ _ (call (Value.ref 206) [_, Value.ref 179]) _ _ _); k_here; k_dflt (refine' saysV_use (c_isinS _ _ _ _ _ _) ?k1 ?k2 ?k3 ?k4 ?k5 ?kK ?kd ?ku ?_; (case k1 => k_asm); (case k2 => k_asm); (case k3 => k_asm); (case k4 => k_asm); (case k5 => k_asm); (case kK => first | exact rfl | assumption); (case kd => ktr_room); (case ku => ktr_units)); intro t9 h9 tk9 F9 N9; (try dsimp only); (try k_sweep); (try k_fold)))
local macro_rules | `(tactic| walk_at "call ref") => `(tactic| ((with_reducible show wpAny _ _ (call (Value.ref 206) [_, Value.ref 180]) _ _ _); k_here; k_dflt (refine' saysV_use (c_isinM _ _ _ _ _ _) ?k1 ?k2 ?k3 ?k4 ?k5 ?kK ?kd ?ku ?_; (case k1 => k_asm); (case k2 => k_asm); (case k3 => k_asm); (case k4 => k_asm); (case k5 => k_asm); (case kK => first | exact rfl | assumption); (case kd => ktr_room); (case ku => ktr_units)); intro t9 h9 tk9 F9 N9; (try dsimp only); (try k_sweep); (try k_fold)))
theorem c_begins (w : World) (mean : ExcName → Option Value) (mg mb : Str → Option Value) (c : Nat) (t : Tok) :
    SaysV w mean mg mb 3 213 [.str (one c) t] (fun _ => .bool (startN c)) := by
  k_with_none
  w_top off
  k_with_none
  unfold SaysV
  k_fill
  intro news dp un gd cn cs a ccd cl outer A₀ base h₀ L m s Q E B F X N T hk hd hu hret
  refine wpAny_call ?_
  k_dflt (refine' enter_pure ?k1 ?k2 ?k3 ?k4 ?k5 ?kA ?kF ?kK ?k6 ?k7 ?k8 ?k9 ?kB ?_ ?c2 ?c3 ?c4 ?c5; (case kA => exact rfl); (case kF => exact rfl); (case kK => assumption); (case k1 => k_asm); (case k2 => k_asm); (case k3 => k_asm); (case k4 => k_asm); (case k5 => k_asm); (case k6 => k_is); (case k7 => k_is); (case k8 => ktr_room); (case k9 => exact BindsTo.of_eq rfl); (case c5 => decide); (case kB => exact locs rfl); (case c2 => exact rfl); (case c3 => exact rfl); (case c4 => exact rfl); k_whole; intro g' L' h' FG' F' N' B' X' T' lt' hN'; (try dsimp only); (try k_lift B'); (try k_fold))
  k_steps
  all_goals (refine' cb_retB hret ?_ (by k_asm) (by exact hN' _ (Fr.keep (by k_asm))))
  all_goals exact startB_eq c
local macro_rules | `(tactic| walk_at "call ref") => `(tactic| ((with_reducible show wpAny _ _ (call (Value.ref 213) _) _ _ _); k_here; k_dflt (refine' saysV_use (c_begins _ _ _ _ _ _) ?k1 ?k2 ?k3 ?k4 ?k5 ?kK ?kd ?ku ?_; (case k1 => k_asm); (case k2 => k_asm); (case k3 => k_asm); (case k4 => k_asm); (case k5 => k_asm); (case kK => first | exact rfl | assumption); (case kd => ktr_room); (case ku => ktr_units)); intro t9 h9 tk9 F9 N9; (try dsimp only); (try k_sweep); (try k_fold)))
theorem c_stands (w : World) (mean : ExcName → Option Value) (mg mb : Str → Option Value) (c : Nat) (t : Tok) :
    SaysV w mean mg mb 4 220 [.str (one c) t] (fun _ => .bool (nameN c)) := by
  k_with_none
  w_top off
  k_with_none
  unfold SaysV
  k_fill
  intro news dp un gd cn cs a ccd cl outer A₀ base h₀ L m s Q E B F X N T hk hd hu hret
  refine wpAny_call ?_
  k_dflt (refine' enter_pure ?k1 ?k2 ?k3 ?k4 ?k5 ?kA ?kF ?kK ?k6 ?k7 ?k8 ?k9 ?kB ?_ ?c2 ?c3 ?c4 ?c5; (case kA => exact rfl); (case kF => exact rfl); (case kK => assumption); (case k1 => k_asm); (case k2 => k_asm); (case k3 => k_asm); (case k4 => k_asm); (case k5 => k_asm); (case k6 => k_is); (case k7 => k_is); (case k8 => ktr_room); (case k9 => exact BindsTo.of_eq rfl); (case c5 => decide); (case kB => exact locs rfl); (case c2 => exact rfl); (case c3 => exact rfl); (case c4 => exact rfl); k_whole; intro g' L' h' FG' F' N' B' X' T' lt' hN'; (try dsimp only); (try k_lift B'); (try k_fold))
  k_steps
  all_goals (refine' cb_retB hret ?_ (by k_asm) (by exact hN' _ (Fr.keep (by k_asm))))
  · exact st1 (by assumption)
  · exact st2 (by assumption)
local macro_rules | `(tactic| walk_at "call ref") => `(tactic| ((with_reducible show wpAny _ _ (call (Value.ref 220) _) _ _ _); k_here; k_dflt (refine' saysV_use (c_stands _ _ _ _ _ _) ?k1 ?k2 ?k3 ?k4 ?k5 ?kK ?kd ?ku ?_; (case k1 => k_asm); (case k2 => k_asm); (case k3 => k_asm); (case k4 => k_asm); (case k5 => k_asm); (case kK => first | exact rfl | assumption); (case kd => ktr_room); (case ku => ktr_units)); intro t9 h9 tk9 F9 N9; (try dsimp only); (try k_sweep); (try k_fold)))
theorem c_signright (w : World) (mean : ExcName → Option Value) (mg mb : Str → Option Value) (c : Int) (t : Tok) (h0 : 0 ≤ c) (h1 : c ≤ 1114111) :
    SaysV w mean mg mb 5 234 [.int c t] (fun _ => .bool true) := by
  k_with_none
  w_top off
  k_with_none
  unfold SaysV
  k_fill
  intro news dp un gd cn cs a ccd cl outer A₀ base h₀ L m s Q E B F X N T hk hd hu hret
  refine wpAny_call ?_
  k_dflt (refine' enter_pure ?k1 ?k2 ?k3 ?k4 ?k5 ?kA ?kF ?kK ?k6 ?k7 ?k8 ?k9 ?kB ?_ ?c2 ?c3 ?c4 ?c5; (case kA => exact rfl); (case kF => exact rfl); (case kK => assumption); (case k1 => k_asm); (case k2 => k_asm); (case k3 => k_asm); (case k4 => k_asm); (case k5 => k_asm); (case k6 => k_is); (case k7 => k_is); (case k8 => ktr_room); (case k9 => exact BindsTo.of_eq rfl); (case c5 => decide); (case kB => exact locs rfl); (case c2 => exact rfl); (case c3 => exact rfl); (case c4 => exact rfl); k_whole; intro g' L' h' FG' F' N' B' X' T' lt' hN'; (try dsimp only); (try k_lift B'); (try k_fold))
  k_steps
  · exact absurd (by assumption) (sr1 h0)
  · exact absurd (by assumption) (sr2 h0)
  · exact cb_retB hret (beq_self_eq_true _) (by k_asm) (hN' _ (Fr.keep (by k_asm)))
  · exact absurd (beq_self_eq_true _) (by rw [Bool.not_eq_true]; assumption)
local macro_rules | `(tactic| k_ne) => `(tactic| (refine neN ?_; (try dsimp only); first | assumption | (exact Ne.symm (by assumption)) | (simp only [*, ne_eq, not_false_eq_true]; done) | (refine Ne.symm ?_; simp only [*, ne_eq, not_false_eq_true]; done) | (refine Nat.ne_of_gt ?_; simp only [*]; done) | (refine Nat.ne_of_lt ?_; simp only [*]; done) | omega))

def okT (x : Str) : Prop := ∀ c ∈ x.cps.toList, c < 1114112
theorem okNil : ∀ y ∈ ([] : List Str), okT y := fun _ h => nomatch h
theorem mem_join {sep y : Str} {c : Nat} : ∀ {ps : List Str}, y ∈ ps → c ∈ y.cps.toList → c ∈ (Str.join sep ps).cps.toList
  | [p], hy, hc => by rw [List.mem_singleton.mp hy] at hc; exact hc
  | p :: q :: r, hy, hc => by
    show c ∈ (p ++ sep ++ Str.join sep (q :: r)).cps.toList
    rw [Str.cps_append, Str.cps_append, Array.toList_append, Array.toList_append]
    rcases List.mem_cons.mp hy with rfl | hy
    · exact List.mem_append_left _ (List.mem_append_left _ hc)
    · exact List.mem_append_right _ (mem_join hy hc)
theorem ok_parts {x sep : Str} (hx : okT x) : ∀ y ∈ Txt.split x sep, okT y := fun y hy c hc => hx c (by
  have := mem_join (sep := sep) hy hc
  rw [StrLaws.join_split] at this
  exact this)
theorem ok_filter {ys : List Str} {p : Str → Bool} (h : ∀ y ∈ ys, okT y) : ∀ y ∈ ys.filter p, okT y := fun y hy => h y ((List.mem_filter.mp hy).1)
theorem ok_signs {l : List Nat} {p : Nat → Bool} (h : ∀ c ∈ l, c < 1114112) : ∀ y ∈ (l.filter p).map (fun c => (⟨#[c]⟩ : Str)), okT y := by
  intro y hy c hc
  obtain ⟨d, hd, rfl⟩ := List.mem_map.mp hy
  have : c = d := by simpa using hc
  rw [this]; exact h d ((List.mem_filter.mp hd).1)
section
variable {prog : Program} {w : World} {A : Around} {E : Value → Shared → Prop} {s : Shared}
theorem shaped_strs (ss : List Str) (hok : ∀ y ∈ ss, okT y) : SeqAt.shaped (.list (ss.map PyData.str)) = true := by
  have h1 : ∀ ss : List Str, (∀ y ∈ ss, okT y) → PyData.canLayAll0 (ss.map PyData.str) = true := fun ss => by
    induction ss with
    | nil => intro _; rfl
    | cons a r ih =>
      intro h
      have ha : PyData.strOk a = true := by
        unfold PyData.strOk
        rw [Array.all_eq_true_iff_forall_mem]
        intro c hc
        have := h a (.head _) c (by simpa using hc)
        simpa using this
      simp [PyData.canLayAll0, PyData.canLay0, ih (fun y hy => h y (.tail _ hy)), ha]
  have h2 : ∀ ss : List Str, PyData.depthAll (ss.map PyData.str) = 0 := fun ss => by
    induction ss with
    | nil => rfl
    | cons a r ih => simp [PyData.depthAll, PyData.depth, ih]
  simp [SeqAt.shaped, PyData.canLay0, PyData.depth, h1 ss hok, h2]
theorem same_strs : ∀ ns ms : List Str, PySem.Spec.sameAll (ns.map PyData.str) (ms.map PyData.str) = decide (ns = ms)
  | [], [] => by simp [PySem.Spec.sameAll]
  | [], _ :: _ => by simp [PySem.Spec.sameAll]
  | _ :: _, [] => by simp [PySem.Spec.sameAll]
  | a :: r, b :: t => by
    simp only [List.map_cons, PySem.Spec.sameAll, PySem.Spec.same, same_strs r t]
    by_cases h : a = b <;> by_cases h' : r = t <;> simp [h, h']
theorem carried_strs : ∀ {vs : List Value} {ns : List Str}, StrsAre vs ns → CarriedAll vs (ns.map PyData.str)
  | _, _, .nil => .nil
  | _, _, .cons _ t r => .cons (.str _ t) (carried_strs r)
theorem eq_strsA {a b : Addr} {xs ys : Array Value} {ns ms : List Str} {Q : Value → Shared → Prop} (ha : s.heap.IsList a xs) (hb : s.heap.IsList b ys) (hi : StrsAre xs.toList ns) (hj : StrsAre ys.toList ms) (ho : ∀ y ∈ ns, okT y) (hp : ∀ y ∈ ms, okT y) (hu : A.units + 64 < cLine) (h : Q (.bool (decide (ns = ms))) s) :
    wpAny (model prog w) A (compareOp .Eq (.ref a) (.ref b)) Q E s :=
  eq_dataH_same (reads_newData (by simpa using ha) (carried_strs hi)) (reads_newData (by simpa using hb) (carried_strs hj)) (shaped_strs _ ho) (shaped_strs _ hp) hu (SeqAt.noMix_of_shape (.list .str) rfl _ _ (list_map_has fun _ => rfl) (list_map_has fun _ => rfl)) (by
    simp only [PySem.Spec.same]; rw [same_strs]; exact h)
theorem ne_strsA {a b : Addr} {xs ys : Array Value} {ns ms : List Str} {Q : Value → Shared → Prop} (ha : s.heap.IsList a xs) (hb : s.heap.IsList b ys) (hi : StrsAre xs.toList ns) (hj : StrsAre ys.toList ms) (ho : ∀ y ∈ ns, okT y) (hp : ∀ y ∈ ms, okT y) (hu : A.units + 64 < cLine) (h : Q (.bool (!decide (ns = ms))) s) :
    wpAny (model prog w) A (compareOp .NotEq (.ref a) (.ref b)) Q E s :=
  ne_dataH_same (reads_newData (by simpa using ha) (carried_strs hi)) (reads_newData (by simpa using hb) (carried_strs hj)) (shaped_strs _ ho) (shaped_strs _ hp) hu (SeqAt.noMix_of_shape (.list .str) rfl _ _ (list_map_has fun _ => rfl) (list_map_has fun _ => rfl)) (by
    simp only [PySem.Spec.same]; rw [same_strs]; exact h)
theorem split_led {x y : Str} {t u : Tok} {h₀ : Heap} {L : Addr} {m : Str → Option Value} {news : List (Addr × Obj)} {Q : Value → Shared → Prop} (hF : Fr h₀ L s.heap m) (hN : News h₀ L s.heap news) (hy : (y.length == 0) = false) (hx : x.length ≤ 1000)
    (h : ∀ D (its : Array Value) h' k, StrsAre its.toList (Txt.split x y) → its.size ≤ x.length + 2 → (∀ p ∈ news, p.1 < D) → Fr h₀ L h' m → News h₀ L h' ((D, W.listOf its 0) :: news) → Q (.ref D) { s with heap := h', toks := k }) :
    wpAny (model prog w) A (call (.builtin "str.split") [.str x t, .str y u]) Q E s := by
  refine splitN1A hF hN hy (fun l h' k e hs _ _ F N => ?_) (by rw [PySem.sizeLine_eq]; omega)
  have hs' : StrsAre (strValues l).toArray.toList (Txt.split x y) := by rw [← e]; simpa using hs
  refine h _ (strValues l).toArray h' k hs' ?_ (fun p hp => Heap.lt_size (hN p hp).1) F N
  have h1 : (strValues l).toArray.size = (Txt.split x y).length := by simpa using hs'.length
  have h2 := split_le x y
  omega
end
theorem len0 : (Str.ofString "").length = 0 := by decide +kernel
theorem lenC : (Str.ofString ":").length = 1 := by decide +kernel
theorem split_ok {x : Str} (hx : x.length ≤ 64) : ((Txt.split x (Str.ofString ":")).map (·.length)).sum + (Txt.split x (Str.ofString ":")).length * (Str.ofString "").length ≤ 16777216 := by
  have h := split_weight x (Str.ofString ":") (by rw [lenC]; decide)
  rw [len0]; omega
theorem joined_len {x : Str} (hx : x.length ≤ 64) : (Txt.join (Str.ofString "") (Txt.split x (Str.ofString ":"))).cps.size ≤ 64 := by
  have h := split_weight x (Str.ofString ":") (by rw [lenC]; decide)
  have h2 := StrLaws.join_length_le (Str.ofString "") (Txt.split x (Str.ofString ":"))
  rw [len0] at h2
  show (Builtin.Str.glued _ _).length ≤ _
  rw [StrLaws.glued_eq_join]
  have h3 : 1 ≤ (Txt.split x (Str.ofString ":")).length := split_pos _ _
  omega
theorem joined_ok {x : Str} (hx : okT x) : ∀ c ∈ (Txt.join (Str.ofString "") (Txt.split x (Str.ofString ":"))).cps.toList, c < 1114112 := by
  show ∀ c ∈ (Builtin.Str.glued _ _).cps.toList, _
  rw [StrLaws.glued_eq_join]
  have key : ∀ ps : List Str, (∀ y ∈ ps, okT y) → ∀ c ∈ (Str.join (Str.ofString "") ps).cps.toList, c < 1114112 := by
    intro ps
    induction ps with
    | nil => intro _ c hc; simp [Str.join, Str.empty] at hc
    | cons p r ih =>
      intro h c hc
      cases r with
      | nil => exact h p (.head _) c hc
      | cons q r =>
        have e : (Str.join (Str.ofString "") (p :: q :: r)).cps.toList = p.cps.toList ++ (Str.ofString "").cps.toList ++ (Str.join (Str.ofString "") (q :: r)).cps.toList := by
          show (p ++ Str.ofString "" ++ Str.join (Str.ofString "") (q :: r)).cps.toList = _
          rw [Str.cps_append, Str.cps_append, Array.toList_append, Array.toList_append]
        rw [e, litEmpty] at hc
        simp only [List.append_nil, List.mem_append] at hc
        rcases hc with hc | hc
        · exact h p (.head _) c hc
        · rw [← litEmpty] at hc; exact ih (fun y hy => h y (.tail _ hy)) c hc
  exact key _ (ok_parts hx)
def badS (y : Str) : Bool := (y == Str.ofString "") || !startN ((Txt.charAt y 0).getD 0)
def partsL (x : Str) : List Str := Txt.split x (Str.ofString ":")
def dueL (x : Str) : Option (List Str) :=
  if 2 < (partsL x).length || !((partsL x).filter badS).isEmpty || !((Txt.join (Str.ofString "") (partsL x)).cps.toList.filter fun c => !nameN c).isEmpty then none
  else some (if (partsL x).length = 1 then [Str.ofString "", x] else partsL x)
theorem dl1 {x : Str} {its : Array Value} (hs : StrsAre its.toList (Txt.split x (Str.ofString ":"))) (h : 2 < (its.size : Int)) : dueL x = none := by
  have e : its.size = (partsL x).length := by simpa [partsL] using hs.length
  unfold dueL
  rw [if_pos (by simp; omega)]
theorem dl2 {x : Str} (h : decide ((Txt.split x (Str.ofString ":")).filter badS = []) = false) : dueL x = none := by
  unfold dueL partsL
  rw [if_pos (by simp only [decide_eq_false_iff_not] at h; simp [h])]
theorem dl3 {x : Str} {f : Nat → Str} (h : decide (((Txt.join (Str.ofString "") (Txt.split x (Str.ofString ":"))).cps.toList.filter fun c => !nameN c).map f = []) = false) : dueL x = none := by
  unfold dueL partsL
  rw [if_pos (by simp only [decide_eq_false_iff_not, List.map_eq_nil_iff] at h; simp only [Bool.or_eq_true]; right; simp only [Bool.not_eq_true', List.isEmpty_eq_false_iff]; exact h)]
theorem dl4 {x : Str} {its : Array Value} {f : Nat → Str} (hs : StrsAre its.toList (Txt.split x (Str.ofString ":"))) (h1 : ¬ 2 < (its.size : Int)) (h2 : decide ((Txt.split x (Str.ofString ":")).filter badS = []) = true)
    (h3 : decide (((Txt.join (Str.ofString "") (Txt.split x (Str.ofString ":"))).cps.toList.filter fun c => !nameN c).map f = []) = true) :
    dueL x = some (if its.size = 1 then [Str.ofString "", x] else Txt.split x (Str.ofString ":")) := by
  have e : its.size = (partsL x).length := by simpa [partsL] using hs.length
  simp only [decide_eq_true_eq, List.map_eq_nil_iff] at h2 h3
  unfold dueL
  rw [if_neg (by
    have e2 : partsL x = Txt.split x (Str.ofString ":") := rfl
    rw [e2, h2, h3]
    rw [← e2]
    simp
    omega), e]
  rfl
theorem dl4a {x : Str} {its : Array Value} {f : Nat → Str} (hs : StrsAre its.toList (Txt.split x (Str.ofString ":"))) (h1 : ¬ 2 < (its.size : Int)) (h2 : decide ((Txt.split x (Str.ofString ":")).filter badS = []) = true)
    (h3 : decide (((Txt.join (Str.ofString "") (Txt.split x (Str.ofString ":"))).cps.toList.filter fun c => !nameN c).map f = []) = true) (h4 : (its.size : Int) = 1) :
    dueL x = some [Str.ofString "", x] := by rw [dl4 hs h1 h2 h3, if_pos (by omega)]
theorem dl4b {x : Str} {its : Array Value} {f : Nat → Str} (hs : StrsAre its.toList (Txt.split x (Str.ofString ":"))) (h1 : ¬ 2 < (its.size : Int)) (h2 : decide ((Txt.split x (Str.ofString ":")).filter badS = []) = true)
    (h3 : decide (((Txt.join (Str.ofString "") (Txt.split x (Str.ofString ":"))).cps.toList.filter fun c => !nameN c).map f = []) = true) (h4 : (its.size : Int) ≠ 1) :
    dueL x = some (Txt.split x (Str.ofString ":")) := by rw [dl4 hs h1 h2 h3, if_neg (by omega)]
theorem ret_texts {h₀ g h' : Heap} {L L' l : Addr} {m m' : Str → Option Value} {news all all' : List (Addr × Obj)} {s : Shared} {Q : Value → Shared → Prop} {Ret : List (Addr × Obj) → Value → Prop} {tk' k : Nat} {its : Array Value} {ws : List Str}
    (hret : ∀ (r : Value) (news' : List (Addr × Obj)) (h' : Heap) (tk' : Nat), Ret news' r → Fr h₀ L h' m → News h₀ L h' news' → Q r { s with heap := h', toks := tk' })
    (hR : ∀ news', MadeTexts news ws news' (.ref l) → Ret news' (.ref l)) (hN : ∀ h' : Heap, (∀ b o, g.get? b = some o → h'.get? b = some o) → News h₀ L h' news)
    (F : Fr g L' h' m') (N : News g L' h' all) (hm : (l, W.listOf its k) ∈ all) (kF : Fr h₀ L h' m) (kN : News h₀ L h' all') (hm' : (l, W.listOf its k) ∈ all') (hs : StrsAre its.toList ws) : Q (.ref l) { s with heap := h', toks := tk' } :=
  have q := made_one hN F N hm kN hm'
  hret _ _ h' tk' (hR _ ⟨l, its, k, rfl, rfl, hs, q.2⟩) kF q.1
theorem bd1 {y : Str} (h : (y == Str.ofString "") = true) : badS y = true := by unfold badS; rw [h]; rfl
theorem bd2 {y : Str} (h : (y == Str.ofString "") = false) (h2 : startN ((Txt.charAt y 0).getD 0) = true) : badS y = false := by unfold badS; rw [h, h2]; rfl
theorem bd3 {y : Str} (h2 : startN ((Txt.charAt y 0).getD 0) = false) : badS y = true := by unfold badS; rw [h2]; simp
def MadeTextsO (news : List (Addr × Obj)) : Option (List Str) → List (Addr × Obj) → Value → Prop
  | none, news', r => news' = news ∧ r = .none
  | some ws, news', r => MadeTexts news ws news' r
theorem mto_none {news : List (Addr × Obj)} {x : Str} (h : dueL x = none) : MadeTextsO news (dueL x) news .none := by rw [h]; exact ⟨rfl, rfl⟩
theorem mto_some {news news' : List (Addr × Obj)} {x : Str} {ws : List Str} {r : Value} (h : dueL x = some ws) (hm : MadeTexts news ws news' r) : MadeTextsO news (dueL x) news' r := by rw [h]; exact hm
local macro_rules | `(tactic| walk_at "call builtin:str.split") => `(tactic| ((with_reducible show wpAny _ _ (call (Value.builtin "str.split") [Value.str _ _, Value.str _ _]) _ _ _); k_here; (k_dflt (refine' split_led ?kF ?kN ?ky ?ks ?_; (case kF => k_asm); (case kN => k_asm); (case ky => decide +kernel); (case ks => first | omega | (simp only [Str.length] at *; omega)))); intro D9 its9 h9 k9 hs9 hz9 l1 F9 N9; (try k_lt l1); (try dsimp only); (try k_sweep)))
local macro_rules | `(tactic| walk_at "compareOp Eq ref ref") => `(tactic| ((with_reducible show wpAny _ _ (compareOp CmpOp.Eq (Value.ref _) (Value.ref _)) _ _ _); k_here; (k_dflt (refine' eq_strsA ?ka ?kb ?ki ?kj ?kx ?ky ?ku ?_; (case ka => first | is_list | exact News.isList (by k_asm) (by k_mem)); (case kb => first | is_list | exact News.isList (by k_asm) (by k_mem)); (case ki => first | assumption | exact .nil | exact .cons _ _ .nil | exact .cons _ _ (.cons _ _ .nil)); (case kj => first | assumption | exact .nil | exact .cons _ _ .nil | exact .cons _ _ (.cons _ _ .nil)); (case kx => first | exact okNil | k_extra "okts"); (case ky => first | exact okNil | k_extra "okts"); (case ku => ke_room)))))
local macro_rules | `(tactic| walk_at "compareOp NotEq ref ref") => `(tactic| ((with_reducible show wpAny _ _ (compareOp CmpOp.NotEq (Value.ref _) (Value.ref _)) _ _ _); k_here; (k_dflt (refine' ne_strsA ?ka ?kb ?ki ?kj ?kx ?ky ?ku ?_; (case ka => first | is_list | exact News.isList (by k_asm) (by k_mem)); (case kb => first | is_list | exact News.isList (by k_asm) (by k_mem)); (case ki => first | assumption | exact .nil | exact .cons _ _ .nil | exact .cons _ _ (.cons _ _ .nil)); (case kj => first | assumption | exact .nil | exact .cons _ _ .nil | exact .cons _ _ (.cons _ _ .nil)); (case kx => first | exact okNil | k_extra "okts"); (case ky => first | exact okNil | k_extra "okts"); (case ku => ke_room)))))
theorem c_lawsplit (w : World) (mean : ExcName → Option Value) (mg mb : Str → Option Value) (news : List (Addr × Obj)) (x : Str) (t : Tok) (hx : x.length ≤ 64) (hok : okT x) :
    Says w mean mg mb 12 239 (fun _ => True) news [.str x t] (MadeTextsO news (dueL x)) := by
  k_with_none
  w_top off
  k_with_none
  k_with "joinok" => exact split_ok hx
  k_with "okts" => (first | exact ok_filter (ok_parts hok) | exact ok_signs (joined_ok hok))
  have hjl := joined_len hx
  k_with "eval ListComp" => first | ((with_reducible show wpAny _ _ (eval (Expr.ListComp _ [⟨_, Expr.Call _ _ _ _, _, _⟩] _ _) _) _ _ _); (k_dflt (refine' ListComp_textT (by k_asm) (by with_unfolding_all rfl) (by decide) (by rfl) (by decide) (by rfl) ?_))) | (k_dflt (refine' LCt.ListComp_T (by k_asm) (by with_unfolding_all rfl) (by decide) (by rfl) (by decide) (by rfl) ?_))
  k_with "CompSrcT" => (k_dflt ((refine' LCt.CompSrcT.ledger (by rfl) (by k_asm) (by k_asm) (by k_mem) ?sz ?_); (case sz => (first | exact fit_text (by assumption) | exact fit_split (by assumption) (by assumption) | (rw [PySem.sizeLine_eq]; first | omega | (simp only [Str.length] at *; omega)))); intro g9; (refine' restT_strs badS ?kI ?turn ?fin); (case kI => assumption); (case' turn => intro y' t' I' oI' C' oC' D' m' ys' h' tk' E' hc' hC' hx' F' N' off' ne'; (simp only [LCg.Off3, and_true] at off'); (try k_sweep)); (case' fin => intro ys9 hs9); (all_goals (try k_fold))))
  k_with "SrcTextT" => (k_dflt ((refine' srcText_filter (fun c => !nameN c) (by rfl) (by k_asm) (by k_asm) ?szf ?turnf ?finf); (case szf => (first | exact fit_text (by assumption) | exact fit_split (by assumption) (by assumption) | (rw [PySem.sizeLine_eq]; first | omega | (simp only [Str.length] at *; omega)))); (case' turnf => intro c' t' I' oI' C' oC' D' m' ys' h' tk' E' hc' hC' hx' F' N' off' ne'; (simp only [LCg.Off3, and_true] at off'); (try k_sweep)); (case' finf => intro g9 ys9 hs9); (all_goals (try k_fold))))
  k_with "call builtin:len" => (k_dflt (refine' len_list (News.isList (by k_asm) (by k_mem)) (by omega) ?_))
  unfold Says
  k_fill
  intro dp un gd cn cs a ccd cl outer A₀ base h₀ L m s Q E B F X N T hk hd hu hask hret
  refine wpAny_call ?_
  k_dflt (refine' enter_pure ?k1 ?k2 ?k3 ?k4 ?k5 ?kA ?kF ?kK ?k6 ?k7 ?k8 ?k9 ?kB ?_ ?c2 ?c3 ?c4 ?c5; (case kA => exact rfl); (case kF => exact rfl); (case kK => assumption); (case k1 => k_asm); (case k2 => k_asm); (case k3 => k_asm); (case k4 => k_asm); (case k5 => k_asm); (case k6 => k_is); (case k7 => k_is); (case k8 => ktr_room); (case k9 => exact BindsTo.of_eq rfl); (case c5 => decide); (case kB => exact locs rfl); (case c2 => exact rfl); (case c3 => exact rfl); (case c4 => exact rfl); k_whole; intro g' L' h' FG' F' N' B' X' T' lt' hN'; (try dsimp only); (try k_lift B'); (try k_fold))
  k_steps
  · exact hret _ _ _ _ (mto_none (dl1 (by assumption) (by assumption))) (by k_asm) (hN' _ (Fr.keep (by k_asm)))
  · exact ret_texts hret (fun _ h => mto_some (dl4a (by assumption) (by assumption) (by assumption) (by assumption) (by assumption)) h) hN' (by k_asm) (by k_asm) (by k_mem) (by k_asm) (by k_asm) (by k_mem) (.cons _ _ (.cons _ _ .nil))
  · exact ret_texts hret (fun _ h => mto_some (dl4b (by assumption) (by assumption) (by assumption) (by assumption) (by assumption)) h) hN' (by k_asm) (by k_asm) (by k_mem) (by k_asm) (by k_asm) (by k_mem) (by assumption)
  · exact hret _ _ _ _ (mto_none (dl3 (by assumption))) (by k_asm) (hN' _ (Fr.keep (by k_asm)))
  · simp_all
  · exact hret _ _ _ _ (mto_none (dl2 (by assumption))) (by k_asm) (hN' _ (Fr.keep (by k_asm)))
  · exact bd1 (by assumption)
  · exact bd2 (by assumption) (by assumption)
  · exact bd3 (by assumption)
def bmE : List Value := [.type "Exception", .type "BaseException", .type "object"]
/-- a class C of the project under a class D of the project under Exception; D alone has an __init__, the def fI -/
def Cls2 (h : Heap) (C D fI : Addr) : Prop :=
  ∃ nm q N bs sn sub ab col dd k0 k1 k2 k3 k5 mN oD cD mD oI, h.get? C = some (excClassObj nm q C N bs (.ref D :: bmE) true sn sub ab col dd k0 k1 k2 k3 k5 "Exception.__new__") ∧ h.Ns N mN ∧ mN "__init__" = none ∧ mN "__setattr__" = none ∧ mN "message" = none ∧
    h.get? D = some oD ∧ oD.data = .cls cD ∧ h.Ns cD.ns mD ∧ mD "__init__" = some (.ref fI) ∧ mD "__setattr__" = none ∧ mD "message" = none ∧ h.get? fI = some oI ∧ oI.cls = .type "function"

theorem ns_init_of {K : Frag} {h : Heap} {N : Addr} {n : Str} {v : Value} {mg : Str → Option Value} (X : K.In h) (G : h.Ns N mg) (e : nsIn K N n = some (some v)) : mg n = some v := by
  obtain ⟨o, es, ep, ho, hd, _, hf⟩ := G
  unfold nsIn at e
  split at e
  · rename_i c d es' n' sl q
    have := X _ _ q
    rw [ho] at this
    cases this
    cases hd
    split at e
    · rename_i en he
      cases e
      rw [← hf]
      unfold nsFind findBy
      rw [← Array.find?_toList, he]
      rfl
    · split at e <;> cases e
  · cases e
theorem cls2_of {K : Frag} {h : Heap} {C D fI N ND : Addr} {nm q : Str} {bs : List Value} {sn : List Str} {sub : List Value} {ab : Bool} {col : Option Bool} {dd : Option Addr} {k0 k1 k2 k3 k5 : Option Value} {cl : Value} {dd' df : Option Addr} {cD : ClassData} {sl sl' : Array (Option Value)} {dat : Data}
    (X : K.In h) (e1 : K.lookup C = some (excClassObj nm q C N bs (.ref D :: bmE) true sn sub ab col dd k0 k1 k2 k3 k5 "Exception.__new__")) (e2 : K.lookup D = some ⟨cl, dd', .cls cD, sl⟩) (e3 : K.lookup fI = some ⟨.type "function", df, dat, sl'⟩) (eN : cD.ns = ND)
    (n1 : nsIn K N "__init__" = some none) (n2 : nsIn K N "__setattr__" = some none) (n3 : nsIn K N "message" = some none)
    (n4 : nsIn K ND "__init__" = some (some (.ref fI))) (n5 : nsIn K ND "__setattr__" = some none) (n6 : nsIn K ND "message" = some none)
    (M4 : h.Ns N (h.nsMap N)) (M5 : h.Ns ND (h.nsMap ND)) : Cls2 h C D fI := by
  subst eN
  exact ⟨_, _, N, _, _, _, _, _, _, _, _, _, _, _, h.nsMap N, _, _, h.nsMap cD.ns, _, X _ _ e1, M4, ns_none_of X M4 n1, ns_none_of X M4 n2, ns_none_of X M4 n3, X _ _ e2, rfl, M5, ns_init_of X M5 n4, ns_none_of X M5 n5, ns_none_of X M5 n6, X _ _ e3, rfl⟩
theorem nsOk_of {K : Frag} {N : Addr} {c : Value} {d : Option Addr} {es : Array DictEntry} {n : Nat} {sl : Array (Option Value)} (e : K.lookup N = some ⟨c, d, .dict es n, sl⟩) (h : (es.all fun e => match e.key with | .str _ _ => true | _ => false) = true) : nsOkIn K N = true := by
  unfold nsOkIn; rw [e]; exact h
theorem cls44 (w : World) : ∀ {h : Heap}, (hd.heap_39 w.params).In h → PySem.Challenge.rw_nu0053_01.row.prog = PySem.Challenge.rw_nu0053_01.row.prog → Cls2 h 44 31 28 := by
  k_fill
  intro h X _
  have k4 : nsOkIn (hd.heap_39 w.params) 43 = true := by
    refine' nsOk_of ?e ?h; (case e => k_is); (case h => simp)
  have k5 : nsOkIn (hd.heap_39 w.params) 30 = true := by
    refine' nsOk_of ?e ?h; (case e => k_is); (case h => simp)
  refine' cls2_of X ?e1 ?e2 ?e3 ?eN ?n1 ?n2 ?n3 ?n4 ?n5 ?n6 ?M4 ?M5
  case e1 => k_is
  case e2 => k_is
  case e3 => k_is
  case eN => exact rfl
  case n1 => k_is
  case n2 => k_is
  case n3 => k_is
  case n4 => k_is
  case n5 => k_is
  case n6 => k_is
  case M4 => exact .of_isNs (isNs_of_in X k4)
  case M5 => exact .of_isNs (isNs_of_in X k5)

section
variable {M : Model} {A : Around} {E : Value → Shared → Prop} {h : Heap} {g : Array GenState} {d : Drawn} {t : Nat} {os : OsState}
variable {nm q : Str} {C N D : Addr} {bs : List Value} {hdct : Bool} {sn : List Str} {sub : List Value} {ab : Bool} {col : Option Bool} {dd : Option Addr} {k0 k1 k2 k3 k5 : Option Value}

theorem has2 (T : String) : (Value.ref C :: Value.ref D :: bmE).contains (.type T) = bmE.contains (.type T) := by
  rw [List.contains_cons, List.contains_cons]; rfl
theorem check_new2 {rest : List Value} {Q : Unit → Shared → Prop} (hC : h.get? C = some (excClassObj nm q C N bs (.ref D :: bmE) hdct sn sub ab col dd k0 k1 k2 k3 k5 "Exception.__new__"))
    (hq : Q () ⟨h, g, d, t, os⟩) : wpAny M A (checkBuiltinCall "Exception.__new__" ⟨.ref C :: rest, []⟩) Q E ⟨h, g, d, t, os⟩ := by
  have F := PySem.F.excBase_Exception
  have hcont : (Value.ref C :: Value.ref D :: bmE).contains (.type "Exception") = true := (has2 _).trans F.hasB
  have hstar := F.noStar
  simp only [checkBuiltinCall, F.newKind, F.newSplit, F.newRow]
  repeat (first | refine wpAny_loadPart_at hC ?_ | (refine wpAny_isSubtype_exc hC ?_; rw [hcont]) | refine wpAny_staticBase_exc hC ?_ | refine wpAny_madeBy_exc hC ?_ | simp only [bne_self_eq_false, Bool.false_eq_true, if_false] | wp_step)
  exact hq

theorem typeLookup2 {name : Str} {mN mD : Str → Option Value} {oD : Obj} {cD : ClassData} {y : Option Value} {Q : Option Value → Shared → Prop}
    (hC : h.get? C = some (excClassObj nm q C N bs (.ref D :: bmE) hdct sn sub ab col dd k0 k1 k2 k3 k5 "Exception.__new__")) (hn : h.Ns N mN) (hD : h.get? D = some oD) (hcD : oD.data = .cls cD) (hDn : h.Ns cD.ns mD)
    (hB : typeLookup (.type "Exception") name = pure y)
    (hq : Q (match mN name with | some v => some v | none => match mD name with | some v => some v | none => y) ⟨h, g, d, t, os⟩) : wpAny M A (typeLookup (.ref C) name) Q E ⟨h, g, d, t, os⟩ := by
  have hrest : lookupAlong bmE name = pure y := by rw [typeLookup_eq, PySem.F.excBase_Exception.mroIs] at hB; exact hB
  rw [typeLookup_eq]
  refine wpAny_bind (wpAny_mroOf_exc hC ?_)
  rw [lookupAlong_cons]
  refine wpAny_bind (wpAny_classOwn_exc hC hn ?_)
  cases hv : mN name with
  | some v => rw [hv] at hq; exact wpAny_pure hq
  | none =>
    rw [hv] at hq
    show wpAny M A (lookupAlong (.ref D :: bmE) name) _ _ _
    rw [lookupAlong_cons]
    obtain ⟨c0, od, dat, sl⟩ := oD
    cases hcD
    refine wpAny_bind (wpAny_classOwn_cls hD hDn ?_)
    cases hv' : mD name with
    | some v => simp only [hv'] at hq; exact wpAny_pure hq
    | none => simp only [hv'] at hq; rw [hrest]; exact wpAny_pure hq
end

section
variable {prog : Program} {w : World} {A : Around} {R : Result → Shared → Prop} {E : Value → Shared → Prop} {h : Heap} {g : Array GenState} {d : Drawn} {t : Nat} {os : OsState}
variable {nm q : Str} {C N D fI : Addr} {bs : List Value} {hdct : Bool} {sn : List Str} {sub : List Value} {ab : Bool} {col : Option Bool} {dd : Option Addr} {k0 k1 k2 k3 k5 : Option Value}

theorem exc_new2 {rest : List Value} (hC : h.get? C = some (excClassObj nm q C N bs (.ref D :: bmE) hdct sn sub ab col dd k0 k1 k2 k3 k5 "Exception.__new__"))
    (hq : R (.ok (.ret (.ref (h.objs.size + 1)))) ⟨(h.push { cls := .type "tuple", data := .seq rest.toArray }).push
      { cls := .ref C, data := .fields #[.ref h.objs.size, .none, .none, .none, .bool false, .none] }, g, d, t, os⟩) (hrest : rest.length ≤ sizeLine) :
    codeAny (model prog w) A (.builtin "Exception.__new__" ⟨.ref C :: rest, []⟩) R ⟨h, g, d, t, os⟩ := by
  have F := PySem.F.excBase_Exception
  have hends := F.ends
  have hcB : (Value.ref C :: Value.ref D :: bmE).contains (.type "Exception") = true := (has2 _).trans F.hasB
  have hcA : (Value.ref C :: Value.ref D :: bmE).contains (.type "AttributeError") = false := (has2 _).trans F.noAttr
  have hcN : (Value.ref C :: Value.ref D :: bmE).contains (.type "NameError") = false := (has2 _).trans F.noName
  refine codeAny_builtinAt F.entry ?_
  unfold Builtin.«BaseException.__new__»
  refine PySem.wpAt_bind ?_
  show PySem.wpAt _ _ _ (stack >>= _) _ _ _
  refine PySem.wpAt_bind (PySem.wpAt_stack fun p below => PySem.wpAt_of_wpAny ?_)
  wp_walk
  refine PySem.wpAt_of_wpAny ?_
  rw [F.owner]
  repeat (first | with_reducible refine wpAny_madeHere_exc F.canon hC ?_ | with_reducible refine wpAny_loadPart_at hC ?_ | (with_reducible refine wpAny_isSubtype_exc hC ?_; first | rw [hcB] | rw [hcA] | rw [hcN]) | wp_step)
  show R _ _
  rw [Heap.size_push]
  exact hq

theorem type_call2 {mN mD : Str → Option Value} {rest : List Value} {oD oI : Obj} {cD : ClassData} {Q : Fin → Shared → Prop}
    (hC : h.get? C = some (excClassObj nm q C N bs (.ref D :: bmE) hdct sn sub ab col dd k0 k1 k2 k3 k5 "Exception.__new__")) (hn : h.Ns N mN) (hD : h.get? D = some oD) (hcD : oD.data = .cls cD) (hDn : h.Ns cD.ns mD)
    (hni : mN "__init__" = none) (hi : mD "__init__" = some (.ref fI)) (hfI : h.get? fI = some oI) (hfc : oI.cls = .type "function")
    (hq : ∀ h' e, Heap.MadeExcOf h h' e (.ref C) rest →
      wpAny (model prog w) A (call (.ref fI) (.ref e :: rest)) (fun r s' => r = .none ∧ Q (.done (.ret (.ref e))) s') E ⟨h', g, d, t, os⟩) (hrest : rest.length ≤ sizeLine) :
    wpAny (model prog w) A (Builtin.«type.__call__» ⟨.ref C :: rest, []⟩) Q E ⟨h, g, d, t, os⟩ := by
  have F := PySem.F.excBase_Exception
  repeat (first | with_reducible refine wpAny_loadPart_at hC ?_ | with_reducible refine wpAny_madeBy_exc hC ?_ | wp_step)
  refine codeAny_call_builtin_code (Code.quiet_builtin _ F.quiet) (check_new2 hC ?_)
  refine exc_new2 hC ?_ hrest
  show wpAny _ _ _ _ _ _
  have up : ∀ b o, h.get? b = some o → ((h.push { cls := .type "tuple", data := .seq rest.toArray }).push { cls := .ref C, data := .fields #[.ref h.objs.size, .none, .none, .none, .bool false, .none] }).get? b = some o :=
    fun b o e => Heap.get?_push_of_some _ (Heap.get?_push_of_some _ e)
  have hC₁ := up _ _ hC
  have hfI₁ := up _ _ hfI
  have hn₁ := hn.keeps up
  have hD₁ := up _ _ hD
  have hDn₁ := hDn.keeps up
  have hget : ((h.push { cls := .type "tuple", data := .seq rest.toArray }).push
      { cls := .ref C, data := .fields #[.ref h.objs.size, .none, .none, .none, .bool false, .none] }).get? (h.objs.size + 1) = some
      { cls := .ref C, data := .fields #[.ref h.objs.size, .none, .none, .none, .bool false, .none] } := by heap_get
  have hcC : (Value.ref C :: Value.ref D :: bmE).contains (.ref C) = true := by simp
  unfold isInstance
  repeat (first | with_reducible refine wpAny_loadPart_at hget ?_ | (with_reducible refine wpAny_isSubtype_exc hC₁ ?_; rw [hcC]) | wp_step)
  show wpAny _ _ (typeLookup (.ref C) _) _ _ _
  refine typeLookup2 hC₁ hn₁ hD₁ hcD hDn₁ F.init.lookup ?_
  simp only [hni, hi]
  refine wpAny_holding (wpAny_bind ?_)
  unfold bindSpecial
  refine wpAny_bind (wpAny_typeOf (T := "function") ⟨_, hfI₁, hfc⟩ ?_)
  rw [if_pos (by decide)]
  refine wpAny_pure (wpAny_bind (wpAny_mono (hq _ (h.objs.size + 1) ⟨up, Heap.get?_none_of_le (Nat.le_succ _), h.objs.size, hget, Heap.get?_none_of_le (Nat.le_refl _), ?_⟩) (fun r s' hr => ?_) fun _ _ x => x))
  · exact Heap.get?_push_of_some _ (Heap.get?_push_at rfl rfl)
  · obtain ⟨rfl, hQ⟩ := hr
    wp_walk
    exact hQ

theorem call_exc2 {rest : List Value} {Q : Value → Shared → Prop} (K : Cls2 h C D fI)
    (hq : ∀ h' e, Heap.MadeExcOf h h' e (.ref C) rest →
      wpAny (model prog w) (A.under (.builtin "type.__call__" ⟨.ref C :: rest, []⟩)) (call (.ref fI) (.ref e :: rest)) (fun r s' => r = .none ∧ Q (.ref e) s') E ⟨h', g, d, t, os⟩) (hrest : rest.length ≤ sizeLine := by size_fits) :
    wpAny (model prog w) A (call (.ref C) rest) Q E ⟨h, g, d, t, os⟩ := by
  obtain ⟨nm, q, N, bs, sn, sub, ab, col, dd, k0, k1, k2, k3, k5, mN, oD, cD, mD, oI, hC, hn, hni, _, _, hD, hcD, hDn, hi, _, _, hfI, hfc⟩ := K
  have f1 := tc_lookup
  have f2 := tc_bind (.ref C)
  have hT : (⟨h, g, d, t, os⟩ : Shared).TypeIs (.ref C) "type" := ⟨_, hC, rfl⟩
  refine wpAny_call (codeAny_of_tree ?_)
  show wpAny _ _ (callAny (.ref C) _) _ _ _
  repeat (any_goals (first | assumption | with_reducible refine wpAny_loadPart_at hC ?_ | wp_step))
  refine ⟨rfl, ?_⟩
  refine codeAny_call_builtin_at (Code.quiet_builtin _ (by decide +kernel)) entry_typeCall (wpAny_check_type_call_sub hC (type_call2 hC hn hD hcD hDn hni hi hfI hfc (fun h' e hm => ?_) hrest))
  exact hq h' e hm

theorem raise_step {s : Shared} {env : Env} {C D fI : Addr} {x : PySem.Expr} {pos : Pos} {Q : Flow → Shared → Prop} (hh : A.handled = none)
    (h : wpAny (model prog w) A (eval x env) (fun v s₁ => ∃ e dx a0 sl, v = .ref e ∧ Cls2 s₁.heap C D fI ∧ s₁.heap.get? e = some ⟨.ref C, dx, .fields #[a0, .none, .none, .none, .bool false, .none], sl⟩ ∧ E (.ref e) s₁) E s) :
    wpAny (model prog w) A (exec (.Raise (some x) none pos) env) Q E s := by
  rw [arm_exec_Raise]
  show wpAny _ _ (do standAt pos; raiseStmt env (some (do let v ← eval x env; standAt pos; pure v)) none) Q E s
  refine wpAny_bind (wpAny_standAt ?_)
  unfold raiseStmt
  refine wpAny_bind (wpAny_bind (wpAny_mono h (fun v s₁ h₁ => wpAny_bind (wpAny_standAt (wpAny_pure ?_))) fun _ _ x => x))
  obtain ⟨e, dx, a0, sl, rfl, ⟨nm, q, N, bs, sn, sub, ab, col, dd, k0, k1, k2, k3, k5, mN, oD, cD, mD, oI, hC, _⟩, he, hE⟩ := h₁
  have hcB : (Value.ref C :: Value.ref D :: bmE).contains (.type "BaseException") = true := (has2 _).trans PySem.F.excBase_Exception.hasBase
  obtain ⟨hp, g, d, tk, os⟩ := s₁
  repeat (first | with_reducible refine wpAny_loadPart_at he ?_ | with_reducible refine wpAny_loadPart_at hC ?_ | (with_reducible refine wpAny_isSubtype_exc hC ?_; rw [hcB]) | wp_step)
  exact wpAny_raiseNew_none hh hE
end
section
open Builtin Builtin.ObjectAttr
variable {prog : Program} {w : World} {A : Around} {R : Result → Shared → Prop} {E : Value → Shared → Prop} {h : Heap} {g : Array GenState} {d : Drawn} {t : Nat} {os : OsState}
variable {C D fI e : Addr} {dx : Option Addr} {t0 : Addr} {sl : Array (Option Value)}

theorem base_init2 {rest : List Value} {Q : Value → Shared → Prop} (K : Cls2 h C D fI) (he : h.get? e = some ⟨.ref C, dx, .fields #[.ref t0, .none, .none, .none, .bool false, .none], sl⟩) (hrest : rest.length ≤ sizeLine)
    (hq : Q .none ⟨(h.push { cls := .type "tuple", data := .seq rest.toArray }).update e (Obj.mapFields (·.setIfInBounds 0 (.ref h.objs.size))), g, d, t, os⟩) :
    wpAny (model prog w) A (call (.builtin "Exception.__init__") (.ref e :: rest)) Q E ⟨h, g, d, t, os⟩ := by
  have F := PySem.F.excBase_Exception
  obtain ⟨nm, q, N, bs, sn, sub, ab, col, dd, k0, k1, k2, k3, k5, mN, oD, cD, mD, oI, hC, _⟩ := K
  have hcB : (Value.ref C :: Value.ref D :: bmE).contains (.type "Exception") = true := (has2 _).trans F.hasB
  refine wpAny_call (codeAny_call_builtin F.init.plain F.initEntry ?_)
  have hshort := F.noStar
  simp only [checkBuiltinCall, F.initKind, F.initSplit, F.initRow]
  repeat (first | with_reducible refine wpAny_loadPart_at he ?_ | with_reducible refine wpAny_loadPart_at hC ?_ | (with_reducible refine wpAny_isSubtype_exc hC ?_; rw [hcB]) | wp_step)
  refine wpAny_onRaise ?_
  rw [show ∀ (a b : String) (n : Nat), Bind.check ⟨.positional, "*", "Exception", .self, [⟨"args", .varPos, false⟩]⟩ a b n (List.map (fun x => x.fst) ({ pos := Value.ref e :: rest } : Args).kw) = pure () from
    fun a b n => check_star_args _ _ _ _ _ _]
  refine wpAny_pure ?_
  unfold Builtin.«BaseException.__init__»
  dsimp only
  rw [if_neg (by simp)]
  unfold newTuple Builtin.BaseException.bexcPut
  have he₁ := Heap.get?_push_of_some (h := h) { cls := .type "tuple", data := .seq rest.toArray } he
  refine wpAny_bind (wpAny_newObj_type (wpAny_bind (wpAny_bind (wpAny_field he₁ rfl (x := .ref t0) rfl (wpAny_bind (wpAny_setField he₁ rfl (by show 0 < 6; decide) ?_))))) hrest)
  exact wpAny_letGo (wpAny_pure hq)

theorem store2 {name : Str} {v : Value} {tk : Tok} {Q : Fin → Shared → Prop} {vs : Array Value} (K : Cls2 h C D fI) (hnm : name = "message") (he : h.get? e = some ⟨.ref C, none, .fields vs, sl⟩)
    (hq : ∀ h' dx tk', h'.get? e = some ⟨.ref C, some dx, .fields vs, sl⟩ → (∀ b o, b ≠ e → h.get? b = some o → h'.get? b = some o) → Q (.done (.ret .none)) ⟨h', g, d, tk', os⟩) :
    wpAny (model prog w) A (Builtin.«object.__setattr__» ⟨[.ref e, .str name tk, v], []⟩) Q E ⟨h, g, d, t, os⟩ := by
  obtain ⟨nm, q, N, bs, sn, sub, ab, col, dd, k0, k1, k2, k3, k5, mN, oD, cD, mD, oI, hC, hn, hni, hns, hnm', hD, hcD, hDn, hi, hds, hdm, hfI, hfc⟩ := K
  subst hnm
  have hpass := PySem.F.store_Exception.passes (.ref e)
  have hB : typeLookup (.type "Exception") "message" = pure none := by rw [typeLookup_type, builtinLookup_eq_fast]; kernel_rfl
  obtain ⟨o, ho⟩ : ∃ o, o = (⟨.ref C, none, .fields vs, sl⟩ : Obj) := ⟨_, rfl⟩
  rw [← ho] at he
  have hc : o.cls = .ref C := by rw [ho]
  have hdn : o.dict = none := by rw [ho]
  have hnc : ∀ c, o.data ≠ .cls c := by rw [ho]; intro c q; cases q
  unfold Builtin.«object.__setattr__»
  repeat (first | rw [refuse_eq] | (rw [refuseLoop_ref, refuseLoop_ref, show refuseLoop (.ref e) "__setattr__" bmE = pure () from hpass]) | (with_reducible refine wpAny_loadPart_at he ?_; rw [hc]) | with_reducible refine wpAny_mroOf_exc hC ?_ | (with_reducible refine typeLookup2 hC hn hD hcD hDn hB ?_; simp only [hnm', hdm]) | wp_step)
  rw [hdn, if_neg (by simp [typeHasDict])]
  split
  · rename_i hcd
    cases hcd
  split
  · rename_i c hcd
    exact absurd hcd (hnc c)
  have hx₁ : (h.push { cls := .type "dict", data := .dict #[] }).get? e = some o := Heap.get?_push_of_some _ he
  have hxs : e ≠ h.objs.size := Nat.ne_of_lt (Heap.lt_size he)
  refine wpAny_bind (wpAny_alloc' ?_)
  refine wpAny_bind (wpAny_update' hx₁ ?_)
  refine wpAny_pure ?_
  have hgd : ((h.push { cls := .type "dict", data := .dict #[] }).update e fun o => { cls := o.cls, dict := some h.objs.size, data := o.data, slots := o.slots }).get? h.objs.size
      = some { cls := .type "dict", data := .dict #[] } :=
    (Heap.get?_update_ne _ _ _ _ hxs.symm).trans (Heap.get?_push_at rfl rfl)
  have hnd : ((h.push { cls := .type "dict", data := .dict #[] }).update e fun o => { cls := o.cls, dict := some h.objs.size, data := o.data, slots := o.slots }).Ns h.objs.size (fun _ => none) :=
    ⟨_, #[], _, hgd, rfl, fun e he => absurd he (by simp), fun _ => rfl⟩
  show wpAny _ _ (storeInDict h.objs.size (.str "message" tk) "message" v) _ _ _
  unfold storeInDict newKeyGuard
  refine wpAny_bind (wpAny_pure (wpAny_bind (wpAny_nsSet1 (Heap.Ns1.of_empty hnd) fun h' hn' hs => ?_)))
  obtain ⟨oD', esD, epD, hoD, hdD, hcD'⟩ := hn'.count (Within.cons "message" v Within.nil)
  refine wpAny_bind (wpAny_lookBehind hoD (by rw [hdD]; exact pastItsLine_dict (Nat.le_trans hcD' (by rw [List.length_cons, List.length_nil, sizeLine_eq]; omega))) ?_)
  wp_walk
  refine hq h' h.objs.size _ ?_ (fun b ob hbx hb => ?_)
  · rw [ho] at hx₁
    exact (hs.2 e hxs).trans (Heap.get?_update_self _ hx₁ rfl)
  · exact (hs.2 b (Nat.ne_of_lt (Heap.lt_size hb))).trans ((Heap.get?_update_ne _ _ _ _ hbx).trans (Heap.get?_push_of_some _ hb))

theorem check_sa2 {M : Model} {nameV v : Value} {o : Obj} {Q : Unit → Shared → Prop} (K : Cls2 h C D fI) (he : h.get? e = some o) (hc : o.cls = .ref C) (hq : Q () ⟨h, g, d, t, os⟩) :
    wpAny M A (checkBuiltinCall "object.__setattr__" ⟨[.ref e, nameV, v], []⟩) Q E ⟨h, g, d, t, os⟩ := by
  have SF := PySem.F.store_Exception
  obtain ⟨nm, q, N, bs, sn, sub, ab, col, dd, k0, k1, k2, k3, k5, mN, oD, cD, mD, oI, hC, hn, hni, hns, hnm', hD, hcD, hDn, hi, hds, hdm, hfI, hfc⟩ := K
  have hcB : (Value.ref C :: Value.ref D :: bmE).contains (.type "object") = true := (has2 _).trans (by decide +kernel)
  have ha := SF.args (.ref e) nameV v
  simp only [checkBuiltinCall, SF.kind, SF.split]
  refine wpAny_bind ?_
  · unfold isInstance
    repeat (first | (with_reducible refine wpAny_loadPart_at he ?_; rw [hc]) | (with_reducible refine wpAny_isSubtype_exc hC ?_; rw [hcB]) | wp_step)
    exact hq

theorem setattr2 {name : Str} {v : Value} {Q : Unit → Shared → Prop} {vs : Array Value} (K : Cls2 h C D fI) (hnm : name = "message") (he : h.get? e = some ⟨.ref C, none, .fields vs, sl⟩)
    (hq : ∀ h' dx tk', h'.get? e = some ⟨.ref C, some dx, .fields vs, sl⟩ → (∀ b o, b ≠ e → h.get? b = some o → h'.get? b = some o) → Q () ⟨h', g, d, tk', os⟩) :
    wpAny (model prog w) A (setAttr (.ref e) name v) Q E ⟨h, g, d, t, os⟩ := by
  have SF := PySem.F.store_Exception
  have K' := K
  obtain ⟨nm, q, N, bs, sn, sub, ab, col, dd, k0, k1, k2, k3, k5, mN, oD, cD, mD, oI, hC, hn, hni, hns, hnm', hD, hcD, hDn, hi, hds, hdm, hfI, hfc⟩ := K'
  have f3 := SF.slot.bind (.ref e)
  obtain ⟨o, ho⟩ : ∃ o, o = (⟨.ref C, none, .fields vs, sl⟩ : Obj) := ⟨_, rfl⟩
  have he' := he
  rw [← ho] at he'
  have hc : o.cls = .ref C := by rw [ho]
  have done : codeAny (model prog w) A (.call (.builtin "object.__setattr__") ⟨[.ref e, .str name t, v], []⟩) (fun r s' => r = .ok (.ret .none) ∧ Q () s') ⟨h, g, d, t + 1, os⟩ := by
    refine codeAny_call_builtin SF.slot.plain SF.entry (check_sa2 K he' hc (store2 K hnm he fun h' dx tk' h1 h2 => ?_))
    exact ⟨rfl, hq h' dx tk' h1 h2⟩
  unfold setAttr callSpecial? specialOf
  repeat (any_goals (first | assumption | (with_reducible refine wpAny_loadPart_at he' ?_; rw [hc]) | (with_reducible refine typeLookup2 hC hn hD hcD hDn SF.slot.lookup ?_; simp only [hns, hds]) | wp_step))
  refine codeAny_mono done (fun r s' hr => ?_)
  obtain ⟨rfl, hQ⟩ := hr
  repeat (any_goals (first | assumption | wp_step))
end

section
variable {prog : Program} {w : World} {A : Around} {E : Value → Shared → Prop} {s : Shared} {h₀ : Heap} {L : Addr} {m : Str → Option Value} {C D fI e t0 : Addr} {dx : Option Addr} {sl : Array (Option Value)}
theorem base_initL {rest : List Value} {Q : Value → Shared → Prop} (F : Fr h₀ L s.heap m) (N : News h₀ L s.heap [(e, ⟨.ref C, dx, .fields #[.ref t0, .none, .none, .none, .bool false, .none], sl⟩)]) (K : Cls2 s.heap C D fI) (hrest : rest.length ≤ sizeLine)
    (k : ∀ h' a0, Fr h₀ L h' m → News h₀ L h' [(e, ⟨.ref C, dx, .fields #[.ref a0, .none, .none, .none, .bool false, .none], sl⟩)] → Q .none { s with heap := h' }) :
    wpAny (model prog w) A (call (.builtin "Exception.__init__") (.ref e :: rest)) Q E s := by
  obtain ⟨h, g, d, t, os⟩ := s
  refine base_init2 K (N _ List.mem_cons_self).1 hrest ?_
  have F₁ := F.push { cls := .type "tuple", data := .seq rest.toArray }
  have N₁ : News h₀ L (h.push { cls := .type "tuple", data := .seq rest.toArray }) [(e, ⟨.ref C, dx, .fields #[.ref t0, .none, .none, .none, .bool false, .none], sl⟩)] := fun q hq => ⟨Heap.get?_push_of_some _ (N q hq).1, (N q hq).2⟩
  obtain ⟨F₂, N₂⟩ := news_upd (pre := []) (post := []) (f := Obj.mapFields (·.setIfInBounds 0 (.ref h.objs.size))) F₁ N₁ (fun _ h => nomatch h) (fun _ h => nomatch h) rfl rfl
  exact k _ _ F₂ N₂
theorem setattrL {name : Str} {v : Value} {Q : Unit → Shared → Prop} {vs : Array Value} (F : Fr h₀ L s.heap m) (N : News h₀ L s.heap [(e, ⟨.ref C, none, .fields vs, sl⟩)]) (K : Cls2 s.heap C D fI) (hnm : name = "message")
    (k : ∀ h' dx tk', Fr h₀ L h' m → News h₀ L h' [(e, ⟨.ref C, some dx, .fields vs, sl⟩)] → Q () { s with heap := h', toks := tk' }) :
    wpAny (model prog w) A (setAttr (.ref e) name v) Q E s := by
  obtain ⟨h, g, d, t, os⟩ := s
  have he := N _ (List.mem_cons_self)
  refine setattr2 K hnm he.1 fun h' dx tk' h1 h2 => k h' dx tk' ?_ fun q hq => ?_
  · obtain ⟨oL, es, ep, hL, r⟩ := F.ns
    refine ⟨⟨oL, es, ep, h2 _ _ (Ne.symm he.2.1) hL, r⟩, fun b o q => h2 b o (fun z => ?_) (F.keep b o q), F.above⟩
    have := he.2.2; rw [← z, q] at this; cases this
  · rcases List.mem_singleton.mp hq with rfl
    exact ⟨h1, he.2⟩
end

theorem c_init28 (w : World) (mean : ExcName → Option Value) (mg mb : Str → Option Value) (e t0 : Addr) (rest : List (Addr × Obj)) (msg : Str) (t : Tok) (hrest : ∀ q ∈ rest, q.1 ≠ e) :
    Says w mean mg mb 3 28 (fun _ => True) ((e, ⟨.ref 44, none, .fields #[.ref t0, .none, .none, .none, .bool false, .none], #[]⟩) :: rest) [.ref e, .str msg t]
      (fun news' r => r = .none ∧ ∃ dx a0, news' = (e, ⟨.ref 44, dx, .fields #[.ref a0, .none, .none, .none, .bool false, .none], #[]⟩) :: rest) := by
  k_with_none
  w_top off
  have K44 := fun h X => cls44 w (h := h) X rfl
  k_with_none
  unfold Says
  k_fill
  intro dp un gd cn cs a ccd cl outer A₀ base h₀ L m s Q E B F X N T hk hd hu hask hret
  refine wpAny_call ?_
  k_dflt (refine' enter_part (mine := [(e, ⟨.ref 44, none, .fields #[.ref t0, .none, .none, .none, .bool false, .none], #[]⟩)]) ?kM ?k1 ?k2 ?k3 ?k4 ?k5 ?kA ?kF ?kK ?k6 ?k7 ?k8 ?k9 ?kB ?_ ?c2 ?c3 ?c4 ?c5; (case kA => exact rfl); (case kF => exact rfl); (case kK => assumption); (case k1 => k_asm); (case k2 => k_asm); (case k3 => k_asm); (case k4 => k_asm); (case kM => exact fun q hq => (by rcases List.mem_singleton.mp hq with rfl; exact List.mem_cons_self)); (case k5 => k_asm); (case k6 => k_is); (case k7 => k_is); (case k8 => ktr_room); (case k9 => exact BindsTo.of_eq rfl); (case c5 => decide); (case kB => exact locs rfl); (case c2 => exact rfl); (case c3 => exact rfl); (case c4 => exact rfl); k_whole; intro g' L' h' FG' F' N' B' X' T' lt' hN'; (try dsimp only); (try k_lift B'); (try k_fold))
  k_steps
  refine' method_type (T := "Exception") ?kF ?kX (by first | rfl | kernel_rfl) (by decide +kernel) ?ke ?kh ?_
  case kF => k_asm
  case kX => k_asm
  case ke => k_dflt k_is
  case kh => k_handed
  k_steps
  refine base_initL (by k_asm) (by k_asm) (K44 _ (X'.keeps (Fr.keep (by k_asm)))) (by rw [sizeLine_eq]; exact (by decide : 1 ≤ 16777216)) ?_
  intro h1 a1 F1 N1
  k_steps
  refine setattrL (by k_asm) (by k_asm) (K44 _ (X'.keeps (Fr.keep (by k_asm)))) rfl ?_
  intro h2 dx tk2 F2 N2
  k_steps
  rename News h₀ L _ [_] => N3
  rename Fr h₀ L _ m => F3
  exact hret .none ((e, ⟨.ref 44, some dx, .fields #[.ref a1, .none, .none, .none, .bool false, .none], #[]⟩) :: rest) h2 tk2 ⟨rfl, some dx, a1, rfl⟩ F3 (hN' _ _ _ (Fr.keep F2) N3 fun q hq => by
    rcases List.mem_cons.mp hq with rfl | hq
    · exact .inl List.mem_cons_self
    · refine .inr ⟨List.mem_cons_of_mem _ hq, fun hz => hrest q hq (by simpa using hz)⟩)
theorem call44 (w : World) (mean : ExcName → Option Value) (mg mb : Str → Option Value) {dp un : Nat} {gd : Option (List Code)} {cn : Str} {cs : Scope} {a : Addr} {ccd : Value} {cl : List (Str × Addr)} {outer : List Env} {A₀ : Around} {base h₀ : Heap} {L : Addr} {m : Str → Option Value} {s : Shared} {Q E : Value → Shared → Prop}
    {news : List (Addr × Obj)} {msg : Str} {t : Tok} (B : Below A₀ base outer h₀) (F : Fr h₀ L s.heap m) (X : (hd.heap_39 w.params).In h₀) (N : News h₀ L s.heap news) (T : Top hd.view_39 Lo mean mg mb h₀)
    (hk : cs.kind = .function) (hd' : dp + 6 < recursionLimit) (hu : un + 8 * 6 < cLine)
    (k : ∀ (e a0 : Addr) (dx : Option Addr) (h' : Heap) (tk' : Nat), Fr h₀ L h' m → News h₀ L h' ((e, ⟨.ref 44, dx, .fields #[.ref a0, .none, .none, .none, .bool false, .none], #[]⟩) :: news) → (∀ q ∈ news, q.1 ≠ e) → Q (.ref e) { s with heap := h', toks := tk' }) :
    wpAny (model PySem.Challenge.rw_nu0053_01.row.prog w) (ktrTop dp un gd cn cs L a ccd cl outer) (call (.ref 44) [.str msg t]) Q E s := by
  obtain ⟨h, g, d, tk, os⟩ := s
  refine call_exc2 (cls44 w (X.keeps F.keep) rfl) (fun h' e hm => ?_) (by rw [sizeLine_eq]; exact (by decide : 1 ≤ 16777216))
  obtain ⟨t0, he, _, _⟩ := hm.there
  have F₁ : Fr h₀ L h' m := ⟨F.ns.keeps hm.keeps, fun b o q => hm.keeps _ _ (F.keep b o q), F.above⟩
  have hne : ∀ q ∈ news, q.1 ≠ e := fun q hq z => by
    have := (N q hq).1; rw [z, hm.new] at this; cases this
  have N₁ : News h₀ L h' ((e, ⟨.ref 44, none, .fields #[.ref t0, .none, .none, .none, .bool false, .none], #[]⟩) :: news) := fun q hq => by
    rcases List.mem_cons.mp hq with rfl | hq
    · refine ⟨he, fun z => ?_, ?_⟩
      · obtain ⟨oL, es, ep, hL, _⟩ := F.ns
        have := hm.new; rw [show e = L from z, hL] at this; cases this
      · cases q : h₀.get? e with
        | none => rfl
        | some o => have := F.keep _ _ q; rw [hm.new] at this; cases this
    · exact ⟨hm.keeps _ _ (N q hq).1, (N q hq).2⟩
  refine c_init28 w mean mg mb e t0 news msg t hne _ _ _ cn cs a ccd cl outer A₀ base h₀ L m _ _ _ B F₁ X N₁ T hk ?_ ?_ True.intro ?_
  · show dp + _ + 3 < _
    have : (Code.builtin "type.__call__" ⟨[.ref 44, .str msg t], []⟩).weight = 1 := rfl
    omega
  · show un + _ + 8 * 3 < _
    have : (Code.builtin "type.__call__" ⟨[.ref 44, .str msg t], []⟩).cUnits = 1 := rfl
    omega
  · rintro r news' h₂ tk₂ ⟨rfl, dx, a0, rfl⟩ F₂ N₂
    exact ⟨rfl, k e a0 dx h₂ tk₂ F₂ N₂ hne⟩

section
variable {M : Model} {A : Around} {E : Value → Shared → Prop} {s' : Shared} {base g : Heap} {outer : List Env} {L a e : Addr} {m : Str → Option Value} {name : Str} {scope : Scope} {cd : Value} {Q : Unit → Shared → Prop} {rest : List (Addr × Obj)}
/-- a fault that lies in the ledger leaves the first frame -/
theorem leave_led {oe : Obj} {a0 : Value} (K : Below A base outer g) (F : Fr g L s'.heap m) (N : News g L s'.heap ((e, oe) :: rest)) (hd : oe.data = .fields #[a0, .none, .none, .none, .bool false, .none])
    (hQ : ∀ h', RaisedSN base g outer e oe.cls [] h' → g.UpToSlots h' → Q () { s' with heap := h' }) (hk : scope.kind = .function := by rfl) :
    wpAny M (A.deeper (envOf name scope L a cd)) (leaving (envOf name scope L a cd) (.ref e)) Q E s' := by
  have K' := K.push (name := name) (a := a) (cd := cd) F hk
  have he := N _ List.mem_cons_self
  have hin : ∀ env ∈ (envOf name scope L a cd :: outer), ∀ b, env.frame = some b → b ∈ e :: (envOf name scope L a cd :: outer).filterMap (·.frame) := fun env hm b hb => List.mem_cons_of_mem _ (List.mem_filterMap.mpr ⟨env, hm, hb⟩)
  have sg : ∀ b o, g.get? b = some o → b ∉ outer.filterMap (·.frame) → (hideAll s'.heap (e :: (envOf name scope L a cd :: outer).filterMap (·.frame))).get? b = some o := fun b o q nm => hideAll_get _ (F.keep b o q) fun hm => by
    rcases List.mem_cons.mp hm with z | hm
    · rw [z, he.2.2] at q; cases q
    · rcases kts_mem hm with z | z
      · rw [z, kts_self F] at q
        cases q
      · exact nm z
  have st : base.StaysIn (hideAll s'.heap (e :: (envOf name scope L a cd :: outer).filterMap (·.frame))) := fun b o q => sg b o (K.stays b o q) fun hm => by
    rw [(K.frames.mem hm).1] at q; cases q
  refine wpAny_leaving_firstW (a0 := a0) K'.stack (funFrames_hide K'.frames hin) rfl he.1 (fun b o hb => of_hideAll _ hb) (hideAll_none _ List.mem_cons_self) hd rfl rfl fun h' hL => ?_
  obtain ⟨k1, ⟨_, _, k2⟩, k3, k4⟩ := hL
  exact hQ h' ⟨_, a0, st, sg, (fun _ h => nomatch h), k1, hideAll_none _ List.mem_cons_self, k2, k3⟩ ((Heap.UpToSlots.of_keeps F.keep).trans k4)
end

section
variable {prog : Program} {w : World} {A₀ : Around} {E : Value → Shared → Prop} {s' : Shared} {base g G : Heap} {outer : List Env} {L a e : Addr} {m : Str → Option Value} {name : Str} {scope : Scope} {cd : Value}
  {b₀ : Stmt} {suite : List Stmt} {pos np : Pos} {rest : List ExceptHandler} {Q : Flow → Shared → Prop} {news : List (Addr × Obj)} {KF : Frag}
  {p : Program} {loose : List Str} {mean : ExcName → Option Value} {mg mb : Str → Option Value} {x : Str} {C D fI : Addr}
theorem caught_own (R : RaisedSN base G (envOf name scope L a cd :: outer) e (.ref C) [] s'.heap) (hsm : G.UpToSlots s'.heap) (F : Fr g L G m) (N : News g L G news) (K : Below A₀ base outer g) (XB : KF.In base) (TB : Top p loose mean mg mb base)
    (KC : Cls2 base C D fI) (ex : nsIn KF mainGlobals x = some (some (.ref C)))
    (k : ∀ h' g', KtsTurn (outer.filterMap (·.frame)) g g' → Fr g' L h' m → News g' L h' news → Below A₀ base outer g' → KF.In g' → Top p loose mean mg mb g' →
      wpAny (model prog w) ((A₀.deeper (envOf name scope L a cd)).mark (some (.ref e))) (execs (b₀ :: suite) (envOf name scope L a cd)) Q E { s' with heap := h' })
    (hk : scope.kind = .function := by rfl) (hx : (envOf name scope L a cd).kindOf x = some .globalImplicit := by rfl) (hd : (x == ("__debug__" : Str)) = false := by decide)
    (hE : PassesOwnAt (model prog w) ((A₀.deeper (envOf name scope L a cd)).mark (some (.ref e))) (A₀.deeper (envOf name scope L a cd)) (envOf name scope L a cd) E := by passes_own) :
    wpAny (model prog w) (A₀.deeper (envOf name scope L a cd)) (noteFrame (.ref e) (envOf name scope L a cd))
      (fun _ s₂ => wpAny (model prog w) (A₀.deeper (envOf name scope L a cd)) (setFlight (.ref e) none) (fun _ s₃ =>
        wpAny (model prog w) (A₀.deeper (envOf name scope L a cd)) (handleBy (.ref e) (envOf name scope L a cd) (.ExceptHandler (some (.Name x np)) none (b₀ :: suite) pos :: rest)) Q E s₃) E s₂) E s' := by
  obtain ⟨B, a0, hB, hBG, hl, hfl⟩ := R
  have hL : B.get? L = none := by
    obtain ⟨_, ⟨L', _, hf, hn', _⟩, _⟩ := hfl.2.2.1
    obtain rfl : L = L' := Option.some.inj hf
    exact hn'
  refine wpAny_looks_onW (Around.frames_deeper K.stack) rfl hfl fun h₄ hheld₄ hsm₄ => ?_
  refine wpAny_landsW hheld₄ fun h₅ hheld hsm₅' => ?_
  have hsm₅ := hsm₄.trans hsm₅'
  obtain ⟨g₅, T₅, F₅, K₅⟩ := kts_ground K F hBG hheld.1 (hsm.trans hsm₅)
  have X₅ : KF.In g₅ := XB.keeps K₅.stays
  have P₅ : TopRead p loose mg mb g₅ := topRead_of (TB.keeps K₅.stays)
  obtain ⟨ob, hob, hobc⟩ := hheld.there
  obtain ⟨nm, q', N', bs, sn, sub, ab, col, dd, k0, k1, k2, k3, k5, mN, oD, cD, mD, oI, hC, _⟩ := KC
  have hC₅ := F₅.keep _ _ (K₅.stays _ _ hC)
  refine wpAny_handleBy_cons (codeAny_handlers_test (name_K F₅ X₅ P₅ ex ?_ hk hx hd)) (by intro q; cases q)
  refine wpAny_excMatches_sub_self hC₅ hob hobc ((has2 (C := C) (D := D) "BaseException").symm ▸ PySem.F.excBase_Exception.hasBase) (codeAny_handlers_suite ?_)
  refine lands_againW hheld fun h₆ hfl₆ hsm₆ => ?_
  obtain ⟨g₆, T₆, F₆, K₆⟩ := kts_ground K F hBG hfl₆.1 ((hsm.trans hsm₅).trans hsm₆)
  have Nl : News g₆ L h₆ news := fun q hq => by
    have hq' := N q hq
    refine ⟨hfl₆.1 _ _ (hBG _ _ hq'.1 fun hm => ?_), hq'.2.1, T₆.none_ _ hq'.2.2⟩
    rcases kts_mem hm with z | z
    · exact hq'.2.1 z
    · obtain ⟨o, ho, _⟩ := (K.frames.mem z).2
      rw [hq'.2.2] at ho; cases ho
  exact wpAny_passesOwnAt hE (k h₆ g₆ T₆ F₆ Nl K₆ (XB.keeps K₆.stays) (TB.keeps K₆.stays))
end

section
variable {prog : Program} {w : World} {A A₀ : Around} {s : Shared} {K : Frag} {L : Addr} {h₀ base : Heap} {m mg mb : Str → Option Value} {news : List (Addr × Obj)} {p : Program} {loose : List Str} {mean : ExcName → Option Value}
/-- what a def leaves behind that may have caught a fault: the caller's frames up to their slots -/
def LeaveT (A₀ : Around) (base : Heap) (env : Env) (outer : List Env) (K : Frag) (p : Program) (loose : List Str) (mean : ExcName → Option Value) (mg mb : Str → Option Value) (h₀ : Heap) (L : Addr) (m : Str → Option Value) (news : List (Addr × Obj)) (g : Heap) (R : Result → Shared → Prop) (v : Value) (s' : Shared) : Prop :=
  ∃ g' L' m', KtsTurn ((env :: outer).filterMap (·.frame)) g g' ∧ Fr g' L' s'.heap m' ∧ ∀ h₀', KtsTurn (outer.filterMap (·.frame)) h₀ h₀' → Fr h₀' L s'.heap m → News h₀' L s'.heap news → Below A₀ base outer h₀' → K.In h₀' → Top p loose mean mg mb h₀' → R (.ok (.ret v)) s'
theorem enter_turn {env : Env} {outer : List Env} {R : Result → Shared → Prop} {name qual : Str} {params : Arguments} {body : List Stmt} {scope : Scope} {dV kV doc pm cdv ct oc : Value} {an od : Option Addr} {osl : Array (Option Value)} {f : Addr} {args : Args} {binds : List (Str × Value)}
    (B : Below A₀ base outer h₀) (F : Fr h₀ L s.heap m) (X₀ : K.In h₀) (N : News h₀ L s.heap news) (T : Top p loose mean mg mb h₀) (XB : K.In base) (TB : Top p loose mean mg mb base) (hA : A.frames = some (env :: outer)) (hf : env.frame = some L) (hke : env.scope.kind = .function)
    (ho : K.lookup f = some ⟨oc, od, .func (fnOf name qual params body scope dV kV doc pm an cdv ct), osl⟩) (hcd : codeIn K cdv qual = true) (hroom : A.depth < recursionLimit)
    (hbind : BindsTo s (fnOf name qual params body scope dV kV doc pm an cdv ct) args binds) (hloc : ∀ y ∈ binds, scope.names.lookup y.1 = some .local)
    (h : ∀ g L' h₁, Fr h₀ L g m → Fr g L' h₁ (fun y => binds.reverse.lookup y) → News g L' h₁ [] → Below A base (env :: outer) g → K.In g → Top p loose mean mg mb g →
      wpAny (model prog w) (A.deeper (envOf qual scope L' f cdv)) (execs body (envOf qual scope L' f cdv))
        (fun fl s' => LeaveT A₀ base env outer K p loose mean mg mb h₀ L m news g R (match fl with | .ret v => v | _ => .none) s')
        (fun e s' => wpAny (model prog w) (A.deeper (envOf qual scope L' f cdv)) (leaving (envOf qual scope L' f cdv) e) (fun _ s'' => R (.error e) s'') (fun e' s'' => R (.error e') s'') s')
        { s with heap := h₁, toks := s.toks + binds.length })
    (hco : scope.isCoroutine = false) (hgen : scope.isGenerator = false) (hk : scope.kind = .function)
    (hcell : ∀ x ∈ scope.names, x.2 ≠ .cell) : codeAny (model prog w) A (.call (.ref f) args) R s := by
  refine codeAny_call_def (fd := fnOf name qual params body scope dV kV doc pm an cdv ct) (body := body) (binds := binds) hroom ((X₀.keeps F.keep) _ _ ho) rfl (T.nolimit.keeps F.keep) (codeRec_of (X₀.keeps F.keep) hcd) rfl hbind hcell hloc (fun h₁ hns hk₁ => ?_) hco hgen hk
  have B₁ : Below A base (env :: outer) s.heap := ⟨hA, fun b o e => F.keep b o (B.stays b o e), (pushX B F hf hke).frames⟩
  refine wpAny_mono (h s.heap s.heap.objs.size h₁ F ⟨hns, fun b o e => hk₁ b o e, Nat.le_refl _⟩ (fun _ hq => nomatch hq) B₁ (X₀.keeps F.keep) (T.keeps F.keep)) (fun fl s' hl => ?_) fun _ _ y => y
  obtain ⟨g', L', m', T', F', k⟩ := hl
  have nL₀ : h₀.get? L = none := kts_self F
  have hmem : ∀ b, b ∈ (env :: outer).filterMap (·.frame) → b = L ∨ b ∈ outer.filterMap (·.frame) := fun b hb => by
    obtain ⟨env', he, hf'⟩ := List.mem_filterMap.mp hb
    rcases List.mem_cons.mp he with rfl | he
    · exact .inl (Option.some.inj (hf'.symm.trans hf))
    · exact .inr (List.mem_filterMap.mpr ⟨env', he, hf'⟩)
  obtain ⟨T₁, S₁⟩ := kts_turn_at (h := s'.heap) (fs := outer.filterMap (·.frame)) (g := h₀)
    (fun b hb => by
      obtain ⟨_, o, ho', _⟩ := B.frames.mem hb
      exact ⟨o, ho'⟩)
    (fun b o e nmem => F'.keep b o (T'.other b o (F.keep b o e) (fun q => by
      rcases hmem b q with z | z
      · rw [z, nL₀] at e
        cases e
      · exact nmem z)))
    (fun b o e hm => by
      obtain ⟨sl', hs'⟩ := T'.up (F.keep b o e)
      exact ⟨sl', F'.keep _ _ hs'⟩)
  have B₃ : Below A₀ base outer (ktsHeap s'.heap (outer.filterMap (·.frame)) h₀) := ⟨B.stack, fun b o e => T₁.other b o (B.stays b o e) (fun hm => by
    rw [(B.frames.mem hm).1] at e
    cases e), B.frames.of_keeps fun b o e _ => by
    obtain ⟨sl', hs'⟩ := T₁.up e
    exact ⟨_, hs', rfl⟩⟩
  have Ns : Heap.Ns s'.heap L m := by
    obtain ⟨oL, es, ep, hL, hLd, hLk, hLf⟩ := F.ns
    obtain ⟨sl, hs⟩ := T'.up hL
    exact ⟨_, es, ep, F'.keep _ _ hs, hLd, hLk, hLf⟩
  refine k _ T₁ ⟨Ns, S₁, by rw [T₁.size]; exact F.above⟩ (fun q hq => ?_) B₃ (XB.keeps B₃.stays) (TB.keeps B₃.stays)
  have hq' := N q hq
  refine ⟨F'.keep _ _ (T'.other _ _ hq'.1 fun hm => ?_), hq'.2.1, T₁.none_ _ hq'.2.2⟩
  rcases hmem _ hm with z | z
  · exact hq'.2.1 z
  · obtain ⟨o, ho', _⟩ := (B.frames.mem z).2
    rw [hq'.2.2] at ho'; cases ho'
end

section
variable {prog : Program} {w : World} {A A₀ : Around} {s : Shared} {K : Frag} {L : Addr} {h₀ base : Heap} {m mg mb : Str → Option Value} {news : List (Addr × Obj)} {p : Program} {loose : List Str} {mean : ExcName → Option Value}
structure SameH (a b : Heap) : Prop where
  eq : a = b
theorem enter_eq {env : Env} {outer : List Env} {R : Result → Shared → Prop} {name qual : Str} {params : Arguments} {body : List Stmt} {scope : Scope} {dV kV doc pm cdv ct oc : Value} {an od : Option Addr} {osl : Array (Option Value)} {f : Addr} {args : Args} {binds : List (Str × Value)}
    (B : Below A₀ base outer h₀) (F : Fr h₀ L s.heap m) (X₀ : K.In h₀) (N : News h₀ L s.heap news) (T : Top p loose mean mg mb h₀) (hA : A.frames = some (env :: outer)) (hf : env.frame = some L) (hke : env.scope.kind = .function)
    (ho : K.lookup f = some ⟨oc, od, .func (fnOf name qual params body scope dV kV doc pm an cdv ct), osl⟩) (hcd : codeIn K cdv qual = true) (hroom : A.depth < recursionLimit)
    (hbind : BindsTo s (fnOf name qual params body scope dV kV doc pm an cdv ct) args binds) (hloc : ∀ y ∈ binds, scope.names.lookup y.1 = some .local)
    (h : ∀ g L' h₁, SameH s.heap g → Fr h₀ L g m → Fr g L' h₁ (fun y => binds.reverse.lookup y) → News g L' h₁ [] → Below A base (env :: outer) g → K.In g → Top p loose mean mg mb g →
      (∀ (h' : Heap), (∀ b o, g.get? b = some o → h'.get? b = some o) → News h₀ L h' news) →
      wpAny (model prog w) (A.deeper (envOf qual scope L' f cdv)) (execs body (envOf qual scope L' f cdv))
        (fun fl s' => LeaveK h₀ L m g R (match fl with | .ret v => v | _ => .none) s')
        (fun e s' => wpAny (model prog w) (A.deeper (envOf qual scope L' f cdv)) (leaving (envOf qual scope L' f cdv) e) (fun _ s'' => R (.error e) s'') (fun e' s'' => R (.error e') s'') s')
        { s with heap := h₁, toks := s.toks + binds.length })
    (hco : scope.isCoroutine = false) (hgen : scope.isGenerator = false) (hk : scope.kind = .function)
    (hcell : ∀ x ∈ scope.names, x.2 ≠ .cell) : codeAny (model prog w) A (.call (.ref f) args) R s := by
  obtain ⟨FG, BG, st, lv⟩ := groundX (R := R) B F (News.nil (h₀ := h₀) (L := L) (h := s.heap)) hA hf hke
  refine codeAny_call_def (fd := fnOf name qual params body scope dV kV doc pm an cdv ct) (body := body) (binds := binds) hroom ((X₀.keeps F.keep) _ _ ho) rfl (T.nolimit.keeps F.keep) (codeRec_of (X₀.keeps F.keep) hcd) rfl hbind hcell hloc (fun h₁ hns hk₁ => ?_) hco hgen hk
  exact wpAny_mono (h s.heap s.heap.objs.size h₁ ⟨rfl⟩ FG ⟨hns, fun b o e => hk₁ b o e, Nat.le_refl _⟩ (fun _ hq => nomatch hq) BG (X₀.keeps st) (T.keeps st) (fun h' hk' q hq => ⟨hk' _ _ (N q hq).1, (N q hq).2⟩)) (fun fl s' hl => lv _ _ hl) fun _ _ y => y
end
theorem strs_get {v : Value} : ∀ {vl : List Value} {ws : List Str} {i : Nat}, StrsAre vl ws → vl[i]? = some v → ∃ y t, v = .str y t ∧ ws[i]? = some y
  | _, _, _, .nil, hv => by simp at hv
  | _, _, 0, .cons a u _, hv => by simp at hv; exact ⟨a, u, hv.symm, rfl⟩
  | _, _, i + 1, .cons _ _ hr, hv => by simp at hv; simpa using strs_get (i := i) hr hv
section
variable {prog : Program} {w : World} {A : Around} {E : Value → Shared → Prop} {s : Shared} {h₀ : Heap} {env : Env} {x : Str} {body : List Stmt} {Q : Flow → Shared → Prop}
/-- a search over a ledger's list of texts -/
theorem search_led {l : Addr} {its : Array Value} {k : Nat} {ws : List Str} {m₀ : Str → Option Value} {news : List (Addr × Obj)} (G : Str → Prop)
    (hh : A.handled = none) (F : Fr h₀ env.locals s.heap m₀) (N : News h₀ env.locals s.heap news) (hm : (l, W.listOf its k) ∈ news) (hs : StrsAre its.toList ws)
    (turn : ∀ y t h tk own, y ∈ ws →
      Fr h₀ env.locals h (fun z => if z = x then some (.str y t) else m₀ z) → News h₀ env.locals h (news ++ own) →
      wpAny (model prog w) A (execs body env) (InvPostN h₀ env.locals (fun m' nx => (nx = news ∧ ∀ z, z ≠ x → m' z = m₀ z) ∧ G y) own (news.map (·.1)) { s with heap := h, toks := tk } Q) E { s with heap := h, toks := tk })
    (done : ∀ (u : Str → Option Value) h tk, (∀ y ∈ ws, G y) → Fr h₀ env.locals h (fun z => if z = x then u z else m₀ z) → News h₀ env.locals h news → Q .next { s with heap := h, toks := tk }) :
    wpAny (model prog w) A (pyIter (.ref l)) (fun it s₂ => LoopAtV prog w A h₀ env x body Q E it s₂) E s := by
  have hax := N _ hm
  have hl : s.heap.IsList l its := ⟨_, hax.1, rfl, k, rfl⟩
  have hne : l ≠ s.heap.objs.size := Nat.ne_of_lt (Heap.lt_size hax.1)
  refine wpAny_pyIter_list hl ?_
  have W := Walks.list (prog := prog) (w := w) hh s.heap.objs.size l hne its
  have hnew := next_is_new F
  let J : Nat → (Str → Option Value) → List (Addr × Obj) → Prop := fun i m₁ news₁ => (news₁ = news ∧ ∀ z, z ≠ x → m₁ z = m₀ z) ∧ ∀ y ∈ ws.take i, G y
  refine ⟨_, _, _, its.size, _, _, m₀, news, J, rfl, W, ?_, ?_, ?_, ⟨⟨_, Heap.get?_push_size _ rfl, rfl, rfl⟩, hl.at fun o e => Heap.get?_push_of_some _ e⟩, F.push _, (fun p hp => ⟨Heap.get?_push_of_some _ (N p hp).1, (N p hp).2⟩), ⟨⟨rfl, fun _ _ => rfl⟩, by simp⟩, ?_, ?_⟩
  · intro hmm
    rcases List.mem_cons.mp hmm with e | hmm
    · exact absurd F.ns.lt (e ▸ Nat.lt_irrefl _)
    · exact hax.2.1 (List.mem_singleton.mp hmm).symm
  · intro b hb
    rw [List.mem_singleton.mp hb]
    exact hnew
  · intro p hp hI
    exact absurd (Heap.lt_size (N p hp).1) ((List.mem_singleton.mp hI) ▸ Nat.lt_irrefl _)
  · rintro i v m₁ news₁ s₁ own ⟨hh', tk', rfl⟩ hin hP ⟨⟨rfl, hm'⟩, hG⟩ hoff hown hget hall hst F₁ N₁
    have hlen : its.size = ws.length := by simpa using hs.length
    obtain ⟨y, t, rfl, hy⟩ : ∃ y t, v = .str y t ∧ ws[i]? = some y := strs_get hs (by simpa using hP)
    rw [map_off hm'] at F₁
    have hs2 : ws.take (i + 1) = ws.take i ++ [y] := by rw [List.take_add_one, hy]; rfl
    have N₂ : News h₀ env.locals hh' (news₁ ++ own) := fun p hp => N₁ p ((List.mem_append.mp hp).elim (fun h => List.mem_append.mpr (.inr h)) fun h => List.mem_append.mpr (.inl h))
    refine wpAny_mono (turn y t hh' tk' own (List.mem_of_getElem? hy) F₁ N₂) (fun f s₂ p => ?_) fun _ _ e => e
    have fin : InvEndN h₀ env.locals (fun m' nx => (nx = news₁ ∧ ∀ z, z ≠ x → m' z = m₀ z) ∧ G y) own (news₁.map (·.1)) { s with heap := hh', toks := tk' } s₂ → LoopStepU h₀ env.locals [s.heap.objs.size] own (J (i + 1)) { s with heap := hh', toks := tk' } .next s₂ := by
      rintro ⟨h', tk, m', news', nx, e, F', N', hn, ho, ha, ⟨rfl, hz⟩, hg⟩
      refine ⟨rfl, h', tk, m', nx, e, F', fun p hp => N' p ((List.mem_append.mp hp).elim (ho p) (hn p)), fun p hp hq => ?_, ⟨rfl, hz⟩, fun d hd => ?_⟩
      · exact absurd (Heap.lt_size (N p hp).1) ((List.mem_singleton.mp hq) ▸ Nat.lt_irrefl _)
      · rw [hs2] at hd
        rcases List.mem_append.mp hd with hd | hd
        · exact hG d hd
        · rw [List.mem_singleton.mp hd]; exact hg
    cases f with
    | ret v => exact .ret p
    | brk => exact .brk p
    | next => exact .next (fin p)
    | cont => exact .cont (fin p)
  · rintro h tk m₁ nx F₁ N₁ _ ⟨⟨rfl, hm'⟩, hG⟩
    have hlen : its.size = ws.length := by simpa using hs.length
    rw [hlen, List.take_length] at hG
    exact done m₁ h tk hG (by rw [map_out hm']; exact F₁) N₁
end
/-- a call that may raise the fault 44 -/
def SaysX (w : World) (mean : ExcName → Option Value) (mg mb : Str → Option Value) (dpth : Nat) (f : Addr) (news : List (Addr × Obj)) (vs : List Value)
    (Ret : List (Addr × Obj) → Value → Prop) (Bad : Prop) : Prop :=
  ∀ (dp un : Nat) (gd : Option (List Code)) (cn : Str) (cs : Scope) (a : Addr) (ccd : Value) (cl : List (Str × Addr)) (outer : List Env) (A₀ : Around) (base h₀ : Heap) (L : Addr) (m : Str → Option Value) (s : Shared) (Q E : Value → Shared → Prop),
    Below A₀ base outer h₀ → Fr h₀ L s.heap m → (hd.heap_39 w.params).In h₀ → News h₀ L s.heap news → Top hd.view_39 Lo mean mg mb h₀ → cs.kind = .function →
    dp + dpth < recursionLimit → un + 8 * dpth < cLine →
    (∀ (r : Value) (news' : List (Addr × Obj)) (h' : Heap) (tk' : Nat), Ret news' r → Fr h₀ L h' m → News h₀ L h' news' → Q r { s with heap := h', toks := tk' }) →
    (∀ (e : Addr) (h' : Heap) (tk' : Nat), Bad → RaisedSN base s.heap (envX cn cs L a ccd cl :: outer) e (.ref 44) [] h' → s.heap.UpToSlots h' → E (.ref e) { s with heap := h', toks := tk' }) →
    wpAny (model PySem.Challenge.rw_nu0053_01.row.prog w) (ktrTop dp un gd cn cs L a ccd cl outer) (call (.ref f) vs) Q E s
theorem ret_tup {h₀ g h' : Heap} {L L' l : Addr} {m m' : Str → Option Value} {news all all' : List (Addr × Obj)} {s : Shared} {Q : Value → Shared → Prop} {Ret : List (Addr × Obj) → Value → Prop} {tk' k : Nat} {its : Array Value}
    (hret : ∀ (r : Value) (news' : List (Addr × Obj)) (h' : Heap) (tk' : Nat), Ret news' r → Fr h₀ L h' m → News h₀ L h' news' → Q r { s with heap := h', toks := tk' })
    (hN : ∀ h' : Heap, (∀ b o, g.get? b = some o → h'.get? b = some o) → News h₀ L h' news)
    (F : Fr g L' h' m') (N : News g L' h' all) (hm : (l, ⟨.type "tuple", none, .seq its k, #[]⟩) ∈ all) (kF : Fr h₀ L h' m) (kN : News h₀ L h' all') (hm' : (l, ⟨.type "tuple", none, .seq its k, #[]⟩) ∈ all')
    (hR : (∀ p ∈ news, @Ne Nat p.1 l) → Ret ((l, ⟨.type "tuple", none, .seq its k, #[]⟩) :: news) (.ref l)) : Q (.ref l) { s with heap := h', toks := tk' } :=
  have q := made_one hN F N hm kN hm'
  hret _ _ h' tk' (hR q.2) kF q.1
def nameOk (x : Str) : Bool := decide ((partsL x).length ≤ 2) && (partsL x).all (fun y => ncL y.cps.toList)
def tupL (x : Str) : List Str := if (partsL x).length = 1 then [Str.ofString "", x] else partsL x
theorem nk1 {x : Str} {its : Array Value} (hs : StrsAre its.toList (Txt.split x (Str.ofString ":"))) (h : 2 < (its.size : Int)) : nameOk x = false := by
  have e : its.size = (Txt.split x (Str.ofString ":")).length := by simpa using hs.length
  unfold nameOk partsL
  rw [show decide ((Txt.split x (Str.ofString ":")).length ≤ 2) = false by simp; omega]; rfl
theorem nk2 {x y : Str} (hy : y ∈ Txt.split x (Str.ofString ":")) (h : ncL y.cps.toList = false) : nameOk x = false := by
  unfold nameOk
  rw [Bool.and_eq_false_iff]
  refine .inr ?_
  rw [List.all_eq_false]
  exact ⟨y, hy, by rw [h]; decide⟩
theorem nk3 {x : Str} {ws : List Str} (e : Txt.split x (Str.ofString ":") = ws) (hl : ws.length ≤ 2) (h : ∀ y ∈ Txt.split x (Str.ofString ":"), ncL y.cps.toList = true) : nameOk x = true := by
  unfold nameOk partsL
  rw [Bool.and_eq_true]
  exact ⟨by rw [e]; simpa using hl, List.all_eq_true.mpr h⟩
theorem tup1 {x a : Str} (e : Txt.split x (Str.ofString ":") = [a]) : tupL x = [Str.ofString "", x] := by unfold tupL partsL; rw [e]; rfl
theorem tup2 {x a b : Str} (e : Txt.split x (Str.ofString ":") = [a, b]) : tupL x = [a, b] := by unfold tupL partsL; rw [e]; rfl
def MadeTup (news : List (Addr × Obj)) (ws : List Str) (news' : List (Addr × Obj)) (r : Value) : Prop :=
  ∃ l its k, r = .ref l ∧ news' = (l, ⟨.type "tuple", none, .seq its k, #[]⟩) :: news ∧ StrsAre its.toList ws ∧ ∀ p ∈ news, @Ne Nat p.1 l
theorem split_ne {x y : Str} : Txt.split x y ≠ [] := by
  intro h
  have := split_pos x y
  rw [h] at this
  exact absurd this (by decide)
theorem parts_cases {its : Array Value} {x y : Str} {ws : List Str} (h : StrsAre its.toList ws) (e : ws = Txt.split x y) : (∃ a t, its = #[.str a t] ∧ ws = [a]) ∨ (∃ a b t u, its = #[.str a t, .str b u] ∧ ws = [a, b]) ∨ 2 < its.size ∧ 2 < ws.length := by
  obtain ⟨l⟩ := its
  cases h with
  | nil => exact (split_ne e.symm).elim
  | cons a t h => cases h with
    | nil => exact .inl ⟨a, t, rfl, rfl⟩
    | cons b u h => cases h with
      | nil => exact .inr (.inl ⟨a, b, t, u, rfl, rfl⟩)
      | cons c v h => exact .inr (.inr ⟨by simp, by simp⟩)
local macro_rules | `(tactic| walk_at "call ref") => `(tactic| ((with_reducible show wpAny _ _ (call (Value.ref 44) _) _ _ _); k_here; k_dflt (refine' call44 _ _ _ _ ?k1 ?k2 ?k3 ?k4 ?k5 ?kK ?kd ?ku ?_; (case k1 => k_asm); (case k2 => k_asm); (case k3 => k_asm); (case k4 => k_asm); (case k5 => k_asm); (case kK => first | exact rfl | assumption); (case kd => ktr_room); (case ku => ktr_units)); intro e9 a9 dx9 h9 tk9 F9 N9 n9; (try dsimp only); (refine' ⟨e9, dx9, _, _, rfl, ?_, (N9 _ List.mem_cons_self).1, ?_⟩; (k_extra "clsok"); (k_extra "leave"))))
local macro_rules | `(tactic| walk_at "exec Raise some none") => `(tactic| (k_here; k_dflt (refine' raise_step (C := 44) (D := 31) (fI := 28) ?hh ?_; (case hh => first | rfl | assumption)); (try k_fold)))
theorem c_splitname (w : World) (mean : ExcName → Option Value) (mg mb : Str → Option Value) (news : List (Addr × Obj)) (x : Str) (t : Tok) (hx : x.length ≤ 64) :
    SaysX w mean mg mb 14 144 news [.str x t] (fun news' r => MadeTup news (tupL x) news' r ∧ nameOk x = true) (nameOk x = false) := by
  k_with_none
  w_top off
  k_with_none
  k_with "clsok" => exact K44 _ (X'.keeps (Fr.keep (by k_asm)))
  k_with "leave" => (refine' leave_led (by k_asm) (by k_asm) (by k_asm) rfl ?_; intro h' R' U'; refine' herr _ _ _ ?_ (by rw [hsame'.eq]; exact R') (by rw [hsame'.eq]; exact U'))
  have K44 := fun h X => cls44 w (h := h) X rfl
  k_with "exec For Name Name cons nil" => ((rename Fr _ _ _ _ => lF'); (with_unfolding_all refine' For_invVF lF' ?k1 ?k2 ?_; (case k1 => exact rfl); (case k2 => exact rfl); k_whole))
  k_with "pyIter ref" => k_dflt ((with_reducible show wpAny _ _ (pyIter (Value.ref _)) (fun it s₂ => LoopAtV _ _ _ _ _ _ _ _ _ it s₂) _ _); (with_unfolding_all refine' search_led (fun y => ncL y.cps.toList = true) (by rfl) ?kF ?kN ?kM ?kS ?turn ?done; (case kF => k_asm); (case kN => k_asm); (case kM => k_mem); (case kS => assumption)); (case' turn => intro y' t' h' tk' own' hy' F' N'; (try k_sweep)); (case' done => intro u' h' tk' hG' F' N'; (rename StrsAre _ _ => hsX); (rcases parts_cases hsX rfl with ⟨a9, t9, e1, e2⟩ | ⟨a9, b9, t9, u9, e1, e2⟩ | ⟨z9, e2⟩); (all_goals (first | subst e1 | skip)); (all_goals (try k_sweep))); (all_goals (try k_fold)))
  k_with "call builtin:len" => first | (k_dflt (refine' len_list (News.isList (by k_asm) (by k_mem)) (by omega) ?_))
  unfold SaysX
  k_fill
  intro dp un gd cn cs a ccd cl outer A₀ base h₀ L m s Q E B F X N T hk hd hu hret herr
  refine wpAny_call ?_
  k_dflt (refine' enter_eq ?k1 ?k2 ?k3 ?k4 ?k5 ?kA ?kF ?kK ?k6 ?k7 ?k8 ?k9 ?kB ?_ ?c2 ?c3 ?c4 ?c5; (case kA => exact rfl); (case kF => exact rfl); (case kK => assumption); (case k1 => k_asm); (case k2 => k_asm); (case k3 => k_asm); (case k4 => k_asm); (case k5 => k_asm); (case k6 => k_is); (case k7 => k_is); (case k8 => ktr_room); (case k9 => exact BindsTo.of_eq rfl); (case c5 => decide); (case kB => exact locs rfl); (case c2 => exact rfl); (case c3 => exact rfl); (case c4 => exact rfl); k_whole; intro g' L' h' hsame' FG' F' N' B' X' T' hN'; (try dsimp only); (try k_lift B'); (try k_fold))
  k_steps
  · exact nk1 (by assumption) (by assumption)
  · exact ret_tup hret hN' (by k_asm) (by k_asm) (by k_mem) (by k_asm) (by k_asm) (by k_mem) (fun hne => ⟨⟨_, _, _, rfl, rfl, by rw [tup1 e2]; exact .cons _ _ (.cons _ _ .nil), hne⟩, nk3 e2 (by simp) hG'⟩)
  · simp at *
  · simp at *
  · exact ret_tup hret hN' (by k_asm) (by k_asm) (by k_mem) (by k_asm) (by k_asm) (by k_mem) (fun hne => ⟨⟨_, _, _, rfl, rfl, by rw [tup2 e2]; exact .cons _ _ (.cons _ _ .nil), hne⟩, nk3 e2 (by simp) hG'⟩)
  · omega
  · exact search_end (by assumption) (by assumption) (fun p hp => by simpa using .inl (by simpa using hp)) (fun p hp => by simp [hp]) (fun z hz => if_neg hz) (by assumption)
  · exact nk2 hy' (by assumption)
/-! the split of a name, in plain Lean -/
theorem mem_joined {c : Nat} : ∀ {ps : List Str}, c ∈ (Str.join (Str.ofString "") ps).cps.toList ↔ ∃ y ∈ ps, c ∈ y.cps.toList
  | [] => by simp [Str.join, Str.empty]
  | [p] => by simp [Str.join]
  | p :: q :: r => by
    have ih := mem_joined (c := c) (ps := q :: r)
    show c ∈ (p ++ Str.ofString "" ++ Str.join (Str.ofString "") (q :: r)).cps.toList ↔ _
    rw [Str.cps_append, Str.cps_append, Array.toList_append, Array.toList_append, List.mem_append, List.mem_append, ih]
    simp [show (Str.ofString "").cps.toList = [] from rfl]
theorem nc_bad {y : Str} (hf : 58 ∉ y.cps.toList) : ncL y.cps.toList = (!badS y && y.cps.toList.all nameN) := by
  obtain ⟨⟨l⟩⟩ := y
  cases l with
  | nil => rfl
  | cons c r =>
    have hb : badS ⟨⟨c :: r⟩⟩ = !startN c := by
      unfold badS
      have : ((⟨⟨c :: r⟩⟩ : Str) == Str.ofString "") = false := by
        rw [beq_eq_false_iff_ne]
        intro e
        have := congrArg (fun s : Str => s.cps.toList) e
        simp [show (Str.ofString "").cps.toList = [] from rfl] at this
      rw [this, show (Txt.charAt ⟨⟨c :: r⟩⟩ 0).getD 0 = c by simp [Txt.charAt, seqIndex?, Str.length]]
      rfl
    rw [hb]
    unfold ncL nameL tokenL
    have h1 : (c :: r).contains 58 = false := by simpa using hf
    show (!((c :: r).contains 58) && (startN c && ((c :: r).all nameN && !(c :: r).isEmpty))) = (!!startN c && (c :: r).all nameN)
    rw [h1]
    simp
theorem name_due (x : Str) : nameOk x = (dueL x).isSome := by
  have hfree : ∀ y ∈ partsL x, 58 ∉ y.cps.toList := StrLaws.split_free x 58
  have hj : ∀ c, c ∈ (Txt.join (Str.ofString "") (partsL x)).cps.toList ↔ ∃ y ∈ partsL x, c ∈ y.cps.toList := fun c => by
    show c ∈ (Builtin.Str.glued _ _).cps.toList ↔ _
    rw [StrLaws.glued_eq_join]
    exact mem_joined
  have key : (partsL x).all (fun y => ncL y.cps.toList) = (((partsL x).filter badS).isEmpty && ((Txt.join (Str.ofString "") (partsL x)).cps.toList.filter fun c => !nameN c).isEmpty) := by
    rw [Bool.eq_iff_iff]
    simp only [List.all_eq_true, Bool.and_eq_true, List.isEmpty_iff, List.filter_eq_nil_iff]
    constructor
    · intro h
      refine ⟨fun y hy hb => ?_, fun c hc hn => ?_⟩
      · have := h y hy
        rw [nc_bad (hfree y hy), hb] at this
        cases this
      · obtain ⟨y, hy, hcy⟩ := (hj c).mp hc
        have := h y hy
        rw [nc_bad (hfree y hy), Bool.and_eq_true] at this
        have := List.all_eq_true.mp this.2 c hcy
        rw [this] at hn
        cases hn
    · rintro ⟨h1, h2⟩ y hy
      rw [nc_bad (hfree y hy), Bool.and_eq_true]
      refine ⟨by simpa using h1 y hy, List.all_eq_true.mpr fun c hc => ?_⟩
      simpa using h2 c ((hj c).mpr ⟨y, hy, hc⟩)
  unfold nameOk
  rw [key]
  unfold dueL
  by_cases h : (partsL x).length ≤ 2
  · cases h1 : ((partsL x).filter badS).isEmpty <;> cases h2 : ((Txt.join (Str.ofString "") (partsL x)).cps.toList.filter fun c => !nameN c).isEmpty <;> simp [h, Nat.not_lt.mpr h]
  · simp [h, Nat.lt_of_not_le h]

theorem due_tup {x : Str} {ws : List Str} (h : dueL x = some ws) : ws = tupL x := by
  unfold dueL at h
  split at h
  · cases h
  · exact (Option.some.inj h).symm
theorem ok_tup {x : Str} (h : okT x) : ∀ y ∈ tupL x, okT y := by
  unfold tupL partsL
  split
  · intro y hy
    rcases List.mem_cons.mp hy with rfl | hy
    · exact fun c hc => by rw [show (Str.ofString "").cps.toList = [] from rfl] at hc; cases hc
    · rw [List.mem_singleton.mp hy]; exact h
  · exact ok_parts h
theorem tup_len {x : Str} (h : nameOk x = true) : (tupL x).length ≤ 2 := by
  unfold nameOk at h
  rw [Bool.and_eq_true] at h
  have h1 : (partsL x).length ≤ 2 := by simpa using h.1
  unfold tupL
  split
  · simp
  · exact h1
theorem listT {prog : Program} {w : World} {A : Around} {E : Value → Shared → Prop} {s : Shared} {h₀ : Heap} {L b : Addr} {m : Str → Option Value} {news : List (Addr × Obj)} {its : Array Value} {n : Nat} {x : Str} {Q : Value → Shared → Prop} (hs : StrsAre its.toList (tupL x)) (ok : nameOk x = true)
    (F : Fr h₀ L s.heap m) (N : News h₀ L s.heap news) (hb : (b, ({ cls := .type "tuple", data := .seq its n } : Obj)) ∈ news)
    (h : ∀ D c h', Fr h₀ L h' m → News h₀ L h' ((D, W.listOf its c) :: news) → (∀ q ∈ news, q.1 < D) → Q (.ref D) { s with heap := h' }) : wpAny (model prog w) A (call (.type "list") [.ref b]) Q E s := by
  refine kup_listOfT F N hb rfl (fun D c h' F' N' l => h D c h' F' (by simpa using N') l) ?_
  have := tup_len ok
  have := hs.length
  rw [sizeLine_eq]
  omega
/-- no fault came: the frames as they were -/
theorem turn_same {A₀ : Around} {base : Heap} {env : Env} {outer : List Env} {K : Frag} {p : Program} {loose : List Str} {mean : ExcName → Option Value} {mg mb : Str → Option Value} {h₀ g : Heap} {L L' : Addr} {m m' : Str → Option Value} {news : List (Addr × Obj)} {R : Result → Shared → Prop} {v : Value} {s' : Shared}
    (F : Fr g L' s'.heap m') (k : ∀ h₀', KtsTurn (outer.filterMap (·.frame)) h₀ h₀' → Fr h₀' L s'.heap m → News h₀' L s'.heap news → Below A₀ base outer h₀' → K.In h₀' → Top p loose mean mg mb h₀' → R (.ok (.ret v)) s') :
    LeaveT A₀ base env outer K p loose mean mg mb h₀ L m news g R v s' := ⟨g, L', m', .refl, F, k⟩
theorem turn_on {A₀ : Around} {base : Heap} {env : Env} {outer : List Env} {K : Frag} {p : Program} {loose : List Str} {mean : ExcName → Option Value} {mg mb : Str → Option Value} {h₀ g g' : Heap} {L L' : Addr} {m m' : Str → Option Value} {news : List (Addr × Obj)} {R : Result → Shared → Prop} {v : Value} {s' : Shared}
    (T : KtsTurn ((env :: outer).filterMap (·.frame)) g g') (F : Fr g' L' s'.heap m') (k : ∀ h₀', KtsTurn (outer.filterMap (·.frame)) h₀ h₀' → Fr h₀' L s'.heap m → News h₀' L s'.heap news → Below A₀ base outer h₀' → K.In h₀' → Top p loose mean mg mb h₀' → R (.ok (.ret v)) s') :
    LeaveT A₀ base env outer K p loose mean mg mb h₀ L m news g R v s' := ⟨g', L', m', T, F, k⟩
theorem mto_cases {news news' : List (Addr × Obj)} {o : Option (List Str)} {r : Value} (h : MadeTextsO news o news' r) : (o = none ∧ news' = news ∧ r = .none) ∨ (∃ ws, o = some ws ∧ MadeTexts news ws news' r) := by
  cases o with
  | none => exact .inl ⟨rfl, h⟩
  | some ws => exact .inr ⟨ws, rfl, h⟩
/-- a call of a def that may have caught a fault: a plain value comes back, the ledger as it was, the outer frames up to their slots -/
def SaysM (w : World) (mean : ExcName → Option Value) (mg mb : Str → Option Value) (dpth : Nat) (f : Addr) (vs : List Value) (R : Tok → Value) : Prop :=
  ∀ (news : List (Addr × Obj)) (dp un : Nat) (gd : Option (List Code)) (cn : Str) (cs : Scope) (a : Addr) (ccd : Value) (cl : List (Str × Addr)) (outer : List Env) (A₀ : Around) (base h₀ : Heap) (L : Addr) (m : Str → Option Value) (s : Shared) (Q E : Value → Shared → Prop),
    Below A₀ base outer h₀ → Fr h₀ L s.heap m → (hd.heap_39 w.params).In h₀ → News h₀ L s.heap news → Top hd.view_39 Lo mean mg mb h₀ → (hd.heap_39 w.params).In base → Top hd.view_39 Lo mean mg mb base → cs.kind = .function →
    dp + dpth < recursionLimit → un + 8 * dpth < cLine →
    (∀ (t : Tok) (h₀' h' : Heap) (tk' : Nat), KtsTurn (outer.filterMap (·.frame)) h₀ h₀' → Fr h₀' L h' m → News h₀' L h' news → Below A₀ base outer h₀' → (hd.heap_39 w.params).In h₀' → Top hd.view_39 Lo mean mg mb h₀' → Q (R t) { s with heap := h', toks := tk' }) →
    wpAny (model PySem.Challenge.rw_nu0053_01.row.prog w) (ktrTop dp un gd cn cs L a ccd cl outer) (call (.ref f) vs) Q E s
section
variable {w : World} {mean : ExcName → Option Value} {mg mb : Str → Option Value} {dpth : Nat} {f : Addr} {vs : List Value}
  {dp un : Nat} {gd : Option (List Code)} {cn : Str} {cs : Scope} {a : Addr} {ccd : Value} {cl : List (Str × Addr)} {outer : List Env} {A₀ : Around} {base h₀ : Heap} {L : Addr} {m : Str → Option Value} {s : Shared} {Q E : Value → Shared → Prop}
  {news : List (Addr × Obj)}
theorem saysX_use {Ret : List (Addr × Obj) → Value → Prop} {Bad : Prop} (C : SaysX w mean mg mb dpth f news vs Ret Bad) (B : Below A₀ base outer h₀) (F : Fr h₀ L s.heap m) (X : (hd.heap_39 w.params).In h₀) (N : News h₀ L s.heap news) (T : Top hd.view_39 Lo mean mg mb h₀)
    (hk : cs.kind = .function) (hd : dp + dpth < recursionLimit) (hu : un + 8 * dpth < cLine)
    (ret : ∀ (r : Value) (news' : List (Addr × Obj)) (h' : Heap) (tk' : Nat), Ret news' r → Fr h₀ L h' m → News h₀ L h' news' → Q r { s with heap := h', toks := tk' })
    (err : ∀ (e : Addr) (h' : Heap) (tk' : Nat), Bad → RaisedSN base s.heap (envX cn cs L a ccd cl :: outer) e (.ref 44) [] h' → s.heap.UpToSlots h' → E (.ref e) { s with heap := h', toks := tk' }) :
    wpAny (model PySem.Challenge.rw_nu0053_01.row.prog w) (ktrTop dp un gd cn cs L a ccd cl outer) (call (.ref f) vs) Q E s :=
  C _ _ _ _ _ _ _ _ _ _ _ _ _ _ _ _ _ B F X N T hk hd hu ret err
theorem saysM_use {R : Tok → Value} (C : SaysM w mean mg mb dpth f vs R) (B : Below A₀ base outer h₀) (F : Fr h₀ L s.heap m) (X : (hd.heap_39 w.params).In h₀) (N : News h₀ L s.heap news) (T : Top hd.view_39 Lo mean mg mb h₀)
    (XB : (Mine.hd.heap_39 w.params).In base) (TB : Top Mine.hd.view_39 Lo mean mg mb base) (hk : cs.kind = .function) (hd : dp + dpth < recursionLimit) (hu : un + 8 * dpth < cLine)
    (ret : ∀ (t : Tok) (h₀' h' : Heap) (tk' : Nat), KtsTurn (outer.filterMap (·.frame)) h₀ h₀' → Fr h₀' L h' m → News h₀' L h' news → Below A₀ base outer h₀' → (Mine.hd.heap_39 w.params).In h₀' → Top Mine.hd.view_39 Lo mean mg mb h₀' → Q (R t) { s with heap := h', toks := tk' }) :
    wpAny (model PySem.Challenge.rw_nu0053_01.row.prog w) (ktrTop dp un gd cn cs L a ccd cl outer) (call (.ref f) vs) Q E s :=
  C _ _ _ _ _ _ _ _ _ _ _ _ _ _ _ _ _ _ B F X N T XB TB hk hd hu ret
end
local macro_rules | `(tactic| walk_at "call type:list") => `(tactic| ((with_reducible show wpAny _ _ (call (Value.type _) [Value.ref _]) _ _ _); k_here; (k_dflt (refine' listT ?kS ?kO ?kF ?kN ?kM ?_; (case kF => k_asm); (case kN => k_asm); (case kM => k_mem); (case kS => assumption); (case kO => assumption))); intro D' c' h' F' N' l1; (try k_lt l1); (try k_sweep)))
local macro_rules | `(tactic| walk_at "call ref") => `(tactic| ((with_reducible show wpAny _ _ (call (Value.ref 239) _) _ _ _); k_here; (k_dflt (refine' says_use (c_lawsplit _ _ _ _ _ _ _ ?hyp0 ?hyp1) ?k1 ?k2 ?k3 ?k4 ?k5 ?kK ?kd ?ku ?ka ?_; (case k1 => k_asm); (case k2 => k_asm); (case k3 => k_asm); (case k4 => k_asm); (case k5 => k_asm); (case kK => first | exact rfl | assumption); (case kd => ktr_room); (case ku => ktr_units); (case ka => first | exact True.intro | assumption); (case hyp0 => first | assumption | omega | (simp only [Str.length] at *; omega)); (case hyp1 => assumption))); intro r9 nw9 h9 tk9 hr9 F9 N9; (rcases mto_cases hr9 with ⟨hd9, e9, e9'⟩ | ⟨ws9, hd9, l9, its9, k9, e9', e9, hs9, hne9⟩); (all_goals (subst e9; subst e9')); (all_goals (first | (have dt9 := due_tup hd9; subst dt9) | skip)); (all_goals (try simp only [List.forall_mem_cons, List.forall_mem_nil, and_true] at hne9)); (all_goals (try dsimp only at N9)); (all_goals (try dsimp only)); (all_goals (try k_sweep)); (all_goals (try k_fold))))
local macro_rules | `(tactic| walk_at "call ref") => `(tactic| ((with_reducible show wpAny _ _ (call (Value.ref 144) _) _ _ _); k_here; (k_dflt (refine' saysX_use (c_splitname _ _ _ _ _ _ _ ?hyp0) ?k1 ?k2 ?k3 ?k4 ?k5 ?kK ?kd ?ku ?_ ?_; (case k1 => k_asm); (case k2 => k_asm); (case k3 => k_asm); (case k4 => k_asm); (case k5 => k_asm); (case kK => first | exact rfl | assumption); (case kd => ktr_room); (case ku => ktr_units); (case hyp0 => first | assumption | omega))); (k_extra "saysX")))
theorem c_splitright (w : World) (mean : ExcName → Option Value) (mg mb : Str → Option Value) (x : Str) (t : Tok) (hx : x.length ≤ 64) (hok : okT x) :
    SaysM w mean mg mb 16 246 [.str x t] (fun _ => .bool true) := by
  k_with_none
  w_top off
  k_with_none
  k_with "okts" => exact ok_tup hok
  k_with "saysX" => (refine ?_; rotate_left; (intro e9 h9 tk9 hb9 R9 U9; (try dsimp only); (with_unfolding_all refine' caught_own (KF := Mine.hd.heap_39 w.params) R9 U9 ?cF ?cN B' XB TB (cls44 w XB rfl) ?cX ?_; (case cF => k_asm); (case cN => k_asm); (case cX => k_is)); k_whole; (intro h5 g5 T5 F5 N5 B5 X5 P5); (try k_sweep); (try k_fold)); rotate_left; (intro r9 nw9 h9 tk9 hr9 F9 N9; (obtain ⟨⟨l9, its9, k9, e9, e9', hs9, hne9⟩, ok9⟩ := hr9); subst e9; subst e9'; (try simp only [List.forall_mem_cons, List.forall_mem_nil, and_true] at hne9); (try dsimp only at N9); (try dsimp only); (try k_sweep); (try k_fold)))
  k_with "call builtin:len" => (k_dflt (refine' len_list (News.isList (by k_asm) (by k_mem)) (by omega) ?_))
  unfold SaysM
  k_fill
  intro news dp un gd cn cs a ccd cl outer A₀ base h₀ L m s Q E B F X N T XB TB hk hd hu hret
  refine wpAny_call ?_
  k_dflt (refine' enter_turn ?k1 ?k2 ?k3 ?k4 ?k5 ?kXB ?kTB ?kA ?kF ?kK ?k6 ?k7 ?k8 ?k9 ?kB ?_ ?c2 ?c3 ?c4 ?c5; (case kA => exact rfl); (case kF => exact rfl); (case kK => assumption); (case k1 => k_asm); (case k2 => k_asm); (case k3 => k_asm); (case k4 => k_asm); (case k5 => k_asm); (case kXB => k_asm); (case kTB => k_asm); (case k6 => k_is); (case k7 => k_is); (case k8 => ktr_room); (case k9 => exact BindsTo.of_eq rfl); (case c5 => decide); (case kB => exact locs rfl); (case c2 => exact rfl); (case c3 => exact rfl); (case c4 => exact rfl); k_whole; intro g' L' h' FG' F' N' B' X' T'; (try dsimp only); (try k_lift B'); (try k_fold))
  k_steps
  · rename dueL x = none => hd8
    rw [name_due, hd8] at ok9
    cases ok9
  · exact turn_on T5 F5 fun h₀' T1 F1 N1 B1 X1 P1 => hret 0 _ _ _ T1 F1 N1 B1 X1 P1
  · refine turn_same (by k_asm) fun h₀' T1 F1 N1 B1 X1 P1 => ?_
    rw [decide_eq_true rfl]
    exact hret 0 _ _ _ T1 F1 N1 B1 X1 P1
  · rename dueL x = some _ => hd8
    rw [name_due, hd8] at hb9
    cases hb9

theorem nr1 (x : Str) : tokenL x.cps.toList = ((x != Str.ofString "") && decide (List.map (fun c => (⟨#[c]⟩ : Str)) (List.filter (fun c => !nameN c) x.cps.toList) = [])) := by
  obtain ⟨⟨l⟩⟩ := x
  have e : decide (List.map (fun c => (⟨#[c]⟩ : Str)) (List.filter (fun c => !nameN c) l) = []) = l.all nameN := by
    rw [Bool.eq_iff_iff]; simp
  show (l.all nameN && !l.isEmpty) = _
  rw [e]
  cases l with
  | nil => rfl
  | cons c r =>
    have h : ((⟨⟨c :: r⟩⟩ : Str) != Str.ofString "") = true := by
      rw [bne_iff_ne]; intro h
      have := congrArg (fun s : Str => s.cps.toList) h
      simp [show (Str.ofString "").cps.toList = [] from rfl] at this
    rw [h]; simp
theorem nr2 (x : Str) : nameL x.cps.toList = (tokenL x.cps.toList && startN ((Txt.charAt x 0).getD 0)) := by
  cases h0 : (x != Str.ofString "") with
  | false =>
    rw [nr1, h0]
    rw [bne_eq_false_iff_eq] at h0
    rw [h0]; rfl
  | true =>
    cases hs : startN ((Txt.charAt x 0).getD 0) with
    | false => rw [← nm2 h0 hs, hs]; simp
    | true => rw [← nm3 h0 hs]; simp
theorem nr3 (x : Str) : ncL x.cps.toList = (!!(Builtin.Str.occurrences x (Str.ofString ":") 0 x.length 1).isEmpty && nameL x.cps.toList) := by
  show (!x.cps.toList.contains 58 && _) = (!(!(Builtin.Str.occurrences x ⟨#[58]⟩ 0 x.length 1).isEmpty) && _)
  rw [StrLaws.found_one]
  simp
local macro_rules | `(tactic| walk_at "call ref") => `(tactic| ((with_reducible show wpAny _ _ (call (Value.ref 246) _) _ _ _); k_here; (k_dflt (refine' saysM_use (c_splitright _ _ _ _ _ _ ?hyp0 ?hyp1) ?k1 ?k2 ?k3 ?k4 ?k5 ?k6 ?k7 ?kK ?kd ?ku ?_; (case k1 => k_asm); (case k2 => k_asm); (case k3 => k_asm); (case k4 => k_asm); (case k5 => k_asm); (case k6 => k_asm); (case k7 => k_asm); (case kK => first | exact rfl | assumption); (case kd => ktr_room); (case ku => ktr_units); (case hyp0 => first | assumption | omega); (case hyp1 => assumption))); (k_extra "saysM")))
theorem c_nameright (w : World) (mean : ExcName → Option Value) (mg mb : Str → Option Value) (x : Str) (t : Tok) (hx : x.length ≤ 64) (hok : okT x) :
    SaysM w mean mg mb 18 251 [.str x t] (fun _ => .bool true) := by
  k_with_none
  w_top off
  k_with_none
  k_with "okts" => exact oks
  k_with "saysM" => (intro t5 g5 h5 tk5 T5 F5 N5 B5 X5 P5; (try dsimp only); (try k_sweep); (try k_fold))
  k_with "eval ListComp" => (k_dflt (refine' ListComp_textT (by k_asm) (by with_unfolding_all rfl) (by decide) (by rfl) (by decide) (by rfl) ?_))
  k_with "SrcTextT" => (k_dflt ((refine' srcText_filter (fun c => !nameN c) (by rfl) (by k_asm) (by k_asm) ?szf ?turnf ?finf); (case szf => (first | exact fit_text (by assumption) | exact fit_split (by assumption) (by assumption) | (rw [PySem.sizeLine_eq]; first | omega | (simp only [Str.length] at *; omega)))); (case' turnf => intro c' t' I' oI' C' oC' D' m' ys' h' tk' E' hc' hC' hx' F' N' off' ne'; (simp only [LCg.Off3, and_true] at off'); (try k_sweep)); (case' finf => intro g9 ys9 hs9; (have g1 := nr1 x); (have oks := ok_signs (p := fun c => !nameN c) hok); (generalize List.map (fun c => (⟨#[c]⟩ : Str)) (List.filter (fun c => !nameN c) x.cps.toList) = W9 at hs9 g1 oks)); (all_goals (try k_fold))))
  unfold SaysM
  k_fill
  intro news dp un gd cn cs a ccd cl outer A₀ base h₀ L m s Q E B F X N T XB TB hk hd hu hret
  refine wpAny_call ?_
  k_dflt (refine' enter_turn ?k1 ?k2 ?k3 ?k4 ?k5 ?kXB ?kTB ?kA ?kF ?kK ?k6 ?k7 ?k8 ?k9 ?kB ?_ ?c2 ?c3 ?c4 ?c5; (case kA => exact rfl); (case kF => exact rfl); (case kK => assumption); (case k1 => k_asm); (case k2 => k_asm); (case k3 => k_asm); (case k4 => k_asm); (case k5 => k_asm); (case kXB => k_asm); (case kTB => k_asm); (case k6 => k_is); (case k7 => k_is); (case k8 => ktr_room); (case k9 => exact BindsTo.of_eq rfl); (case c5 => decide); (case kB => exact locs rfl); (case c2 => exact rfl); (case c3 => exact rfl); (case c4 => exact rfl); k_whole; intro g' L' h' FG' F' N' B' X' T'; (try dsimp only); (try k_lift B'); (try k_fold))
  k_steps
  all_goals first
    | (show (!nameN _) = _; simp_all; done)
    | exact turn_on T5 F5 fun h₀' T1 F1 N1 B1 X1 P1 => hret 0 _ _ _ T1 F1 N1 B1 X1 P1
    | (exfalso
       have e2 := nr2 x
       have e0 : tokenL (Str.ofString "").cps.toList = false := rfl
       have e3 := nr3 x
       (try clear oks)
       clear hret B F N X T XB TB B' X' T' hok hd hu
       repeat (rename Fr _ _ _ _ => zz; clear zz)
       repeat (rename News _ _ _ _ => zz; clear zz)
       simp_all; done)
/-! words and line ends, in plain Lean -/
theorem ok_words {x : Str} (h : okT x) : ∀ y ∈ wordsL x.cps.toList, okT y := by
  have key : ∀ i, ∀ y ∈ (splitRun x.cps.toList i).1, ∀ c ∈ y.cps.toList, c ∈ x.cps.toList := by
    intro i
    induction i with
    | zero => simp [splitRun]
    | succ i ih =>
      have hs : ∀ a b : Nat, ∀ c ∈ (subL x.cps.toList a b).cps.toList, c ∈ x.cps.toList := fun a b c hc => by
        unfold subL at hc
        exact List.mem_of_mem_drop (List.mem_of_mem_take (by simpa using hc))
      intro y hy c hc
      unfold splitRun at hy
      split at hy
      · split at hy
        · rcases List.mem_append.mp hy with hy | hy
          · exact ih y hy c hc
          · rw [List.mem_singleton.mp hy] at hc; exact hs _ _ c hc
        · exact ih y hy c hc
      · exact ih y hy c hc
  exact fun y hy c hc => h c (key _ y hy c hc)
theorem bl_len {x : Str} (hx : x.length ≤ 64) : (Txt.join (Str.ofString "") (x.cps.toList.map blankF)).length ≤ 64 := by
  have hl : x.cps.toList.length ≤ 64 := by simpa [Str.length] using hx
  show (Builtin.Str.glued _ _).length ≤ _
  rw [StrLaws.glued_eq_join]
  have h2 := StrLaws.join_length_le (Str.ofString "") (x.cps.toList.map blankF)
  rw [len0] at h2
  have h3 := StrLaws.sumLen_le (B := 1) (x.cps.toList.map blankF) (fun y hy => by
    obtain ⟨c, _, rfl⟩ := List.mem_map.mp hy
    unfold blankF; split <;> exact Nat.le_refl _)
  rw [List.length_map] at h3
  simp only [List.length_map] at h2
  omega
def endStep (st : Str × Str) (c : Nat) : Str × Str := (if c = 10 ∧ st.2 = one 13 then st.1 else st.1 ++ (if c = 13 then one 10 else one c), one c)
def EndP (l : List Nat) (i : Nat) (e b : Str) : Prop := (l.take i).foldl endStep (Str.ofString "", Str.ofString "") = (e, b)
theorem endP_len {l : List Nat} : ∀ {i : Nat} {e b : Str}, EndP l i e b → e.length ≤ i := by
  have key : ∀ (l : List Nat) (st : Str × Str), (l.foldl endStep st).1.length ≤ st.1.length + l.length := by
    intro l
    induction l with
    | nil => intro st; simp
    | cons c r ih =>
      intro st
      have h1 : (endStep st c).1.length ≤ st.1.length + 1 := by
        unfold endStep
        dsimp only
        split
        · omega
        · have : ∀ y : Str, y.length = 1 → (st.1 ++ y).length ≤ st.1.length + 1 := fun y hy => by
            show (st.1 ++ y).cps.size ≤ _
            rw [Str.cps_append, Array.size_append]
            have : y.cps.size = 1 := hy
            show st.1.cps.size + _ ≤ st.1.cps.size + 1
            omega
          apply this
          split <;> rfl
      have := ih (endStep st c)
      rw [List.foldl_cons, List.length_cons]
      omega
  intro i e b h
  have := key (l.take i) (Str.ofString "", Str.ofString "")
  rw [show (l.take i).foldl endStep (Str.ofString "", Str.ofString "") = (e, b) from h] at this
  have h0 : (Str.ofString "").length = 0 := len0
  have h1 : (l.take i).length ≤ i := List.length_take_le ..
  dsimp only at this
  omega
theorem endP_len64 {x : Str} {i : Nat} {e b : Str} (hx : x.length ≤ 64) (h : EndP x.cps.toList i e b) : e.length ≤ 64 := by
  have hl : x.cps.toList.length ≤ 64 := by simpa [Str.length] using hx
  rcases Nat.lt_or_ge i x.cps.toList.length with hi | hi
  · have := endP_len h
    omega
  · have h' : EndP x.cps.toList x.cps.toList.length e b := by
      unfold EndP at *
      rw [List.take_of_length_le hi] at h
      rw [List.take_length]; exact h
    have := endP_len h'
    omega
theorem endP_succ {l : List Nat} {i c : Nat} {e b : Str} (h : EndP l i e b) (hc : l[i]? = some c) : EndP l (i + 1) (endStep (e, b) c).1 (endStep (e, b) c).2 := by
  unfold EndP at *
  rw [List.take_add_one, hc, List.foldl_append, h]
  rfl
theorem litNL : Str.ofString "\n" = one 10 := by decide +kernel
theorem litCR : Str.ofString "\x0d" = one 13 := by decide +kernel
theorem epA {l : List Nat} {i c : Nat} {e b : Str} (h : EndP l i e b) (hc : l[i]? = some c) (h1 : (one c == Str.ofString "\n") = true) (h2 : (b == Str.ofString "\x0d") = true) : EndP l (i + 1) e (one c) := by
  have := endP_succ h hc
  rw [beq_iff_eq, litNL, one_eq] at h1
  rw [beq_iff_eq, litCR] at h2
  unfold endStep at this
  rw [if_pos ⟨h1, h2⟩] at this
  exact this
theorem epB {l : List Nat} {i c : Nat} {e b : Str} (h : EndP l i e b) (hc : l[i]? = some c) (h1 : (one c == Str.ofString "\n") = false ∨ (b == Str.ofString "\x0d") = false) (h2 : (one c == Str.ofString "\x0d") = true) : EndP l (i + 1) (e ++ Str.ofString "\n") (one c) := by
  have := endP_succ h hc
  rw [beq_eq_false_iff_ne, beq_eq_false_iff_ne, litNL, litCR, Ne, one_eq] at h1
  rw [beq_iff_eq, litCR, one_eq] at h2
  unfold endStep at this
  rw [if_neg (by rintro ⟨a, b⟩; exact h1.elim (fun q => q a) (fun q => q b)), if_pos h2] at this
  rw [litNL]; exact this
theorem epC {l : List Nat} {i c : Nat} {e b : Str} (h : EndP l i e b) (hc : l[i]? = some c) (h1 : (one c == Str.ofString "\n") = false ∨ (b == Str.ofString "\x0d") = false) (h2 : (one c == Str.ofString "\x0d") = false) : EndP l (i + 1) (e ++ one c) (one c) := by
  have := endP_succ h hc
  rw [beq_eq_false_iff_ne, beq_eq_false_iff_ne, litNL, litCR, Ne, one_eq] at h1
  rw [beq_eq_false_iff_ne, litCR, Ne, one_eq] at h2
  unfold endStep at this
  rw [if_neg (by rintro ⟨a, b⟩; exact h1.elim (fun q => q a) (fun q => q b)), if_neg h2] at this
  exact this
/-! splitting, in lists of numbers -/
theorem str_ext {a b : Str} (h : a.cps.toList = b.cps.toList) : a = b := Str.ext' (Array.toList_inj.mp h)
def spL (c : Nat) : List Nat → List (List Nat)
  | [] => [[]]
  | d :: r => if d = c then [] :: spL c r else match spL c r with | [] => [[d]] | p :: ps => (d :: p) :: ps
def interL (s : List Nat) : List (List Nat) → List Nat
  | [] => []
  | [p] => p
  | p :: q :: r => p ++ s ++ interL s (q :: r)
theorem spL_ne (c : Nat) : ∀ l, ∃ p ps, spL c l = p :: ps
  | [] => ⟨_, _, rfl⟩
  | d :: r => by
    unfold spL
    split
    · exact ⟨_, _, rfl⟩
    · split <;> exact ⟨_, _, rfl⟩
theorem spL_free {c : Nat} : ∀ (p : List Nat), c ∉ p → ∀ t, (∃ q qs, spL c t = q :: qs ∧ spL c (p ++ t) = (p ++ q) :: qs)
  | [], _, t => by
    obtain ⟨q, qs, e⟩ := spL_ne c t
    exact ⟨q, qs, e, e⟩
  | d :: r, h, t => by
    obtain ⟨q, qs, e1, e2⟩ := spL_free r (fun q => h (List.mem_cons_of_mem _ q)) t
    refine ⟨q, qs, e1, ?_⟩
    have hd : d ≠ c := fun e => h (e ▸ List.mem_cons_self)
    rw [List.cons_append]
    unfold spL
    rw [if_neg hd, e2]
    rfl
theorem spL_only {c : Nat} {p : List Nat} (h : c ∉ p) : spL c p = [p] := by
  obtain ⟨q, qs, e1, e2⟩ := spL_free p h []
  rw [List.append_nil] at e2
  have e3 : spL c [] = [[]] := rfl
  rw [e3] at e1
  injection e1 with e4 e5
  subst e4; subst e5
  rw [e2, List.append_nil]
theorem spL_inter {c : Nat} : ∀ (ps : List (List Nat)), ps ≠ [] → (∀ p ∈ ps, c ∉ p) → spL c (interL [c] ps) = ps
  | [], h, _ => absurd rfl h
  | [p], _, h => spL_only (h p List.mem_cons_self)
  | p :: q :: r, _, h => by
    have ih := spL_inter (q :: r) (by simp) (fun y hy => h y (List.mem_cons_of_mem _ hy))
    have e : interL [c] (p :: q :: r) = p ++ (c :: interL [c] (q :: r)) := by
      show p ++ [c] ++ interL [c] (q :: r) = _
      rw [List.append_assoc]; rfl
    rw [e]
    obtain ⟨q', qs, e1, e2⟩ := spL_free p (h p List.mem_cons_self) (c :: interL [c] (q :: r))
    have e3 : spL c (c :: interL [c] (q :: r)) = [] :: spL c (interL [c] (q :: r)) := by
      rw [spL, if_pos rfl]
    rw [e3, ih] at e1
    injection e1 with e4 e5
    subst e4; subst e5
    rw [e2, List.append_nil]
theorem join_list_of (sep : Str) : ∀ ps : List Str, (Str.join sep ps).cps.toList = interL sep.cps.toList (ps.map (·.cps.toList))
  | [] => rfl
  | [_] => rfl
  | x :: y :: r => by
    have ih := join_list_of sep (y :: r)
    show (x ++ sep ++ Str.join sep (y :: r)).cps.toList = _
    rw [Str.cps_append, Str.cps_append, Array.toList_append, Array.toList_append, ih]
    rfl
theorem tjoin_list_of (sep : Str) (ps : List Str) : (Txt.join sep ps).cps.toList = interL sep.cps.toList (ps.map (·.cps.toList)) := by
  show (Builtin.Str.glued sep ps).cps.toList = _
  rw [StrLaws.glued_eq_join, join_list_of]
theorem split_list_of (x : Str) (c : Nat) : (Txt.split x ⟨#[c]⟩).map (·.cps.toList) = spL c x.cps.toList := by
  have h1 := StrLaws.join_split x ⟨#[c]⟩
  have h2 : x.cps.toList = interL [c] ((Txt.split x ⟨#[c]⟩).map (·.cps.toList)) := by
    have := join_list_of ⟨#[c]⟩ (Txt.split x ⟨#[c]⟩)
    rw [h1] at this; exact this
  rw [h2, spL_inter]
  · have := split_pos x ⟨#[c]⟩
    intro e
    have e2 := congrArg List.length e
    rw [List.length_map] at e2
    simp at e2
    rw [e2] at this
    simp at this
  · intro p hp
    obtain ⟨y, hy, rfl⟩ := List.mem_map.mp hp
    exact StrLaws.split_free x c y hy
/-! words -/
def spStep (c : Nat) (st : List (List Nat) × List Nat) (d : Nat) : List (List Nat) × List Nat := if d = c then (st.1 ++ [st.2], []) else (st.1, st.2 ++ [d])
theorem spL_fold (c : Nat) : ∀ (l : List Nat) (st : List (List Nat) × List Nat), ∃ q qs, spL c l = q :: qs ∧ (l.foldl (spStep c) st).1 ++ [(l.foldl (spStep c) st).2] = st.1 ++ ((st.2 ++ q) :: qs)
  | [], st => ⟨[], [], rfl, by simp⟩
  | d :: r, st => by
    obtain ⟨q, qs, e1, e2⟩ := spL_fold c r (spStep c st d)
    rw [List.foldl_cons, e2]
    unfold spL
    by_cases h : d = c
    · refine ⟨[], q :: qs, by rw [if_pos h, e1], ?_⟩
      simp [spStep, h]
    · refine ⟨d :: q, qs, by rw [if_neg h, e1], ?_⟩
      simp [spStep, h]
theorem spL_fold0 (c : Nat) (l : List Nat) : spL c l = (l.foldl (spStep c) ([], [])).1 ++ [(l.foldl (spStep c) ([], [])).2] := by
  obtain ⟨q, qs, e1, e2⟩ := spL_fold c l ([], [])
  rw [e1, e2]; rfl
def blN (c : Nat) : Nat := if spaceN c then 32 else c
def neS (y : Str) : Bool := y != Str.ofString ""
def mkS (p : List Nat) : Str := ⟨p.toArray⟩
theorem neS_mk (p : List Nat) : neS (mkS p) = !p.isEmpty := by
  unfold neS mkS
  rw [litEmpty]
  cases p with
  | nil => rfl
  | cons a r =>
    rw [bne_iff_ne.mpr]
    · rfl
    · intro e
      have := congrArg (fun z : Str => z.cps.toList) e
      simp at this
theorem sub_snocL {l : List Nat} {b i c : Nat} (hb : b ≤ i) (hc : l[i]? = some c) : subL l b (i + 1) = mkS ((subL l b i).cps.toList ++ [c]) := by
  unfold subL mkS
  apply congrArg
  apply congrArg
  rw [show i + 1 - b = (i - b) + 1 by omega, List.take_add_one, List.getElem?_drop, show b + (i - b) = i by omega, hc]
  rfl
theorem sub_nil (l : List Nat) (b : Nat) : subL l b b = mkS [] := by
  unfold subL mkS
  rw [Nat.sub_self]; rfl
theorem sub_len {l : List Nat} {b i : Nat} (hi : i ≤ l.length) : (subL l b i).cps.toList.length = i - b := by
  unfold subL
  simp; omega
theorem split_inv (l : List Nat) : ∀ i ≤ l.length, (splitRun l i).2 ≤ i ∧
    (splitRun l i).1 = ((((l.take i).map blN).foldl (spStep 32) ([], [])).1.map mkS).filter neS ∧
    subL l (splitRun l i).2 i = mkS ((((l.take i).map blN).foldl (spStep 32) ([], [])).2)
  | 0, _ => ⟨Nat.le_refl 0, rfl, sub_nil l 0⟩
  | i + 1, hi => by
    obtain ⟨h1, h2, h3⟩ := split_inv l i (by omega)
    obtain ⟨c, hc⟩ : ∃ c, l[i]? = some c := ⟨l[i]'(by omega), List.getElem?_eq_getElem (by omega)⟩
    have hg : l.getD i 0 = c := by rw [List.getD_eq_getElem?_getD, hc]; rfl
    have hn : decide (i = l.length) = false := decide_eq_false (by omega)
    have hx : ((l.take (i + 1)).map blN).foldl (spStep 32) ([], []) = spStep 32 (((l.take i).map blN).foldl (spStep 32) ([], [])) (blN c) := by
      rw [List.take_add_one, hc, List.map_append, List.foldl_append]; rfl
    rw [hx]
    generalize ((l.take i).map blN).foldl (spStep 32) ([], []) = st at h2 h3
    have h4 : i - (splitRun l i).2 = st.2.length := by
      have := sub_len (l := l) (b := (splitRun l i).2) (i := i) (by omega)
      rw [h3] at this
      unfold mkS at this
      rw [← this]
    unfold splitRun
    rw [hg, hn, Bool.false_or]
    by_cases hs : spaceN c = true
    · have e : blN c = 32 := by unfold blN; rw [if_pos hs]
      rw [if_pos hs, e]
      unfold spStep
      rw [if_pos rfl]
      refine ⟨Nat.le_refl _, ?_, sub_nil l (i + 1)⟩
      dsimp only
      rw [List.map_append, List.filter_append, ← h2, h3]
      by_cases hb : (splitRun l i).2 < i
      · rw [if_pos hb]
        congr 1
        rw [List.map_cons, List.map_nil, List.filter_cons_of_pos]
        · rfl
        · rw [neS_mk]
          cases hq : st.2 with
          | nil => rw [hq] at h4; simp at h4; omega
          | cons a r => rfl
      · rw [if_neg hb]
        rw [List.map_cons, List.map_nil, List.filter_cons_of_neg]
        · simp
        · rw [neS_mk]
          cases hq : st.2 with
          | nil => simp
          | cons a r => rw [hq] at h4; simp at h4; omega
    · have e : blN c = c := by unfold blN; rw [if_neg hs]
      have h32 : c ≠ 32 := fun e => hs (by rw [e]; rfl)
      rw [if_neg hs, e]
      unfold spStep
      rw [if_neg h32]
      refine ⟨by omega, h2, ?_⟩
      rw [sub_snocL h1 hc, h3]
      rfl
theorem words_sp (l : List Nat) : wordsL l = ((spL 32 (l.map blN)).map mkS).filter neS := by
  obtain ⟨h1, h2, h3⟩ := split_inv l l.length (Nat.le_refl _)
  rw [spL_fold0]
  rw [List.take_length] at h2 h3
  generalize (l.map blN).foldl (spStep 32) ([], []) = st at h2 h3
  have h4 : l.length - (splitRun l l.length).2 = st.2.length := by
    have := sub_len (l := l) (b := (splitRun l l.length).2) (i := l.length) (Nat.le_refl _)
    rw [h3] at this
    unfold mkS at this
    rw [← this]
  unfold wordsL
  rw [splitRun]
  rw [if_pos (by simp)]
  dsimp only
  rw [List.map_append, List.filter_append, ← h2, h3]
  by_cases hb : (splitRun l l.length).2 < l.length
  · rw [if_pos hb]
    congr 1
    rw [List.map_cons, List.map_nil, List.filter_cons_of_pos]
    · rfl
    · rw [neS_mk]
      cases hq : st.2 with
      | nil => rw [hq] at h4; simp at h4; omega
      | cons a r => rfl
  · rw [if_neg hb]
    rw [List.map_cons, List.map_nil, List.filter_cons_of_neg]
    · simp
    · rw [neS_mk]
      cases hq : st.2 with
      | nil => simp
      | cons a r => rw [hq] at h4; simp at h4; omega
theorem inter_flat : ∀ (l : List Nat), interL [] ((l.map blankF).map (·.cps.toList)) = l.map blN
  | [] => rfl
  | [c] => by
    show (blankF c).cps.toList = [blN c]
    unfold blankF blN
    split <;> rfl
  | c :: d :: r => by
    have ih := inter_flat (d :: r)
    show (blankF c).cps.toList ++ [] ++ interL [] (((d :: r).map blankF).map (·.cps.toList)) = _
    rw [ih]
    have : (blankF c).cps.toList = [blN c] := by
      unfold blankF blN
      split <;> rfl
    rw [this]; rfl
theorem words_law (l : List Nat) : (Txt.split (Txt.join (Str.ofString "") (l.map blankF)) (Str.ofString " ")).filter (fun y => y != Str.ofString "") = wordsL l := by
  rw [words_sp]
  have e1 : Str.ofString " " = (⟨#[32]⟩ : Str) := litBl
  have e2 := split_list_of (Txt.join (Str.ofString "") (l.map blankF)) 32
  rw [tjoin_list_of] at e2
  have e3 : (Str.ofString "").cps.toList = [] := by rw [litEmpty]
  rw [e3, inter_flat] at e2
  rw [e1]
  have e4 := congrArg (List.map mkS) e2
  rw [List.map_map] at e4
  rw [← e4]
  have e5 : (fun y : Str => mkS y.cps.toList) = id := by
    funext y; rfl
  show _ = List.filter neS (List.map (mkS ∘ fun x : Str => x.cps.toList) _)
  rw [show (mkS ∘ fun x : Str => x.cps.toList) = id from e5, List.map_id]
  rfl
theorem sp_all (c : Nat) : ∀ l : List Nat, (spL c l).all (·.isEmpty) = l.all (· == c)
  | [] => rfl
  | d :: r => by
    have ih := sp_all c r
    unfold spL
    by_cases h : d = c
    · rw [if_pos h, List.all_cons, ih, List.all_cons, h]; simp
    · rw [if_neg h, List.all_cons]
      have : (d == c) = false := by simp [h]
      rw [this]
      split <;> simp
theorem blank_words (l : List Nat) : blankL l = decide (wordsL l = []) := by
  rw [words_sp]
  have h := sp_all 32 (l.map blN)
  have h2 : (l.map blN).all (· == 32) = blankL l := by
    unfold blankL
    rw [List.all_map]
    congr 1
    funext c
    show (blN c == 32) = spaceN c
    unfold blN
    by_cases hs : spaceN c = true
    · rw [if_pos hs, hs]; rfl
    · rw [if_neg hs]
      have : c ≠ 32 := fun e => hs (by rw [e]; rfl)
      simp [this, hs]
  rw [← h2, ← h]
  rw [Bool.eq_iff_iff, List.all_eq_true, decide_eq_true_eq, List.filter_eq_nil_iff]
  constructor
  · intro q y hy
    obtain ⟨p, hp, rfl⟩ := List.mem_map.mp hy
    rw [neS_mk, q p hp]; simp
  · intro q p hp
    have := q (mkS p) (List.mem_map_of_mem hp)
    rw [neS_mk] at this
    simpa using this
/-! line ends -/
def eA : List Nat → List Nat
  | [] => []
  | [c] => [c]
  | c :: d :: r => if c = 13 ∧ d = 10 then 10 :: eA r else c :: eA (d :: r)
def eB (l : List Nat) : List Nat := l.map fun c => if c = 13 then 10 else c
def eG : Nat → List Nat → List Nat
  | _, [] => []
  | b, c :: r => if c = 10 ∧ b = 13 then eG c r else (if c = 13 then 10 else c) :: eG c r
theorem eG_key : ∀ (n : Nat) (l : List Nat), l.length ≤ n → (∀ b, b ≠ 13 → eG b l = eB (eA l)) ∧ 10 :: eG 13 l = eB (eA (13 :: l))
  | n, [], _ => ⟨fun _ _ => rfl, rfl⟩
  | 0, c :: r, h => by simp at h
  | n + 1, c :: r, h => by
    obtain ⟨h1, h2⟩ := eG_key n r (by simp at h; omega)
    have first : ∀ b, b ≠ 13 → eG b (c :: r) = eB (eA (c :: r)) := by
      intro b hb
      unfold eG
      rw [if_neg (fun q => hb q.2)]
      by_cases hc : c = 13
      · subst hc; rw [if_pos rfl]; exact h2
      · rw [if_neg hc, h1 c hc]
        cases r with
        | nil => unfold eA; simp [eB, hc]
        | cons d t =>
          rw [show eA (c :: d :: t) = c :: eA (d :: t) by rw [eA, if_neg (fun q => hc q.1)]]
          simp [eB, hc]
    refine ⟨first, ?_⟩
    by_cases hc : c = 10
    · subst hc
      rw [show eA (13 :: 10 :: r) = 10 :: eA r by rw [eA, if_pos ⟨rfl, rfl⟩]]
      rw [eG, if_pos ⟨rfl, rfl⟩, h1 10 (by decide)]
      simp [eB]
    · rw [show eA (13 :: c :: r) = 13 :: eA (c :: r) by rw [eA, if_neg (fun q => hc q.2)]]
      have e : eG 13 (c :: r) = eG 0 (c :: r) := by
        simp only [eG, hc, false_and, if_false]
      rw [e, first 0 (by decide)]
      simp [eB]
theorem inter_map (c d : Nat) : ∀ l : List Nat, interL [d] (spL c l) = l.map fun e => if e = c then d else e
  | [] => rfl
  | e :: r => by
    have ih := inter_map c d r
    obtain ⟨p, ps, hp⟩ := spL_ne c r
    rw [List.map_cons, ← ih, spL, hp]
    by_cases h : e = c
    · rw [if_pos h, if_pos h]; rfl
    · rw [if_neg h, if_neg h]
      cases ps <;> rfl
theorem eA_free : ∀ (p t : List Nat), (∀ k < p.length, ¬ ((p ++ t).drop k).take 2 = [13, 10]) → eA (p ++ t) = p ++ eA t
  | [], _, _ => rfl
  | c :: r, t, h => by
    have ih := eA_free r t (fun k hk => h (k + 1) (by simp; omega))
    rw [List.cons_append]
    cases hq : r ++ t with
    | nil =>
      have h1 : r = [] := (List.append_eq_nil_iff.mp hq).1
      have h2 : t = [] := (List.append_eq_nil_iff.mp hq).2
      subst h1; subst h2; rfl
    | cons d u =>
      have h0 := h 0 (by simp)
      rw [List.cons_append, hq] at h0
      rw [eA, if_neg (fun q => h0 (by rw [q.1, q.2]; rfl)), ← hq, ih, List.cons_append]
theorem at_two (x : Str) (k : Nat) : StrLaws.At x ⟨#[13, 10]⟩ x.length k ↔ (x.cps.toList.drop k).take 2 = [13, 10] := by
  unfold StrLaws.At
  rw [StrLaws.subAt_eq]
  show _ ∧ ((x.cps.toList.drop k).take 2 == [13, 10]) = true ↔ _
  rw [beq_iff_eq]
  constructor
  · exact fun q => q.2
  · intro q
    refine ⟨?_, q⟩
    have := congrArg List.length q
    simp at this
    show k + 2 ≤ x.cps.size
    omega
theorem sub_free (x : Str) (a b : Nat) (hb : b ≤ x.length) (hab : a ≤ b) (hn : ∀ k, a ≤ k → k < b → ¬ StrLaws.At x ⟨#[13, 10]⟩ x.length k) :
    eA (x.cps.toList.drop a) = (Builtin.Str.strSub x a b).cps.toList ++ eA (x.cps.toList.drop b) := by
  rw [StrLaws.strSub_toList]
  have e : x.cps.toList.drop a = (x.cps.toList.drop a).take (b - a) ++ x.cps.toList.drop b := by
    have := (List.take_append_drop (b - a) (x.cps.toList.drop a)).symm
    rw [List.drop_drop, show a + (b - a) = b by omega] at this
    exact this
  have hl : ((x.cps.toList.drop a).take (b - a)).length ≤ b - a := List.length_take_le ..
  have := eA_free ((x.cps.toList.drop a).take (b - a)) (x.cps.toList.drop b) (fun k hk => by
    rw [← e, List.drop_drop]
    exact fun q => hn (a + k) (by omega) (by omega) ((at_two x (a + k)).mpr q))
  rw [← e] at this
  exact this
theorem drop_whole (x : Str) : x.cps.toList.drop x.length = [] := by
  apply List.drop_of_length_le
  simp [Str.length]
theorem parts_two (x : Str) : ∀ (cuts : List Nat) (a f : Nat), a ≤ x.length → StrLaws.ChainG x ⟨#[13, 10]⟩ x.length a cuts f → (∀ k, f ≤ k → ¬ StrLaws.At x ⟨#[13, 10]⟩ x.length k) →
    interL [10] ((StrLaws.partsFrom x 2 a cuts).map (·.cps.toList)) = eA (x.cps.toList.drop a)
  | [], a, f, ha, h, hn => by
    have e : f = a := h
    subst e
    rw [sub_free x f x.length (Nat.le_refl _) ha (fun k h1 _ => hn k h1), drop_whole]
    show (Builtin.Str.strSub x f x.length).cps.toList = _ ++ eA []
    rw [show eA [] = [] from rfl, List.append_nil]
  | c :: r, a, f, ha, h, hn => by
    obtain ⟨h1, h2, h3, h4⟩ := h
    have hc2 : c + 2 ≤ x.length := h2.1
    have ih := parts_two x r (c + 2) f hc2 h4 hn
    obtain ⟨p, q, e⟩ := StrLaws.partsFrom_ne x 2 (c + 2) r
    rw [sub_free x a c (by omega) h1 h3]
    show interL [10] ((Builtin.Str.strSub x a c).cps.toList :: (StrLaws.partsFrom x 2 (c + 2) r).map (·.cps.toList)) = _
    have e2 : ∀ (u : List Nat) (v : List (List Nat)), v ≠ [] → interL [10] (u :: v) = u ++ (10 :: interL [10] v) := by
      intro u v hv
      cases v with
      | nil => exact absurd rfl hv
      | cons y z =>
        show u ++ [10] ++ interL [10] (y :: z) = _
        rw [List.append_assoc]; rfl
    rw [e2 _ _ (by rw [e]; simp), ih]
    congr 1
    have e3 := (at_two x c).mp h2
    have e4 := List.take_append_drop 2 (x.cps.toList.drop c)
    rw [e3, List.drop_drop] at e4
    rw [← e4]
    show _ = eA (13 :: 10 :: x.cps.toList.drop (c + 2))
    rw [eA, if_pos ⟨rfl, rfl⟩]
theorem split_two (x : Str) : interL [10] ((Txt.split x ⟨#[13, 10]⟩).map (·.cps.toList)) = eA x.cps.toList := by
  obtain ⟨f, hG, hn⟩ := StrLaws.occ_tight x ⟨#[13, 10]⟩ (by decide)
  have none : (∀ k, ¬ StrLaws.At x ⟨#[13, 10]⟩ x.length k) → interL [10] ([x].map (·.cps.toList)) = eA x.cps.toList := by
    intro h
    have := sub_free x 0 x.length (Nat.le_refl _) (Nat.zero_le _) (fun k _ _ => h k)
    rw [drop_whole, List.drop_zero, StrLaws.sub_whole] at this
    rw [this]
    show x.cps.toList = _ ++ eA []
    rw [show eA [] = [] from rfl, List.append_nil]
  unfold Txt.split
  split
  · rename_i hc
    apply none
    intro k hA
    rw [Bool.or_eq_true, decide_eq_true_eq, decide_eq_true_eq] at hc
    rcases hc with h | h
    · have h1 : k + 2 ≤ x.length := hA.1
      have h2 : x.length < 2 := h
      omega
    · have h3 : Builtin.Str.strKind ⟨#[13, 10]⟩ ≤ Builtin.Str.strKind x := W.kind_le _ _ hA.2
      omega
  · split
    · rename_i he
      have e0 := List.isEmpty_iff.mp he
      rw [e0] at hG
      have ef : f = 0 := hG
      subst ef
      exact none fun k => hn k (Nat.zero_le _)
    · rw [StrLaws.partsBetween_eq]
      have := parts_two x _ 0 f (Nat.zero_le _) hG hn
      rw [List.drop_zero] at this
      exact this
theorem ends_list (x : Str) : (endsS x).cps.toList = eB (eA x.cps.toList) := by
  unfold endsS
  have l1 : Str.ofString "\n" = ⟨#[10]⟩ := by decide +kernel
  have l2 : Str.ofString "\x0d" = ⟨#[13]⟩ := by decide +kernel
  have l3 : Str.ofString "\x0d\n" = ⟨#[13, 10]⟩ := by decide +kernel
  rw [l1, l2, l3, tjoin_list_of, split_list_of, tjoin_list_of]
  show interL [10] (spL 13 (interL [10] _)) = _
  rw [split_two, inter_map]
  rfl
theorem end_fold : ∀ (l : List Nat) (e b : Str) (n : Nat), (b = one n ∨ (b = Str.ofString "" ∧ n ≠ 13)) → (l.foldl endStep (e, b)).1.cps.toList = e.cps.toList ++ eG n l
  | [], e, b, n, _ => by simp [eG]
  | c :: r, e, b, n, h => by
    rw [List.foldl_cons]
    have hb : b = one 13 ↔ n = 13 := by
      rcases h with h | ⟨h, hn⟩
      · rw [h, one_eq]
      · rw [h]
        constructor
        · intro q
          have := congrArg (fun z : Str => z.cps.toList) q
          rw [litEmpty] at this
          simp [one] at this
        · exact fun q => absurd q hn
    have ih := fun e => end_fold r e (one c) c (.inl rfl)
    have es : endStep (e, b) c = (if c = 10 ∧ b = one 13 then e else e ++ (if c = 13 then one 10 else one c), one c) := rfl
    rw [es, eG]
    by_cases hq : c = 10 ∧ n = 13
    · rw [if_pos ⟨hq.1, hb.mpr hq.2⟩, if_pos hq, ih]
    · rw [if_neg (fun q => hq ⟨q.1, hb.mp q.2⟩), if_neg hq, ih]
      rw [Str.cps_append, Array.toList_append, List.append_assoc]
      congr 1
      split <;> rfl
theorem ends_law {x e b : Str} (h : EndP x.cps.toList x.cps.toList.length e b) : endsS x = e := by
  apply str_ext
  rw [ends_list]
  unfold EndP at h
  rw [List.take_length] at h
  have := end_fold x.cps.toList (Str.ofString "") (Str.ofString "") 0 (.inr ⟨rfl, by decide⟩)
  rw [h] at this
  dsimp only at this
  rw [this, (eG_key _ x.cps.toList (Nat.le_refl _)).1 0 (by decide)]
  have e3 : (Str.ofString "").cps.toList = [] := by rw [litEmpty]
  rw [e3]; rfl
local macro_rules | `(tactic| k_ne) => `(tactic| (refine neN ?_; (try dsimp only); first | assumption | (exact Ne.symm (by assumption)) | (simp only [*, ne_eq, not_false_eq_true]; done) | (refine Ne.symm ?_; simp only [*, ne_eq, not_false_eq_true]; done) | (refine Nat.ne_of_gt ?_; simp only [*]; done) | (refine Nat.ne_of_lt ?_; simp only [*]; done) | omega))

section
variable {prog : Program} {w : World} {A : Around} {E : Value → Shared → Prop} {s : Shared} {h₀ : Heap} {env : Env} {x : Str} {body : List Stmt} {Q : Flow → Shared → Prop}
/-- a loop over a text that turns two names of texts -/
theorem iterSS_text {xt : Str} {tx : Tok} {m₀ : Str → Option Value} {news : List (Addr × Obj)} {ye yb e1 b1 : Str} {te1 tb1 : Tok} (P : Nat → Str → Str → Prop)
    (hh : A.handled = none) (F : Fr h₀ env.locals s.heap m₀) (N : News h₀ env.locals s.heap news) (he : m₀ ye = some (.str e1 te1)) (hb : m₀ yb = some (.str b1 tb1)) (n1 : ye ≠ x) (n2 : yb ≠ x) (n3 : yb ≠ ye) (hP : P 0 e1 b1)
    (turn : ∀ i c t e te b tb h tk own, xt.cps.toList[i]? = some c → P i e b →
      Fr h₀ env.locals h (fun z => if z = x then some (.str ⟨#[c]⟩ t) else if z = ye then some (.str e te) else if z = yb then some (.str b tb) else m₀ z) → News h₀ env.locals h (news ++ own) →
      wpAny (model prog w) A (execs body env) (InvPostN h₀ env.locals (fun m' nx => nx = news ∧ ∃ e' te' b' tb', m' ye = some (.str e' te') ∧ m' yb = some (.str b' tb') ∧ (∀ z, z ≠ x → z ≠ ye → z ≠ yb → m' z = m₀ z) ∧ P (i + 1) e' b') own (news.map (·.1)) { s with heap := h, toks := tk } Q) E { s with heap := h, toks := tk })
    (done : ∀ (u : Str → Option Value) e te b tb h tk, P xt.cps.toList.length e b → Fr h₀ env.locals h (fun z => if z = x then u z else if z = ye then some (.str e te) else if z = yb then some (.str b tb) else m₀ z) → News h₀ env.locals h news → Q .next { s with heap := h, toks := tk }) :
    wpAny (model prog w) A (pyIter (.str xt tx)) (fun it s₂ => LoopAtV prog w A h₀ env x body Q E it s₂) E s := by
  refine iterJ_text (fun i m nx => nx = news ∧ ∃ e' te' b' tb', m ye = some (.str e' te') ∧ m yb = some (.str b' tb') ∧ (∀ z, z ≠ x → z ≠ ye → z ≠ yb → m z = m₀ z) ∧ P i e' b') hh F N ⟨rfl, e1, te1, b1, tb1, he, hb, fun _ _ _ _ => rfl, hP⟩ ?_ ?_
  · rintro i c t m₁ nx h tk own hc _ hoff ⟨rfl, e, te, b, tb, he', hb', hm, hP'⟩ F₁ N₁
    have em : (fun z => if z = x then some (Value.str ⟨#[c]⟩ t) else m₁ z) = fun z => if z = x then some (Value.str ⟨#[c]⟩ t) else if z = ye then some (.str e te) else if z = yb then some (.str b tb) else m₀ z := by
      funext z
      by_cases h1 : z = x
      · simp [h1]
      · simp only [if_neg h1]
        by_cases h2 : z = ye
        · rw [if_pos h2, h2]; exact he'
        · rw [if_neg h2]
          by_cases h3 : z = yb
          · rw [if_pos h3, h3]; exact hb'
          · rw [if_neg h3]; exact hm z h1 h2 h3
    rw [em] at F₁
    exact turn i c t e te b tb h tk own hc hP' F₁ N₁
  · rintro m₁ nx h tk ⟨rfl, e, te, b, tb, he', hb', hm, hP'⟩ F₁ N₁
    refine done m₁ e te b tb h tk hP' ?_ N₁
    have em : (fun z => if z = x then m₁ z else if z = ye then some (.str e te) else if z = yb then some (.str b tb) else m₀ z) = m₁ := by
      funext z
      by_cases h1 : z = x
      · simp [h1]
      · simp only [if_neg h1]
        by_cases h2 : z = ye
        · rw [if_pos h2, h2]; exact he'.symm
        · rw [if_neg h2]
          by_cases h3 : z = yb
          · rw [if_pos h3, h3]; exact hb'.symm
          · rw [if_neg h3]; exact (hm z h1 h2 h3).symm
    rw [em]; exact F₁
theorem iterSS_end {L : Addr} {ye yb e b : Str} {te tb : Tok} {news own all : List (Addr × Obj)} {m₀ m' : Str → Option Value} {P : Str → Str → Prop} {s₁ : Shared} {h' : Heap} {tk : Nat}
    (F : Fr h₀ L h' m') (N : News h₀ L h' all) (hn : ∀ p ∈ news, p ∈ all) (ho : ∀ p ∈ own, p ∈ all) (he : m' ye = some (.str e te)) (hb : m' yb = some (.str b tb)) (hm : ∀ z, z ≠ x → z ≠ ye → z ≠ yb → m' z = m₀ z) (hP : P e b) :
    InvEndN h₀ L (fun m' nx => nx = news ∧ ∃ e' te' b' tb', m' ye = some (.str e' te') ∧ m' yb = some (.str b' tb') ∧ (∀ z, z ≠ x → z ≠ ye → z ≠ yb → m' z = m₀ z) ∧ P e' b') own (news.map (·.1)) s₁ { s₁ with heap := h', toks := tk } :=
  InvEndN.intro F N ⟨rfl, e, te, b, tb, he, hb, hm, hP⟩ rfl hn ho
end
local macro_rules | `(tactic| walk_at "call ref") => `(tactic| ((with_reducible show wpAny _ _ (call (Value.ref 158) _) _ _ _); k_here; (k_dflt (refine' says_use (c_split _ _ _ _ _ _ ?hyp0) ?k1 ?k2 ?k3 ?k4 ?k5 ?kK ?kd ?ku ?ka ?_; (case k1 => k_asm); (case k2 => k_asm); (case k3 => k_asm); (case k4 => k_asm); (case k5 => k_asm); (case kK => first | exact rfl | assumption); (case kd => ktr_room); (case ku => ktr_units); (case ka => first | exact True.intro | assumption); (case hyp0 => first | assumption | omega | (simp only [Str.length] at *; omega)))); intro r9 nw9 h9 tk9 hr9 F9 N9; (obtain ⟨l9, its9, k9, e9, e9', hs9, hne9⟩ := hr9; subst e9; subst e9'; (try simp only [List.forall_mem_cons, List.forall_mem_nil, and_true] at hne9)); (try dsimp only at N9); (try dsimp only); (try k_sweep); (try k_fold)))
local macro_rules | `(tactic| walk_at "call ref") => `(tactic| ((with_reducible show wpAny _ _ (call (Value.ref 165) _) _ _ _); k_here; k_dflt (refine' saysV_use (c_collapsed _ _ _ _ _ _ ?hyp0) ?k1 ?k2 ?k3 ?k4 ?k5 ?kK ?kd ?ku ?_; (case k1 => k_asm); (case k2 => k_asm); (case k3 => k_asm); (case k4 => k_asm); (case k5 => k_asm); (case kK => first | exact rfl | assumption); (case kd => ktr_room); (case ku => ktr_units); (case hyp0 => first | assumption | omega | (simp only [Str.length] at *; omega))); intro t9 h9 tk9 F9 N9; (try dsimp only); (try k_sweep); (try k_fold)))
local macro_rules | `(tactic| walk_at "call ref") => `(tactic| ((with_reducible show wpAny _ _ (call (Value.ref 151) _) _ _ _); k_here; k_dflt (refine' saysV_use (c_ends _ _ _ _ _ _ ?hyp0) ?k1 ?k2 ?k3 ?k4 ?k5 ?kK ?kd ?ku ?_; (case k1 => k_asm); (case k2 => k_asm); (case k3 => k_asm); (case k4 => k_asm); (case k5 => k_asm); (case kK => first | exact rfl | assumption); (case kd => ktr_room); (case ku => ktr_units); (case hyp0 => first | assumption | omega | (simp only [Str.length] at *; omega))); intro t9 h9 tk9 F9 N9; (try dsimp only); (try k_sweep); (try k_fold)))
local macro_rules | `(tactic| walk_at "call ref") => `(tactic| ((with_reducible show wpAny _ _ (call (Value.ref 170) _) _ _ _); k_here; k_dflt (refine' saysV_use (c_blanked _ _ _ _ _ _ ?hyp0) ?k1 ?k2 ?k3 ?k4 ?k5 ?kK ?kd ?ku ?_; (case k1 => k_asm); (case k2 => k_asm); (case k3 => k_asm); (case k4 => k_asm); (case k5 => k_asm); (case kK => first | exact rfl | assumption); (case kd => ktr_room); (case ku => ktr_units); (case hyp0 => first | assumption | omega | (simp only [Str.length] at *; omega))); intro t9 h9 tk9 F9 N9; (try dsimp only); (try k_sweep); (try k_fold)))
theorem c_spacesright (w : World) (mean : ExcName → Option Value) (mg mb : Str → Option Value) (x : Str) (t : Tok) (hx : x.length ≤ 64) (hok : okT x) :
    SaysV w mean mg mb 14 256 [.str x t] (fun _ => .bool true) := by
  k_with_none
  w_top off
  k_with_none
  k_with "joinok" => (first | exact blank_ok hx | exact words_ok hx)
  k_with "okts" => (first | exact ok_words hok)
  have hbl := bl_len hx
  k_with "exec Assign cons ListComp" => (k_dflt (refine' LCt.Assign_ListComp_T (by k_asm) (by rfl) (by with_unfolding_all rfl) (by with_unfolding_all rfl) (by decide) (by rfl) (by decide) (by rfl) (by rfl) (by rfl) ?_))
  k_with "eval ListComp" => (k_dflt (refine' ListComp_text (by k_asm) (by with_unfolding_all rfl) (by decide) (by rfl) (by decide) (by rfl) ?_))
  k_with "SrcText" => (k_dflt ((refine' srcText_map blankF (by rfl) (by k_asm) (by k_asm) (by (first | exact fit_text (by assumption) | exact fit_split (by assumption) (by assumption) | (rw [PySem.sizeLine_eq]; first | omega | (simp only [Str.length] at *; omega)))) (fun c' t' I' oI' C' oC' D' m' ys' h' tk' E' hc' hC' hx' F' N' off' ne' => ?_) (fun g9 ys9 hs9 => ?_)); (all_goals (try (simp only [LCg.Off3, and_true] at off'))); (all_goals (try k_sweep)); (all_goals (try k_fold))))
  k_with "CompSrcT" => (k_dflt ((refine' LCt.CompSrcT.ledger (by rfl) (by k_asm) (by k_asm) (by k_mem) (by (first | exact fit_text (by assumption) | exact fit_split (by assumption) (by assumption) | (rw [PySem.sizeLine_eq]; first | omega | (simp only [Str.length] at *; omega)))) ?_); intro g9; (refine' restT_strs (fun y => y != Str.ofString "") (by assumption) (fun y' t' I' oI' C' oC' D' m' ys' h' tk' E' hc' hC' hx' F' N' off' ne' => ?_) (fun ys9 hs9 => ?_)); (all_goals (try (rw [words_law] at hs9))); (all_goals (try (simp only [LCg.Off3, and_true] at off'))); (all_goals (try k_sweep)); (all_goals (try k_fold))))
  k_with "exec For Name Name cons nil" => ((rename Fr _ _ _ _ => lF'); (with_unfolding_all refine' For_invVF lF' ?k1 ?k2 ?_; (case k1 => exact rfl); (case k2 => exact rfl); k_whole))
  k_with "pyIter str" => k_dflt ((with_reducible show wpAny _ _ (pyIter (Value.str _ _)) (fun it s₂ => LoopAtV _ _ _ _ _ _ _ _ _ it s₂) _ _); (with_unfolding_all refine' iterSS_text (ye := (Str.ofString "ends")) (yb := (Str.ofString "before")) (EndP x.cps.toList) (by rfl) (by k_asm) (by k_asm) (by rfl) (by rfl) (by decide) (by decide) (by decide) (by rfl) (fun i' c' t' e' te' b' tb' h' tk' own' hc' hP' F' N' => ?_) (fun u' e' te' b' tb' h' tk' hP' F' N' => ?_)); (all_goals (have hl' := endP_len64 hx hP')); (all_goals (try k_sweep)); (all_goals (try k_fold)))
  unfold SaysV
  k_fill
  intro news dp un gd cn cs a ccd cl outer A₀ base h₀ L m s Q E B F X N T hk hd hu hret
  refine wpAny_call ?_
  k_dflt (refine' enter_pure ?k1 ?k2 ?k3 ?k4 ?k5 ?kA ?kF ?kK ?k6 ?k7 ?k8 ?k9 ?kB ?_ ?c2 ?c3 ?c4 ?c5; (case kA => exact rfl); (case kF => exact rfl); (case kK => assumption); (case k1 => k_asm); (case k2 => k_asm); (case k3 => k_asm); (case k4 => k_asm); (case k5 => k_asm); (case k6 => k_is); (case k7 => k_is); (case k8 => ktr_room); (case k9 => exact BindsTo.of_eq rfl); (case c5 => decide); (case kB => exact locs rfl); (case c2 => exact rfl); (case c3 => exact rfl); (case c4 => exact rfl); k_whole; intro g' L' h' FG' F' N' B' X' T' lt' hN'; (try dsimp only); (try k_lift B'); (try k_fold))
  k_steps
  all_goals try (first | exact bk2 (by rename List.isEmpty _ = _ => hq; rw [← sp1]; show (!List.isEmpty _) = _; rw [hq]; rfl) | exact bk1 (by rename List.isEmpty _ = _ => hq; rw [← sp1]; show (!List.isEmpty _) = _; rw [hq]; rfl))
  all_goals try (exfalso; rename (_ != _) = true => hq; simp at hq; done)
  all_goals try (exact iterSS_end (by k_asm) (by k_asm) (fun p hp => List.mem_append_left _ hp) (fun p hp => List.mem_append_right _ hp) (by with_unfolding_all rfl) (by with_unfolding_all rfl) (fun z h1 h2 h3 => by simp only [if_neg h1, if_neg h2, if_neg h3]) (by first | exact epA hP' hc' (by assumption) (by assumption) | exact epB hP' hc' (by first | exact .inl (by assumption) | exact .inr (by assumption)) (by assumption) | exact epC hP' hc' (by first | exact .inl (by assumption) | exact .inr (by assumption)) (by assumption)))
  · exfalso
    rename (blankL _ != _) = true => hq
    rw [blank_words] at hq
    simp at hq
  · exact cb_retB hret (beq_self_eq_true _) (by k_asm) (by exact hN' _ (Fr.keep (by k_asm)))
  · exact cb_retB hret (by rw [ends_law hP']; exact beq_self_eq_true _) (by k_asm) (by exact hN' _ (Fr.keep (by k_asm)))
  · rename ¬ wordsL _ = wordsL _ => hq
    exact absurd rfl hq
local macro_rules | `(tactic| walk_at "binaryOp Mult int int") => `(tactic| (k_here; k_extra "binaryOp Mult int int"))
local macro_rules | `(tactic| walk_at "binaryOp FloorDiv int int") => `(tactic| (k_here; k_extra "binaryOp FloorDiv int int"))

/-- a call that draws: the source has two other ints -/
def Drew (g : Obj → List (Addr × Obj)) (P : Value → Prop) (news' : List (Addr × Obj)) (r : Value) : Prop :=
  P r ∧ ∃ b c t1 t2 k, news' = g (W.listOf #[.int b t1, .int c t2] k)
def IntIn (lo hi : Int) (r : Value) : Prop := ∃ d td, r = .int d td ∧ lo ≤ d ∧ d < hi
theorem updF_mem {a0 : Addr} {o : Obj} {news : List (Addr × Obj)} {g : Obj → List (Addr × Obj)} (U : UpdF a0 o news g) : (a0, o) ∈ news := by
  obtain ⟨pre, post, e, _⟩ := U.split
  rw [e]; simp
theorem drew_end {h₀ g' h' : Heap} {L L' a0 : Addr} {m m' : Str → Option Value} {news mine : List (Addr × Obj)} {g : Obj → List (Addr × Obj)} {o : Obj} {s : Shared} {Q : Value → Shared → Prop} {P : Value → Prop} {tk' k' : Nat} {b' c' : Int} {t1' t2' : Tok} {r : Value} {more : List (Addr × Obj)}
    (hret : ∀ (r : Value) (news' : List (Addr × Obj)) (h' : Heap) (tk' : Nat), Drew g P news' r → Fr h₀ L h' m → News h₀ L h' news' → Q r { s with heap := h', toks := tk' })
    (U : UpdF a0 o news g)
    (hN : ∀ (h' : Heap) (l l' : List (Addr × Obj)), (∀ b o, g'.get? b = some o → h'.get? b = some o) → News h₀ L h' l → (∀ q ∈ l', q ∈ l ∨ (q ∈ news ∧ q.1 ∉ mine.map (·.1))) → News h₀ L h' l')
    (hmine : ∀ q ∈ mine, q.1 = a0 ∨ q ∈ more)
    (F : Fr g' L' h' m') (kF : Fr h₀ L h' m) (kN : News h₀ L h' ((a0, W.listOf #[.int b' t1', .int c' t2'] k') :: more)) (hu : ∀ q ∈ mine, ∀ q' ∈ news, q.1 = q'.1 → q = q') (hP : P r) : Q r { s with heap := h', toks := tk' } := by
  refine hret _ _ h' tk' ⟨hP, b', c', t1', t2', k', rfl⟩ kF (hN h' _ _ F.keep kN fun q hq => ?_)
  obtain ⟨pre, post, e1, e2, e3, e4⟩ := U.split
  rw [e2] at hq
  have key : q ∈ news → q.1 ≠ a0 → q ∈ (a0, W.listOf #[.int b' t1', .int c' t2'] k') :: more ∨ (q ∈ news ∧ q.1 ∉ mine.map (·.1)) := fun h1 h2 => by
    by_cases hm : q.1 ∈ mine.map (·.1)
    · obtain ⟨q', hq', e⟩ := List.mem_map.mp hm
      have := hu q' hq' q h1 e
      subst this
      rcases hmine q' hq' with z | z
      · exact absurd z h2
      · exact .inl (List.mem_cons_of_mem _ z)
    · exact .inr ⟨h1, hm⟩
  rcases List.mem_append.mp hq with hq | hq
  · exact key (by rw [e1]; exact List.mem_append_left _ hq) (e3 q hq)
  · rcases List.mem_cons.mp hq with rfl | hq
    · exact .inl List.mem_cons_self
    · exact key (by rw [e1]; exact List.mem_append_right _ (List.mem_cons_of_mem _ hq)) (e4 q hq)
theorem uniq_updF {a0 : Addr} {o : Obj} {news : List (Addr × Obj)} {g : Obj → List (Addr × Obj)} (U : UpdF a0 o news g) : ∀ q' ∈ news, a0 = q'.1 → (a0, o) = q' := by
  obtain ⟨pre, post, e, _, e3, e4⟩ := U.split
  intro q' hq' h
  rw [e] at hq'
  rcases List.mem_append.mp hq' with hq | hq
  · exact absurd h.symm (e3 q' hq)
  · rcases List.mem_cons.mp hq with rfl | hq
    · rfl
    · exact absurd h.symm (e4 q' hq)
theorem mulS {a b x : Int} : IntMulOk a ([b, x.fmod 2147483647].getD (Int.toNat 1) 0) := by
  show IntMulOk a (x.fmod 2147483647)
  have h1 := Int.fmod_nonneg_of_pos x (show (0 : Int) < 2147483647 by decide)
  have h2 := Int.fmod_lt_of_pos x (show (0 : Int) < 2147483647 by decide)
  exact .of_right (intBits_le_64 (by omega) (by omega))
theorem c_take (w : World) (mean : ExcName → Option Value) (mg mb : Str → Option Value) (a0 : Addr) (b c top : Int) (t1 t2 t : Tok) (k : Nat) (news : List (Addr × Obj)) (g : Obj → List (Addr × Obj)) (U : UpdF a0 (W.listOf #[.int b t1, .int c t2] k) news g) (htop : 0 < top) (hbig : top < 1073741824) :
    Says w mean mg mb 2 194 (fun _ => True) news [.ref a0, .int top t] (Drew g (IntIn 0 top)) := by
  k_with_none
  w_top off
  k_with_none
  have hmem := updF_mem U
  k_with "binaryOp FloorDiv int int" => (k_dflt (refine floordiv_int (by omega) ?_ (Or.inl (PyProof.noPylong_small (by omega)))))
  k_with "binaryOp Mult int int" => (k_dflt (refine mul_int ?_ mulS))
  unfold Says
  k_fill
  intro dp un gd cn cs a ccd cl outer A₀ base h₀ L m s Q E B F X N T hk hd hu hask hret
  refine wpAny_call ?_
  k_dflt (refine' enter_part (mine := [(a0, (W.listOf #[.int b t1, .int c t2] k))]) ?kM ?k1 ?k2 ?k3 ?k4 ?k5 ?kA ?kF ?kK ?k6 ?k7 ?k8 ?k9 ?kB ?_ ?c2 ?c3 ?c4 ?c5; (case kA => exact rfl); (case kF => exact rfl); (case kK => assumption); (case k1 => k_asm); (case k2 => k_asm); (case k3 => k_asm); (case k4 => k_asm); (case kM => exact fun q hq => (by rcases List.mem_singleton.mp hq with rfl; exact hmem)); (case k5 => k_asm); (case k6 => k_is); (case k7 => k_is); (case k8 => ktr_room); (case k9 => exact BindsTo.of_eq rfl); (case c5 => decide); (case kB => exact locs rfl); (case c2 => exact rfl); (case c3 => exact rfl); (case c4 => exact rfl); k_whole; intro g' L' h' FG' F' N' B' X' T' lt' hN'; (try dsimp only); (try k_lift B'); (try k_fold))
  k_steps
  all_goals exact drew_end (more := []) hret U hN' (fun q hq => .inl (by rw [List.mem_singleton.mp hq])) (by k_asm) (by k_asm) (by k_asm) (fun q hq q' hq' e => by rw [List.mem_singleton.mp hq] at e ⊢; exact uniq_updF U q' hq' e) ⟨_, _, rfl, Int.fmod_nonneg_of_pos _ htop, Int.fmod_lt_of_pos _ htop⟩

theorem getD_bnd {ns : List Int} {lo hi : Int} (h : ∀ n ∈ ns, lo ≤ n ∧ n < hi) {i : Nat} (hi' : i < ns.length) : lo ≤ ns.getD i 0 ∧ ns.getD i 0 < hi := by
  have e : ns.getD i 0 = ns[i] := by simp [List.getD, List.getElem?_eq_getElem hi']
  rw [e]
  exact h _ (List.getElem_mem hi')
theorem item_strs {prog : Program} {w : World} {A : Around} {E : Value → Shared → Prop} {s : Shared} {value slice : PySem.Expr} {l : Addr} {its : Array Value} {ws : List Str} {d : Int} {u : Tok} {Q : Value → Shared → Prop} (hl : s.heap.IsList l its) (hs : StrsAre its.toList ws)
    (h0 : 0 ≤ d) (h1 : d < ws.length) (hn : ws.length ≤ 1000) (h : ∀ y t, y ∈ ws → Q (.str y t) s)
    (hsl : subscripted slice false (.ref l) (.int d u) = operate [.ref l, .int d u] (getItem (.ref l) (.int d u)) := by with_unfolding_all rfl) :
    wpAny (model prog w) A (subscriptTail value slice (.ref l) (.int d u)) Q E s := by
  have hlen : its.toList.length = ws.length := hs.length
  have hlt : d.toNat < its.toList.length := by omega
  obtain ⟨y, t, e1, e2⟩ := strs_get hs (List.getElem?_eq_getElem hlt)
  refine tail_any hl.typeIs slot_list_getitem.lookup (wpAny_getItem_list hl h0 (by omega) (x := .str y t) ?_ (h y t (List.mem_of_getElem? e2))) hsl
  rw [← Array.getElem?_toList, List.getElem?_eq_getElem hlt, e1]
theorem c_oneC (w : World) (mean : ExcName → Option Value) (mg mb : Str → Option Value) (a0 : Addr) (b c : Int) (t1 t2 : Tok) (k : Nat) (news : List (Addr × Obj)) (g : Obj → List (Addr × Obj)) (U : UpdF a0 (W.listOf #[.int b t1, .int c t2] k) news g) :
    Says w mean mg mb 4 201 (fun _ => True) news [.ref a0, .ref 178] (Drew g (IntIn 0 1114113)) := by
  k_with_none
  w_top off
  k_with_none
  k_with "call ref" => ((with_reducible show wpAny _ _ (call (Value.ref 194) _) _ _ _); k_here; (k_dflt (refine' says_use (c_take _ _ _ _ _ _ _ _ _ _ _ _ _ _ ?hypU ?hyp0 ?hyp1) ?k1 ?k2 ?k3 ?k4 ?k5 ?kK ?kd ?ku ?ka ?_; (case k1 => k_asm); (case k2 => k_asm); (case k3 => k_asm); (case k4 => k_asm); (case hypU => (first | (refine' UpdF.head ?_; first | (intro p9 hp9; cases hp9; done) | (intro p9 hp9; (rcases List.mem_singleton.mp hp9 with rfl); (dsimp only); assumption) | k_all) | (refine' UpdF.tail ?ua7 ?ub7; (case ua7 => first | assumption | k_ne); (case ub7 => (first | (refine' UpdF.head ?_; first | (intro p9 hp9; cases hp9; done) | (intro p9 hp9; (rcases List.mem_singleton.mp hp9 with rfl); (dsimp only); assumption) | k_all) | (refine' UpdF.tail ?ua6 ?ub6; (case ua6 => first | assumption | k_ne); (case ub6 => (first | (refine' UpdF.head ?_; first | (intro p9 hp9; cases hp9; done) | (intro p9 hp9; (rcases List.mem_singleton.mp hp9 with rfl); (dsimp only); assumption) | k_all) | (refine' UpdF.tail ?ua5 ?ub5; (case ua5 => first | assumption | k_ne); (case ub5 => (first | (refine' UpdF.head ?_; first | (intro p9 hp9; cases hp9; done) | (intro p9 hp9; (rcases List.mem_singleton.mp hp9 with rfl); (dsimp only); assumption) | k_all) | (refine' UpdF.tail ?ua4 ?ub4; (case ua4 => first | assumption | k_ne); (case ub4 => (first | (refine' UpdF.head ?_; first | (intro p9 hp9; cases hp9; done) | (intro p9 hp9; (rcases List.mem_singleton.mp hp9 with rfl); (dsimp only); assumption) | k_all) | (refine' UpdF.tail ?ua3 ?ub3; (case ua3 => first | assumption | k_ne); (case ub3 => (first | (refine' UpdF.head ?_; first | (intro p9 hp9; cases hp9; done) | (intro p9 hp9; (rcases List.mem_singleton.mp hp9 with rfl); (dsimp only); assumption) | k_all) | (refine' UpdF.tail ?ua2 ?ub2; (case ua2 => first | assumption | k_ne); (case ub2 => (first | (refine' UpdF.head ?_; first | (intro p9 hp9; cases hp9; done) | (intro p9 hp9; (rcases List.mem_singleton.mp hp9 with rfl); (dsimp only); assumption) | k_all) | (refine' UpdF.tail ?ua1 ?ub1; (case ua1 => first | assumption | k_ne); (case ub1 => (first | (refine' UpdF.head ?_; first | (intro p9 hp9; cases hp9; done) | (intro p9 hp9; (rcases List.mem_singleton.mp hp9 with rfl); (dsimp only); assumption) | k_all) | (refine' UpdF.tail ?ua0 ?ub0; (case ua0 => first | assumption | k_ne); (case ub0 => ((refine' UpdF.head ?_; first | (intro p9 hp9; cases hp9; done) | (intro p9 hp9; (rcases List.mem_singleton.mp hp9 with rfl); (dsimp only); assumption) | k_all))))))))))))))))))))))))))); (case k5 => k_asm); (case kK => first | exact rfl | assumption); (case kd => ktr_room); (case ku => ktr_units); (case ka => first | exact True.intro | assumption); (case hyp0 => first | omega | decide | (simp; done) | (simp; omega)); (case hyp1 => first | omega | decide | (simp; done) | (simp; omega)))); intro r9 nw9 h9 tk9 hr9 F9 N9; (obtain ⟨⟨d9, td9, e9, hd9, hd9'⟩, b9, c9, t19, t29, k9, e9'⟩ := hr9; subst e9; subst e9'); (try dsimp only at N9); (try dsimp only); (try k_sweep); (try k_fold))
  have hmem := updF_mem U
  k_with "call builtin:len" => (k_dflt (refine' len_list (lstK (X'.keeps (Fr.keep (by k_asm))) (a := 178) (by k_is)) (by exact Nat.le_of_ble_eq_true rfl) ?_))
  k_with "subscriptTail" => (k_dflt ((with_unfolding_all refine' item_anyK (ns := charB) (lstK (X'.keeps (Fr.keep (by k_asm))) (a := 178) (by k_is)) (by repeat' constructor) (by assumption) (by show _ < ((List.length charB : Nat) : Int); rw [show List.length charB = 10 from rfl]; omega) (by omega) ?_); intro t9))
  unfold Says
  k_fill
  intro dp un gd cn cs a ccd cl outer A₀ base h₀ L m s Q E B F X N T hk hd hu hask hret
  refine wpAny_call ?_
  k_dflt (refine' enter_part (mine := [(a0, (W.listOf #[.int b t1, .int c t2] k))]) ?kM ?k1 ?k2 ?k3 ?k4 ?k5 ?kA ?kF ?kK ?k6 ?k7 ?k8 ?k9 ?kB ?_ ?c2 ?c3 ?c4 ?c5; (case kA => exact rfl); (case kF => exact rfl); (case kK => assumption); (case k1 => k_asm); (case k2 => k_asm); (case k3 => k_asm); (case k4 => k_asm); (case kM => exact fun q hq => (by rcases List.mem_singleton.mp hq with rfl; exact hmem)); (case k5 => k_asm); (case k6 => k_is); (case k7 => k_is); (case k8 => ktr_room); (case k9 => exact BindsTo.of_eq rfl); (case c5 => decide); (case kB => exact locs rfl); (case c2 => exact rfl); (case c3 => exact rfl); (case c4 => exact rfl); k_whole; intro g' L' h' FG' F' N' B' X' T' lt' hN'; (try dsimp only); (try k_lift B'); (try k_fold))
  k_steps
  all_goals exact drew_end (more := []) hret U hN' (fun q hq => .inl (by rw [List.mem_singleton.mp hq])) (by k_asm) (by k_asm) (by k_asm) (fun q hq q' hq' e => by rw [List.mem_singleton.mp hq] at e ⊢; exact uniq_updF U q' hq' e) ⟨_, _, rfl, getD_bnd (ns := charB) (by decide) (by rw [show List.length charB = 10 from rfl]; omega)⟩
theorem c_oneS (w : World) (mean : ExcName → Option Value) (mg mb : Str → Option Value) (a0 : Addr) (b c : Int) (t1 t2 : Tok) (k : Nat) (news : List (Addr × Obj)) (g : Obj → List (Addr × Obj)) (U : UpdF a0 (W.listOf #[.int b t1, .int c t2] k) news g) :
    Says w mean mg mb 4 201 (fun _ => True) news [.ref a0, .ref 179] (Drew g (IntIn 0 1114113)) := by
  k_with_none
  w_top off
  k_with_none
  k_with "call ref" => ((with_reducible show wpAny _ _ (call (Value.ref 194) _) _ _ _); k_here; (k_dflt (refine' says_use (c_take _ _ _ _ _ _ _ _ _ _ _ _ _ _ ?hypU ?hyp0 ?hyp1) ?k1 ?k2 ?k3 ?k4 ?k5 ?kK ?kd ?ku ?ka ?_; (case k1 => k_asm); (case k2 => k_asm); (case k3 => k_asm); (case k4 => k_asm); (case hypU => (first | (refine' UpdF.head ?_; first | (intro p9 hp9; cases hp9; done) | (intro p9 hp9; (rcases List.mem_singleton.mp hp9 with rfl); (dsimp only); assumption) | k_all) | (refine' UpdF.tail ?ua7 ?ub7; (case ua7 => first | assumption | k_ne); (case ub7 => (first | (refine' UpdF.head ?_; first | (intro p9 hp9; cases hp9; done) | (intro p9 hp9; (rcases List.mem_singleton.mp hp9 with rfl); (dsimp only); assumption) | k_all) | (refine' UpdF.tail ?ua6 ?ub6; (case ua6 => first | assumption | k_ne); (case ub6 => (first | (refine' UpdF.head ?_; first | (intro p9 hp9; cases hp9; done) | (intro p9 hp9; (rcases List.mem_singleton.mp hp9 with rfl); (dsimp only); assumption) | k_all) | (refine' UpdF.tail ?ua5 ?ub5; (case ua5 => first | assumption | k_ne); (case ub5 => (first | (refine' UpdF.head ?_; first | (intro p9 hp9; cases hp9; done) | (intro p9 hp9; (rcases List.mem_singleton.mp hp9 with rfl); (dsimp only); assumption) | k_all) | (refine' UpdF.tail ?ua4 ?ub4; (case ua4 => first | assumption | k_ne); (case ub4 => (first | (refine' UpdF.head ?_; first | (intro p9 hp9; cases hp9; done) | (intro p9 hp9; (rcases List.mem_singleton.mp hp9 with rfl); (dsimp only); assumption) | k_all) | (refine' UpdF.tail ?ua3 ?ub3; (case ua3 => first | assumption | k_ne); (case ub3 => (first | (refine' UpdF.head ?_; first | (intro p9 hp9; cases hp9; done) | (intro p9 hp9; (rcases List.mem_singleton.mp hp9 with rfl); (dsimp only); assumption) | k_all) | (refine' UpdF.tail ?ua2 ?ub2; (case ua2 => first | assumption | k_ne); (case ub2 => (first | (refine' UpdF.head ?_; first | (intro p9 hp9; cases hp9; done) | (intro p9 hp9; (rcases List.mem_singleton.mp hp9 with rfl); (dsimp only); assumption) | k_all) | (refine' UpdF.tail ?ua1 ?ub1; (case ua1 => first | assumption | k_ne); (case ub1 => (first | (refine' UpdF.head ?_; first | (intro p9 hp9; cases hp9; done) | (intro p9 hp9; (rcases List.mem_singleton.mp hp9 with rfl); (dsimp only); assumption) | k_all) | (refine' UpdF.tail ?ua0 ?ub0; (case ua0 => first | assumption | k_ne); (case ub0 => ((refine' UpdF.head ?_; first | (intro p9 hp9; cases hp9; done) | (intro p9 hp9; (rcases List.mem_singleton.mp hp9 with rfl); (dsimp only); assumption) | k_all))))))))))))))))))))))))))); (case k5 => k_asm); (case kK => first | exact rfl | assumption); (case kd => ktr_room); (case ku => ktr_units); (case ka => first | exact True.intro | assumption); (case hyp0 => first | omega | decide | (simp; done) | (simp; omega)); (case hyp1 => first | omega | decide | (simp; done) | (simp; omega)))); intro r9 nw9 h9 tk9 hr9 F9 N9; (obtain ⟨⟨d9, td9, e9, hd9, hd9'⟩, b9, c9, t19, t29, k9, e9'⟩ := hr9; subst e9; subst e9'); (try dsimp only at N9); (try dsimp only); (try k_sweep); (try k_fold))
  have hmem := updF_mem U
  k_with "call builtin:len" => (k_dflt (refine' len_list (lstK (X'.keeps (Fr.keep (by k_asm))) (a := 179) (by k_is)) (by exact Nat.le_of_ble_eq_true rfl) ?_))
  k_with "subscriptTail" => (k_dflt ((with_unfolding_all refine' item_anyK (ns := startB) (lstK (X'.keeps (Fr.keep (by k_asm))) (a := 179) (by k_is)) (by repeat' constructor) (by assumption) (by show _ < ((List.length startB : Nat) : Int); rw [show List.length startB = 32 from rfl]; omega) (by omega) ?_); intro t9))
  unfold Says
  k_fill
  intro dp un gd cn cs a ccd cl outer A₀ base h₀ L m s Q E B F X N T hk hd hu hask hret
  refine wpAny_call ?_
  k_dflt (refine' enter_part (mine := [(a0, (W.listOf #[.int b t1, .int c t2] k))]) ?kM ?k1 ?k2 ?k3 ?k4 ?k5 ?kA ?kF ?kK ?k6 ?k7 ?k8 ?k9 ?kB ?_ ?c2 ?c3 ?c4 ?c5; (case kA => exact rfl); (case kF => exact rfl); (case kK => assumption); (case k1 => k_asm); (case k2 => k_asm); (case k3 => k_asm); (case k4 => k_asm); (case kM => exact fun q hq => (by rcases List.mem_singleton.mp hq with rfl; exact hmem)); (case k5 => k_asm); (case k6 => k_is); (case k7 => k_is); (case k8 => ktr_room); (case k9 => exact BindsTo.of_eq rfl); (case c5 => decide); (case kB => exact locs rfl); (case c2 => exact rfl); (case c3 => exact rfl); (case c4 => exact rfl); k_whole; intro g' L' h' FG' F' N' B' X' T' lt' hN'; (try dsimp only); (try k_lift B'); (try k_fold))
  k_steps
  all_goals exact drew_end (more := []) hret U hN' (fun q hq => .inl (by rw [List.mem_singleton.mp hq])) (by k_asm) (by k_asm) (by k_asm) (fun q hq q' hq' e => by rw [List.mem_singleton.mp hq] at e ⊢; exact uniq_updF U q' hq' e) ⟨_, _, rfl, getD_bnd (ns := startB) (by decide) (by rw [show List.length startB = 32 from rfl]; omega)⟩
theorem c_oneM (w : World) (mean : ExcName → Option Value) (mg mb : Str → Option Value) (a0 : Addr) (b c : Int) (t1 t2 : Tok) (k : Nat) (news : List (Addr × Obj)) (g : Obj → List (Addr × Obj)) (U : UpdF a0 (W.listOf #[.int b t1, .int c t2] k) news g) :
    Says w mean mg mb 4 201 (fun _ => True) news [.ref a0, .ref 180] (Drew g (IntIn 0 1114113)) := by
  k_with_none
  w_top off
  k_with_none
  k_with "call ref" => ((with_reducible show wpAny _ _ (call (Value.ref 194) _) _ _ _); k_here; (k_dflt (refine' says_use (c_take _ _ _ _ _ _ _ _ _ _ _ _ _ _ ?hypU ?hyp0 ?hyp1) ?k1 ?k2 ?k3 ?k4 ?k5 ?kK ?kd ?ku ?ka ?_; (case k1 => k_asm); (case k2 => k_asm); (case k3 => k_asm); (case k4 => k_asm); (case hypU => (first | (refine' UpdF.head ?_; first | (intro p9 hp9; cases hp9; done) | (intro p9 hp9; (rcases List.mem_singleton.mp hp9 with rfl); (dsimp only); assumption) | k_all) | (refine' UpdF.tail ?ua7 ?ub7; (case ua7 => first | assumption | k_ne); (case ub7 => (first | (refine' UpdF.head ?_; first | (intro p9 hp9; cases hp9; done) | (intro p9 hp9; (rcases List.mem_singleton.mp hp9 with rfl); (dsimp only); assumption) | k_all) | (refine' UpdF.tail ?ua6 ?ub6; (case ua6 => first | assumption | k_ne); (case ub6 => (first | (refine' UpdF.head ?_; first | (intro p9 hp9; cases hp9; done) | (intro p9 hp9; (rcases List.mem_singleton.mp hp9 with rfl); (dsimp only); assumption) | k_all) | (refine' UpdF.tail ?ua5 ?ub5; (case ua5 => first | assumption | k_ne); (case ub5 => (first | (refine' UpdF.head ?_; first | (intro p9 hp9; cases hp9; done) | (intro p9 hp9; (rcases List.mem_singleton.mp hp9 with rfl); (dsimp only); assumption) | k_all) | (refine' UpdF.tail ?ua4 ?ub4; (case ua4 => first | assumption | k_ne); (case ub4 => (first | (refine' UpdF.head ?_; first | (intro p9 hp9; cases hp9; done) | (intro p9 hp9; (rcases List.mem_singleton.mp hp9 with rfl); (dsimp only); assumption) | k_all) | (refine' UpdF.tail ?ua3 ?ub3; (case ua3 => first | assumption | k_ne); (case ub3 => (first | (refine' UpdF.head ?_; first | (intro p9 hp9; cases hp9; done) | (intro p9 hp9; (rcases List.mem_singleton.mp hp9 with rfl); (dsimp only); assumption) | k_all) | (refine' UpdF.tail ?ua2 ?ub2; (case ua2 => first | assumption | k_ne); (case ub2 => (first | (refine' UpdF.head ?_; first | (intro p9 hp9; cases hp9; done) | (intro p9 hp9; (rcases List.mem_singleton.mp hp9 with rfl); (dsimp only); assumption) | k_all) | (refine' UpdF.tail ?ua1 ?ub1; (case ua1 => first | assumption | k_ne); (case ub1 => (first | (refine' UpdF.head ?_; first | (intro p9 hp9; cases hp9; done) | (intro p9 hp9; (rcases List.mem_singleton.mp hp9 with rfl); (dsimp only); assumption) | k_all) | (refine' UpdF.tail ?ua0 ?ub0; (case ua0 => first | assumption | k_ne); (case ub0 => ((refine' UpdF.head ?_; first | (intro p9 hp9; cases hp9; done) | (intro p9 hp9; (rcases List.mem_singleton.mp hp9 with rfl); (dsimp only); assumption) | k_all))))))))))))))))))))))))))); (case k5 => k_asm); (case kK => first | exact rfl | assumption); (case kd => ktr_room); (case ku => ktr_units); (case ka => first | exact True.intro | assumption); (case hyp0 => first | omega | decide | (simp; done) | (simp; omega)); (case hyp1 => first | omega | decide | (simp; done) | (simp; omega)))); intro r9 nw9 h9 tk9 hr9 F9 N9; (obtain ⟨⟨d9, td9, e9, hd9, hd9'⟩, b9, c9, t19, t29, k9, e9'⟩ := hr9; subst e9; subst e9'); (try dsimp only at N9); (try dsimp only); (try k_sweep); (try k_fold))
  have hmem := updF_mem U
  k_with "call builtin:len" => (k_dflt (refine' len_list (lstK (X'.keeps (Fr.keep (by k_asm))) (a := 180) (by k_is)) (by exact Nat.le_of_ble_eq_true rfl) ?_))
  k_with "subscriptTail" => (k_dflt ((with_unfolding_all refine' item_anyK (ns := moreB) (lstK (X'.keeps (Fr.keep (by k_asm))) (a := 180) (by k_is)) (by repeat' constructor) (by assumption) (by show _ < ((List.length moreB : Nat) : Int); rw [show List.length moreB = 10 from rfl]; omega) (by omega) ?_); intro t9))
  unfold Says
  k_fill
  intro dp un gd cn cs a ccd cl outer A₀ base h₀ L m s Q E B F X N T hk hd hu hask hret
  refine wpAny_call ?_
  k_dflt (refine' enter_part (mine := [(a0, (W.listOf #[.int b t1, .int c t2] k))]) ?kM ?k1 ?k2 ?k3 ?k4 ?k5 ?kA ?kF ?kK ?k6 ?k7 ?k8 ?k9 ?kB ?_ ?c2 ?c3 ?c4 ?c5; (case kA => exact rfl); (case kF => exact rfl); (case kK => assumption); (case k1 => k_asm); (case k2 => k_asm); (case k3 => k_asm); (case k4 => k_asm); (case kM => exact fun q hq => (by rcases List.mem_singleton.mp hq with rfl; exact hmem)); (case k5 => k_asm); (case k6 => k_is); (case k7 => k_is); (case k8 => ktr_room); (case k9 => exact BindsTo.of_eq rfl); (case c5 => decide); (case kB => exact locs rfl); (case c2 => exact rfl); (case c3 => exact rfl); (case c4 => exact rfl); k_whole; intro g' L' h' FG' F' N' B' X' T' lt' hN'; (try dsimp only); (try k_lift B'); (try k_fold))
  k_steps
  all_goals exact drew_end (more := []) hret U hN' (fun q hq => .inl (by rw [List.mem_singleton.mp hq])) (by k_asm) (by k_asm) (by k_asm) (fun q hq q' hq' e => by rw [List.mem_singleton.mp hq] at e ⊢; exact uniq_updF U q' hq' e) ⟨_, _, rfl, getD_bnd (ns := moreB) (by decide) (by rw [show List.length moreB = 10 from rfl]; omega)⟩
theorem c_oneT (w : World) (mean : ExcName → Option Value) (mg mb : Str → Option Value) (a0 l : Addr) (b c : Int) (t1 t2 : Tok) (k kl : Nat) (its : Array Value) (ws : List Str) (news : List (Addr × Obj)) (g : Obj → List (Addr × Obj)) (U : UpdF a0 (W.listOf #[.int b t1, .int c t2] k) news g) (hml : (l, W.listOf its kl) ∈ news) (hla : l ≠ a0) (hla' : a0 ≠ l) (hs : StrsAre its.toList ws) (h0 : 0 < ws.length) (h1 : ws.length ≤ 1000) :
    Says w mean mg mb 4 201 (fun _ => True) news [.ref a0, .ref l] (Drew g (fun r => ∃ y t, r = .str y t ∧ y ∈ ws)) := by
  k_with_none
  w_top off
  k_with_none
  k_with "call ref" => ((with_reducible show wpAny _ _ (call (Value.ref 194) _) _ _ _); k_here; (k_dflt (refine' says_use (c_take _ _ _ _ _ _ _ _ _ _ _ _ _ _ ?hypU ?hyp0 ?hyp1) ?k1 ?k2 ?k3 ?k4 ?k5 ?kK ?kd ?ku ?ka ?_; (case k1 => k_asm); (case k2 => k_asm); (case k3 => k_asm); (case k4 => k_asm); (case hypU => (first | (refine' UpdF.head ?_; first | (intro p9 hp9; cases hp9; done) | (intro p9 hp9; (rcases List.mem_singleton.mp hp9 with rfl); (dsimp only); assumption) | k_all) | (refine' UpdF.tail ?ua7 ?ub7; (case ua7 => first | assumption | k_ne); (case ub7 => (first | (refine' UpdF.head ?_; first | (intro p9 hp9; cases hp9; done) | (intro p9 hp9; (rcases List.mem_singleton.mp hp9 with rfl); (dsimp only); assumption) | k_all) | (refine' UpdF.tail ?ua6 ?ub6; (case ua6 => first | assumption | k_ne); (case ub6 => (first | (refine' UpdF.head ?_; first | (intro p9 hp9; cases hp9; done) | (intro p9 hp9; (rcases List.mem_singleton.mp hp9 with rfl); (dsimp only); assumption) | k_all) | (refine' UpdF.tail ?ua5 ?ub5; (case ua5 => first | assumption | k_ne); (case ub5 => (first | (refine' UpdF.head ?_; first | (intro p9 hp9; cases hp9; done) | (intro p9 hp9; (rcases List.mem_singleton.mp hp9 with rfl); (dsimp only); assumption) | k_all) | (refine' UpdF.tail ?ua4 ?ub4; (case ua4 => first | assumption | k_ne); (case ub4 => (first | (refine' UpdF.head ?_; first | (intro p9 hp9; cases hp9; done) | (intro p9 hp9; (rcases List.mem_singleton.mp hp9 with rfl); (dsimp only); assumption) | k_all) | (refine' UpdF.tail ?ua3 ?ub3; (case ua3 => first | assumption | k_ne); (case ub3 => (first | (refine' UpdF.head ?_; first | (intro p9 hp9; cases hp9; done) | (intro p9 hp9; (rcases List.mem_singleton.mp hp9 with rfl); (dsimp only); assumption) | k_all) | (refine' UpdF.tail ?ua2 ?ub2; (case ua2 => first | assumption | k_ne); (case ub2 => (first | (refine' UpdF.head ?_; first | (intro p9 hp9; cases hp9; done) | (intro p9 hp9; (rcases List.mem_singleton.mp hp9 with rfl); (dsimp only); assumption) | k_all) | (refine' UpdF.tail ?ua1 ?ub1; (case ua1 => first | assumption | k_ne); (case ub1 => (first | (refine' UpdF.head ?_; first | (intro p9 hp9; cases hp9; done) | (intro p9 hp9; (rcases List.mem_singleton.mp hp9 with rfl); (dsimp only); assumption) | k_all) | (refine' UpdF.tail ?ua0 ?ub0; (case ua0 => first | assumption | k_ne); (case ub0 => ((refine' UpdF.head ?_; first | (intro p9 hp9; cases hp9; done) | (intro p9 hp9; (rcases List.mem_singleton.mp hp9 with rfl); (dsimp only); assumption) | k_all))))))))))))))))))))))))))); (case k5 => k_asm); (case kK => first | exact rfl | assumption); (case kd => ktr_room); (case ku => ktr_units); (case ka => first | exact True.intro | assumption); (case hyp0 => first | omega | decide | (simp; done) | (simp; omega)); (case hyp1 => first | omega | decide | (simp; done) | (simp; omega)))); intro r9 nw9 h9 tk9 hr9 F9 N9; (obtain ⟨⟨d9, td9, e9, hd9, hd9'⟩, b9, c9, t19, t29, k9, e9'⟩ := hr9; subst e9; subst e9'); (try dsimp only at N9); (try dsimp only); (try k_sweep); (try k_fold))
  have hmem := updF_mem U
  have hz : its.size = ws.length := by simpa using hs.length
  k_with "call builtin:len" => (k_dflt (refine' len_list (News.isList (by k_asm) (by k_mem)) (by omega) ?_))
  k_with "subscriptTail" => (k_dflt ((with_unfolding_all refine' item_strs (News.isList (by k_asm) (by k_mem)) hs (by omega) (by omega) h1 ?_); intro y9 t9 hy9))
  unfold Says
  k_fill
  intro dp un gd cn cs a ccd cl outer A₀ base h₀ L m s Q E B F X N T hk hd hu hask hret
  refine wpAny_call ?_
  k_dflt (refine' enter_part (mine := [(a0, (W.listOf #[.int b t1, .int c t2] k)), (l, W.listOf its kl)]) ?kM ?k1 ?k2 ?k3 ?k4 ?k5 ?kA ?kF ?kK ?k6 ?k7 ?k8 ?k9 ?kB ?_ ?c2 ?c3 ?c4 ?c5; (case kA => exact rfl); (case kF => exact rfl); (case kK => assumption); (case k1 => k_asm); (case k2 => k_asm); (case k3 => k_asm); (case k4 => k_asm); (case kM => exact fun q hq => (by rcases List.mem_cons.mp hq with rfl | hq; exact hmem; rcases List.mem_singleton.mp hq with rfl; exact hml)); (case k5 => k_asm); (case k6 => k_is); (case k7 => k_is); (case k8 => ktr_room); (case k9 => exact BindsTo.of_eq rfl); (case c5 => decide); (case kB => exact locs rfl); (case c2 => exact rfl); (case c3 => exact rfl); (case c4 => exact rfl); k_whole; intro g' L' h' FG' F' N' B' X' T' lt' hN'; (try dsimp only); (try k_lift B'); (try k_fold))
  k_steps
  all_goals exact drew_end (more := [(l, W.listOf its kl)]) hret U hN' (fun q hq => by rcases List.mem_cons.mp hq with rfl | hq; exact .inl rfl; exact .inr hq) (by k_asm) (by k_asm) (by k_asm) (fun q hq q' hq' e => by
    rcases List.mem_cons.mp hq with rfl | hq
    · exact uniq_updF U q' hq' e
    · rw [List.mem_singleton.mp hq] at e ⊢
      have h1 := (N _ hml).1
      have h2 := (N _ hq').1
      obtain ⟨b', o'⟩ := q'
      obtain rfl : l = b' := e
      rw [h1] at h2
      cases h2; rfl) ⟨_, _, rfl, by assumption⟩

theorem four9 {d : Int} (h0 : 0 ≤ d) (h1 : d < 4) : d = 0 ∨ d = 1 ∨ d = 2 ∨ d = 3 := by omega
theorem c_code (w : World) (mean : ExcName → Option Value) (mg mb : Str → Option Value) (a0 : Addr) (b c : Int) (t1 t2 : Tok) (k : Nat) (news : List (Addr × Obj)) (g : Obj → List (Addr × Obj)) (U : UpdF a0 (W.listOf #[.int b t1, .int c t2] k) news g) :
    Says w mean mg mb 6 227 (fun _ => True) news [.ref a0] (Drew g (IntIn 0 1114112)) := by
  k_with_none
  w_top off
  k_with_none
  k_with "call ref" => ((with_reducible show wpAny _ _ (call (Value.ref 194) _) _ _ _); k_here; (k_dflt (refine' says_use (c_take _ _ _ _ _ _ _ _ _ _ _ _ _ _ ?hypU ?hyp0 ?hyp1) ?k1 ?k2 ?k3 ?k4 ?k5 ?kK ?kd ?ku ?ka ?_; (case k1 => k_asm); (case k2 => k_asm); (case k3 => k_asm); (case k4 => k_asm); (case hypU => (first | (refine' UpdF.head ?_; first | (intro p9 hp9; cases hp9; done) | (intro p9 hp9; (rcases List.mem_singleton.mp hp9 with rfl); (dsimp only); assumption) | k_all) | (refine' UpdF.tail ?ua7 ?ub7; (case ua7 => first | assumption | k_ne); (case ub7 => (first | (refine' UpdF.head ?_; first | (intro p9 hp9; cases hp9; done) | (intro p9 hp9; (rcases List.mem_singleton.mp hp9 with rfl); (dsimp only); assumption) | k_all) | (refine' UpdF.tail ?ua6 ?ub6; (case ua6 => first | assumption | k_ne); (case ub6 => (first | (refine' UpdF.head ?_; first | (intro p9 hp9; cases hp9; done) | (intro p9 hp9; (rcases List.mem_singleton.mp hp9 with rfl); (dsimp only); assumption) | k_all) | (refine' UpdF.tail ?ua5 ?ub5; (case ua5 => first | assumption | k_ne); (case ub5 => (first | (refine' UpdF.head ?_; first | (intro p9 hp9; cases hp9; done) | (intro p9 hp9; (rcases List.mem_singleton.mp hp9 with rfl); (dsimp only); assumption) | k_all) | (refine' UpdF.tail ?ua4 ?ub4; (case ua4 => first | assumption | k_ne); (case ub4 => (first | (refine' UpdF.head ?_; first | (intro p9 hp9; cases hp9; done) | (intro p9 hp9; (rcases List.mem_singleton.mp hp9 with rfl); (dsimp only); assumption) | k_all) | (refine' UpdF.tail ?ua3 ?ub3; (case ua3 => first | assumption | k_ne); (case ub3 => (first | (refine' UpdF.head ?_; first | (intro p9 hp9; cases hp9; done) | (intro p9 hp9; (rcases List.mem_singleton.mp hp9 with rfl); (dsimp only); assumption) | k_all) | (refine' UpdF.tail ?ua2 ?ub2; (case ua2 => first | assumption | k_ne); (case ub2 => (first | (refine' UpdF.head ?_; first | (intro p9 hp9; cases hp9; done) | (intro p9 hp9; (rcases List.mem_singleton.mp hp9 with rfl); (dsimp only); assumption) | k_all) | (refine' UpdF.tail ?ua1 ?ub1; (case ua1 => first | assumption | k_ne); (case ub1 => (first | (refine' UpdF.head ?_; first | (intro p9 hp9; cases hp9; done) | (intro p9 hp9; (rcases List.mem_singleton.mp hp9 with rfl); (dsimp only); assumption) | k_all) | (refine' UpdF.tail ?ua0 ?ub0; (case ua0 => first | assumption | k_ne); (case ub0 => ((refine' UpdF.head ?_; first | (intro p9 hp9; cases hp9; done) | (intro p9 hp9; (rcases List.mem_singleton.mp hp9 with rfl); (dsimp only); assumption) | k_all))))))))))))))))))))))))))); (case k5 => k_asm); (case kK => first | exact rfl | assumption); (case kd => ktr_room); (case ku => ktr_units); (case ka => first | exact True.intro | assumption); (case hyp0 => first | omega | decide | (simp; done) | (simp; omega)); (case hyp1 => first | omega | decide | (simp; done) | (simp; omega)))); intro r9 nw9 h9 tk9 hr9 F9 N9; (obtain ⟨⟨d9, td9, e9, hd9, hd9'⟩, b9, c9, t19, t29, k9, e9'⟩ := hr9; subst e9; subst e9'); (try dsimp only at N9); (try dsimp only); (try k_sweep); (try k_fold))
  k_with "call ref" => ((with_reducible show wpAny _ _ (call (Value.ref 201) [_, Value.ref 178]) _ _ _); k_here; (k_dflt (refine' says_use (c_oneC _ _ _ _ _ _ _ _ _ _ _ _ ?hypU ) ?k1 ?k2 ?k3 ?k4 ?k5 ?kK ?kd ?ku ?ka ?_; (case k1 => k_asm); (case k2 => k_asm); (case k3 => k_asm); (case k4 => k_asm); (case hypU => (first | (refine' UpdF.head ?_; first | (intro p9 hp9; cases hp9; done) | (intro p9 hp9; (rcases List.mem_singleton.mp hp9 with rfl); (dsimp only); assumption) | k_all) | (refine' UpdF.tail ?ua7 ?ub7; (case ua7 => first | assumption | k_ne); (case ub7 => (first | (refine' UpdF.head ?_; first | (intro p9 hp9; cases hp9; done) | (intro p9 hp9; (rcases List.mem_singleton.mp hp9 with rfl); (dsimp only); assumption) | k_all) | (refine' UpdF.tail ?ua6 ?ub6; (case ua6 => first | assumption | k_ne); (case ub6 => (first | (refine' UpdF.head ?_; first | (intro p9 hp9; cases hp9; done) | (intro p9 hp9; (rcases List.mem_singleton.mp hp9 with rfl); (dsimp only); assumption) | k_all) | (refine' UpdF.tail ?ua5 ?ub5; (case ua5 => first | assumption | k_ne); (case ub5 => (first | (refine' UpdF.head ?_; first | (intro p9 hp9; cases hp9; done) | (intro p9 hp9; (rcases List.mem_singleton.mp hp9 with rfl); (dsimp only); assumption) | k_all) | (refine' UpdF.tail ?ua4 ?ub4; (case ua4 => first | assumption | k_ne); (case ub4 => (first | (refine' UpdF.head ?_; first | (intro p9 hp9; cases hp9; done) | (intro p9 hp9; (rcases List.mem_singleton.mp hp9 with rfl); (dsimp only); assumption) | k_all) | (refine' UpdF.tail ?ua3 ?ub3; (case ua3 => first | assumption | k_ne); (case ub3 => (first | (refine' UpdF.head ?_; first | (intro p9 hp9; cases hp9; done) | (intro p9 hp9; (rcases List.mem_singleton.mp hp9 with rfl); (dsimp only); assumption) | k_all) | (refine' UpdF.tail ?ua2 ?ub2; (case ua2 => first | assumption | k_ne); (case ub2 => (first | (refine' UpdF.head ?_; first | (intro p9 hp9; cases hp9; done) | (intro p9 hp9; (rcases List.mem_singleton.mp hp9 with rfl); (dsimp only); assumption) | k_all) | (refine' UpdF.tail ?ua1 ?ub1; (case ua1 => first | assumption | k_ne); (case ub1 => (first | (refine' UpdF.head ?_; first | (intro p9 hp9; cases hp9; done) | (intro p9 hp9; (rcases List.mem_singleton.mp hp9 with rfl); (dsimp only); assumption) | k_all) | (refine' UpdF.tail ?ua0 ?ub0; (case ua0 => first | assumption | k_ne); (case ub0 => ((refine' UpdF.head ?_; first | (intro p9 hp9; cases hp9; done) | (intro p9 hp9; (rcases List.mem_singleton.mp hp9 with rfl); (dsimp only); assumption) | k_all))))))))))))))))))))))))))); (case k5 => k_asm); (case kK => first | exact rfl | assumption); (case kd => ktr_room); (case ku => ktr_units); (case ka => first | exact True.intro | assumption))); intro r9 nw9 h9 tk9 hr9 F9 N9; (obtain ⟨⟨d9, td9, e9, hd9, hd9'⟩, b9, c9, t19, t29, k9, e9'⟩ := hr9; subst e9; subst e9'); (try dsimp only at N9); (try dsimp only); (try k_sweep); (try k_fold))
  k_with "call ref" => ((with_reducible show wpAny _ _ (call (Value.ref 201) [_, Value.ref 179]) _ _ _); k_here; (k_dflt (refine' says_use (c_oneS _ _ _ _ _ _ _ _ _ _ _ _ ?hypU ) ?k1 ?k2 ?k3 ?k4 ?k5 ?kK ?kd ?ku ?ka ?_; (case k1 => k_asm); (case k2 => k_asm); (case k3 => k_asm); (case k4 => k_asm); (case hypU => (first | (refine' UpdF.head ?_; first | (intro p9 hp9; cases hp9; done) | (intro p9 hp9; (rcases List.mem_singleton.mp hp9 with rfl); (dsimp only); assumption) | k_all) | (refine' UpdF.tail ?ua7 ?ub7; (case ua7 => first | assumption | k_ne); (case ub7 => (first | (refine' UpdF.head ?_; first | (intro p9 hp9; cases hp9; done) | (intro p9 hp9; (rcases List.mem_singleton.mp hp9 with rfl); (dsimp only); assumption) | k_all) | (refine' UpdF.tail ?ua6 ?ub6; (case ua6 => first | assumption | k_ne); (case ub6 => (first | (refine' UpdF.head ?_; first | (intro p9 hp9; cases hp9; done) | (intro p9 hp9; (rcases List.mem_singleton.mp hp9 with rfl); (dsimp only); assumption) | k_all) | (refine' UpdF.tail ?ua5 ?ub5; (case ua5 => first | assumption | k_ne); (case ub5 => (first | (refine' UpdF.head ?_; first | (intro p9 hp9; cases hp9; done) | (intro p9 hp9; (rcases List.mem_singleton.mp hp9 with rfl); (dsimp only); assumption) | k_all) | (refine' UpdF.tail ?ua4 ?ub4; (case ua4 => first | assumption | k_ne); (case ub4 => (first | (refine' UpdF.head ?_; first | (intro p9 hp9; cases hp9; done) | (intro p9 hp9; (rcases List.mem_singleton.mp hp9 with rfl); (dsimp only); assumption) | k_all) | (refine' UpdF.tail ?ua3 ?ub3; (case ua3 => first | assumption | k_ne); (case ub3 => (first | (refine' UpdF.head ?_; first | (intro p9 hp9; cases hp9; done) | (intro p9 hp9; (rcases List.mem_singleton.mp hp9 with rfl); (dsimp only); assumption) | k_all) | (refine' UpdF.tail ?ua2 ?ub2; (case ua2 => first | assumption | k_ne); (case ub2 => (first | (refine' UpdF.head ?_; first | (intro p9 hp9; cases hp9; done) | (intro p9 hp9; (rcases List.mem_singleton.mp hp9 with rfl); (dsimp only); assumption) | k_all) | (refine' UpdF.tail ?ua1 ?ub1; (case ua1 => first | assumption | k_ne); (case ub1 => (first | (refine' UpdF.head ?_; first | (intro p9 hp9; cases hp9; done) | (intro p9 hp9; (rcases List.mem_singleton.mp hp9 with rfl); (dsimp only); assumption) | k_all) | (refine' UpdF.tail ?ua0 ?ub0; (case ua0 => first | assumption | k_ne); (case ub0 => ((refine' UpdF.head ?_; first | (intro p9 hp9; cases hp9; done) | (intro p9 hp9; (rcases List.mem_singleton.mp hp9 with rfl); (dsimp only); assumption) | k_all))))))))))))))))))))))))))); (case k5 => k_asm); (case kK => first | exact rfl | assumption); (case kd => ktr_room); (case ku => ktr_units); (case ka => first | exact True.intro | assumption))); intro r9 nw9 h9 tk9 hr9 F9 N9; (obtain ⟨⟨d9, td9, e9, hd9, hd9'⟩, b9, c9, t19, t29, k9, e9'⟩ := hr9; subst e9; subst e9'); (try dsimp only at N9); (try dsimp only); (try k_sweep); (try k_fold))
  k_with "call ref" => ((with_reducible show wpAny _ _ (call (Value.ref 201) [_, Value.ref 180]) _ _ _); k_here; (k_dflt (refine' says_use (c_oneM _ _ _ _ _ _ _ _ _ _ _ _ ?hypU ) ?k1 ?k2 ?k3 ?k4 ?k5 ?kK ?kd ?ku ?ka ?_; (case k1 => k_asm); (case k2 => k_asm); (case k3 => k_asm); (case k4 => k_asm); (case hypU => (first | (refine' UpdF.head ?_; first | (intro p9 hp9; cases hp9; done) | (intro p9 hp9; (rcases List.mem_singleton.mp hp9 with rfl); (dsimp only); assumption) | k_all) | (refine' UpdF.tail ?ua7 ?ub7; (case ua7 => first | assumption | k_ne); (case ub7 => (first | (refine' UpdF.head ?_; first | (intro p9 hp9; cases hp9; done) | (intro p9 hp9; (rcases List.mem_singleton.mp hp9 with rfl); (dsimp only); assumption) | k_all) | (refine' UpdF.tail ?ua6 ?ub6; (case ua6 => first | assumption | k_ne); (case ub6 => (first | (refine' UpdF.head ?_; first | (intro p9 hp9; cases hp9; done) | (intro p9 hp9; (rcases List.mem_singleton.mp hp9 with rfl); (dsimp only); assumption) | k_all) | (refine' UpdF.tail ?ua5 ?ub5; (case ua5 => first | assumption | k_ne); (case ub5 => (first | (refine' UpdF.head ?_; first | (intro p9 hp9; cases hp9; done) | (intro p9 hp9; (rcases List.mem_singleton.mp hp9 with rfl); (dsimp only); assumption) | k_all) | (refine' UpdF.tail ?ua4 ?ub4; (case ua4 => first | assumption | k_ne); (case ub4 => (first | (refine' UpdF.head ?_; first | (intro p9 hp9; cases hp9; done) | (intro p9 hp9; (rcases List.mem_singleton.mp hp9 with rfl); (dsimp only); assumption) | k_all) | (refine' UpdF.tail ?ua3 ?ub3; (case ua3 => first | assumption | k_ne); (case ub3 => (first | (refine' UpdF.head ?_; first | (intro p9 hp9; cases hp9; done) | (intro p9 hp9; (rcases List.mem_singleton.mp hp9 with rfl); (dsimp only); assumption) | k_all) | (refine' UpdF.tail ?ua2 ?ub2; (case ua2 => first | assumption | k_ne); (case ub2 => (first | (refine' UpdF.head ?_; first | (intro p9 hp9; cases hp9; done) | (intro p9 hp9; (rcases List.mem_singleton.mp hp9 with rfl); (dsimp only); assumption) | k_all) | (refine' UpdF.tail ?ua1 ?ub1; (case ua1 => first | assumption | k_ne); (case ub1 => (first | (refine' UpdF.head ?_; first | (intro p9 hp9; cases hp9; done) | (intro p9 hp9; (rcases List.mem_singleton.mp hp9 with rfl); (dsimp only); assumption) | k_all) | (refine' UpdF.tail ?ua0 ?ub0; (case ua0 => first | assumption | k_ne); (case ub0 => ((refine' UpdF.head ?_; first | (intro p9 hp9; cases hp9; done) | (intro p9 hp9; (rcases List.mem_singleton.mp hp9 with rfl); (dsimp only); assumption) | k_all))))))))))))))))))))))))))); (case k5 => k_asm); (case kK => first | exact rfl | assumption); (case kd => ktr_room); (case ku => ktr_units); (case ka => first | exact True.intro | assumption))); intro r9 nw9 h9 tk9 hr9 F9 N9; (obtain ⟨⟨d9, td9, e9, hd9, hd9'⟩, b9, c9, t19, t29, k9, e9'⟩ := hr9; subst e9; subst e9'); (try dsimp only at N9); (try dsimp only); (try k_sweep); (try k_fold))
  have hmem := updF_mem U
  unfold Says
  k_fill
  intro dp un gd cn cs a ccd cl outer A₀ base h₀ L m s Q E B F X N T hk hd hu hask hret
  refine wpAny_call ?_
  k_dflt (refine' enter_part (mine := [(a0, (W.listOf #[.int b t1, .int c t2] k))]) ?kM ?k1 ?k2 ?k3 ?k4 ?k5 ?kA ?kF ?kK ?k6 ?k7 ?k8 ?k9 ?kB ?_ ?c2 ?c3 ?c4 ?c5; (case kA => exact rfl); (case kF => exact rfl); (case kK => assumption); (case k1 => k_asm); (case k2 => k_asm); (case k3 => k_asm); (case k4 => k_asm); (case kM => exact fun q hq => (by rcases List.mem_singleton.mp hq with rfl; exact hmem)); (case k5 => k_asm); (case k6 => k_is); (case k7 => k_is); (case k8 => ktr_room); (case k9 => exact BindsTo.of_eq rfl); (case c5 => decide); (case kB => exact locs rfl); (case c2 => exact rfl); (case c3 => exact rfl); (case c4 => exact rfl); k_whole; intro g' L' h' FG' F' N' B' X' T' lt' hN'; (try dsimp only); (try k_lift B'); (try k_fold))
  k_steps
  all_goals exact drew_end (more := []) hret U hN' (fun q hq => .inl (by rw [List.mem_singleton.mp hq])) (by k_asm) (by k_asm) (by first | k_asm | (rename News h₀ L _ [_, _] => kN8; exact fun q hq => kN8 q (List.mem_cons_of_mem _ hq))) (fun q hq q' hq' e => by rw [List.mem_singleton.mp hq] at e ⊢; exact uniq_updF U q' hq' e) ⟨_, _, rfl, by (repeat' split) <;> omega, by (repeat' split) <;> omega⟩

def MadePool (news : List (Addr × Obj)) (news' : List (Addr × Obj)) (r : Value) : Prop :=
  ∃ l b c t1 t2, r = .ref l ∧ news' = (l, W.listOf #[.int b t1, .int c t2] 0) :: news ∧ ∀ p ∈ news, @Ne Nat p.1 l
theorem ret_pool {h₀ g h' : Heap} {L L' l : Addr} {m m' : Str → Option Value} {news all all' : List (Addr × Obj)} {s : Shared} {Q : Value → Shared → Prop} {tk' : Nat} {b c : Int} {t1 t2 : Tok}
    (hret : ∀ (r : Value) (news' : List (Addr × Obj)) (h' : Heap) (tk' : Nat), MadePool news news' r → Fr h₀ L h' m → News h₀ L h' news' → Q r { s with heap := h', toks := tk' })
    (hN : ∀ h' : Heap, (∀ b o, g.get? b = some o → h'.get? b = some o) → News h₀ L h' news)
    (F : Fr g L' h' m') (N : News g L' h' all) (hm : (l, W.listOf #[.int b t1, .int c t2] 0) ∈ all) (kF : Fr h₀ L h' m) (kN : News h₀ L h' all') (hm' : (l, W.listOf #[.int b t1, .int c t2] 0) ∈ all') : Q (.ref l) { s with heap := h', toks := tk' } :=
  have q := made_one hN F N hm kN hm'
  hret _ _ h' tk' ⟨l, b, c, t1, t2, rfl, rfl, q.2⟩ kF q.1
theorem c_pool (w : World) (mean : ExcName → Option Value) (mg mb : Str → Option Value) (l : Addr) (vs : List Value) (ns : List Int) (kk : Int) (t : Tok) (news : List (Addr × Obj)) (hi : IntsAre vs ns) (hz : ns.length ≤ 63) (k0 : 0 ≤ kk) (k1 : kk ≤ 5) :
    Says w mean mg mb 2 187 (fun base => base.IsList l vs.toArray) news [.ref l, .int kk t] (MadePool news) := by
  k_with_none
  w_top off
  k_with_none
  k_with "call builtin:len" => (k_dflt (refine' len_intsA (hask.at fun o e => Fr.keep (by k_asm) _ _ (B'.stays _ _ e)) hi (by omega) ?_))
  k_with "subscriptTail" => (k_dflt ((with_unfolding_all refine' item_anyK (hask.at fun o e => Fr.keep (by k_asm) _ _ (B'.stays _ _ e)) hi (by omega) (by omega) (by omega) ?_); intro t9))
  unfold Says
  k_fill
  intro dp un gd cn cs a ccd cl outer A₀ base h₀ L m s Q E B F X N T hk hd hu hask hret
  refine wpAny_call ?_
  k_dflt (refine' enter_pure ?k1 ?k2 ?k3 ?k4 ?k5 ?kA ?kF ?kK ?k6 ?k7 ?k8 ?k9 ?kB ?_ ?c2 ?c3 ?c4 ?c5; (case kA => exact rfl); (case kF => exact rfl); (case kK => assumption); (case k1 => k_asm); (case k2 => k_asm); (case k3 => k_asm); (case k4 => k_asm); (case k5 => k_asm); (case k6 => k_is); (case k7 => k_is); (case k8 => ktr_room); (case k9 => exact BindsTo.of_eq rfl); (case c5 => decide); (case kB => exact locs rfl); (case c2 => exact rfl); (case c3 => exact rfl); (case c4 => exact rfl); k_whole; intro g' L' h' FG' F' N' B' X' T' lt' hN'; (try dsimp only); (try k_lift B'); (try k_fold))
  k_steps
  all_goals exact ret_pool hret hN' (by k_asm) (by k_asm) (by k_mem) (by k_asm) (by k_asm) (by k_mem)
section
open PyProof.Rows.LCg PyProof.Rows.LCt
section
variable {prog : Program} {w : World} {A : Around} {E : Value → Shared → Prop} {s : Shared} {h₀ : Heap} {L : Addr} {m : Str → Option Value} {env : Env}
/-- what one turn over the places and signs of a text has to show -/
def EnumTurn (prog : Program) (w : World) (A : Around) (h₀ : Heap) (L : Addr) (m : Str → Option Value) (env : Env) (c elt : PySem.Expr) (a b : Str) (scope : Scope) (cl : List (Str × Addr)) (s : Shared) (xt : Str) (p : Nat → Bool) (news : List (Addr × Obj)) : Prop :=
  ∀ (i : Nat) (d : Nat) t u I oI it oit C oC D m₂ ys h tk (E' : Value → Shared → Prop), xt.cps.toList[i]? = some d → NsObj oC m₂ → m₂ a = some (.int (i : Int) t) → m₂ b = some (.str ⟨#[d]⟩ u) → Fr h₀ L h m → News h₀ L h ((I, oI) :: (C, oC) :: (D, lst ys) :: (it, oit) :: news) → Off3 I C D ((it, oit) :: news) → ((@Ne Nat I C) ∧ (@Ne Nat I D) ∧ (@Ne Nat C D)) → (∀ q ∈ news, @Ne Nat q.1 it) →
      wpAny (model prog w) A (isTrue c (compEnvC scope cl C env) (eval c (compEnvC scope cl C env))) (fun okb s₃ => if okb = true then
        wpAny (model prog w) A (eval elt (compEnvC scope cl C env)) (CompEnd h₀ L m { s with heap := h, toks := tk } I oI C oC D (lst ys) (fun _ => True) (fun y nw' => nw' = (it, oit) :: news ∧ p d = true ∧ ∃ t, y = .int (i : Int) t)) E' s₃
        else CompEnd h₀ L m { s with heap := h, toks := tk } I oI C oC D (lst ys) (fun _ => True) (fun _ nw' => nw' = (it, oit) :: news ∧ p d = false) .none s₃) E' { s with heap := h, toks := tk }
def PlacesAre (ys : List Value) (l : List Nat) (p : Nat → Bool) : Prop := IntsAre ys ((l.zipIdx.filter fun q => p q.1).map fun q => (q.2 : Int))
theorem places_snoc {ys : List Value} {l : List Nat} {p : Nat → Bool} {i d : Nat} (hd : l[i]? = some d) (h : PlacesAre ys (l.take i) p) :
    (p d = true → ∀ t, PlacesAre (ys ++ [.int (i : Int) t]) (l.take (i + 1)) p) ∧ (p d = false → PlacesAre ys (l.take (i + 1)) p) := by
  have hi : i < l.length := (List.getElem?_eq_some_iff.mp hd).1
  have e : (l.take (i + 1)).zipIdx = (l.take i).zipIdx ++ [(d, i)] := by
    rw [List.take_add_one, hd, Option.toList_some, List.zipIdx_append]
    simp [Nat.min_eq_left (Nat.le_of_lt hi)]
  unfold PlacesAre at *
  rw [e, List.filter_append, List.map_append]
  constructor
  · intro hp t
    rw [List.filter_cons_of_pos (by exact hp)]
    exact IntsAre.append h (.cons _ _ .nil)
  · intro hp
    rw [List.filter_cons_of_neg (by simp [hp])]
    simpa using h
theorem enum_block {elt iter c : PySem.Expr} {a b : Str} {pa pb tp : Pos} {kk : Nat} {scope : Scope} {cl : List (Str × Addr)} {pos : Pos} {s₂ : Shared} {I it : Addr} {xt : Str} {news : List (Addr × Obj)} {p : Nat → Bool} {St : Nat → Heap → Prop}
    {RR : Value → Addr → Result → Shared → Prop}
    (hh : A.handled = none) (Dr : Draws prog w A.in1 it [it] xt.cps.size (fun i v => ∃ c u, xt.cps[i]? = some c ∧ v = .str ⟨#[c]⟩ u) St) (hne : I ≠ it) (hsz : xt.cps.size ≤ sizeLine)
    (he : IsEnum s₂.heap I it 0 .none) (hst : St 0 s₂.heap)
    (hcell : ∀ y ∈ scope.names, y.2 ≠ .cell) (hkind : scope.kind = .function) (hxa : scope.names.lookup a = some .local) (hxb : scope.names.lookup b = some .local) (hab : ¬ a = b)
    (F : Fr h₀ L s₂.heap m) (N : News h₀ L s₂.heap news) (hIL : L ≠ I) (hI₀ : h₀.get? I = none) (hTL : L ≠ it) (hT₀ : h₀.get? it = none) (off : ∀ q ∈ news, q.1 ≠ I) (offt : ∀ q ∈ news, q.1 ≠ it)
    (turn : EnumTurn prog w A h₀ L m env c elt a b scope cl s₂ xt p news)
    (hRR : ∀ D C h tk m' ys, Fr h₀ L h m → News h₀ L h ((D, lst ys) :: news) → Off1 D news → h.Ns C m' → h₀.get? C = none → h₀.get? D = none → C ≠ L → D ≠ L → C ≠ D → (∀ q ∈ news, q.1 ≠ C) → PlacesAre ys xt.cps.toList p → RR (.ref D) C (.ok .next) { s₂ with heap := h, toks := tk }) :
    wpAny (model prog w) A (newList []) (fun acc s₃ => wpAny (model prog w) A (newFunctionEnv scope env.globals cl [] env.qual none .none (some env)) (fun cenv s₄ =>
      codeAny (model prog w) A (.compStart (.ListComp elt [⟨.Tuple [.Name a pa, .Name b pb] kk tp, iter, [c], 0⟩] scope pos) 0 (.ref I) acc { cenv with scope := relabel scope env }) (RR acc cenv.locals) s₄) E s₃) E s₂ := by
  refine wpAny_newObj_type (wpAny_newFunctionEnv hcell (by intro y hy; simp at hy) (fun h₁ hns₁ hsb₁ => ?_) hkind)
  dsimp only at hns₁ hsb₁ ⊢
  generalize hH2 : s₂.heap.push { cls := .type "list", dict := none, data := .seq ([] : List Value).toArray } = H2 at hns₁ hsb₁ ⊢
  have hC : H2.objs.size = s₂.heap.objs.size + 1 := by rw [← hH2, Heap.size_push]
  have hDC : s₂.heap.objs.size ≠ H2.objs.size := by rw [hC]; exact Nat.ne_of_lt (Nat.lt_succ_self _)
  have below : ∀ b, b < s₂.heap.objs.size → b ≠ H2.objs.size ∧ b ≠ s₂.heap.objs.size := fun b hb => ⟨by rw [hC]; exact Nat.ne_of_lt (Nat.lt_succ_of_lt hb), Nat.ne_of_lt hb⟩
  have hIlt : I < s₂.heap.objs.size := Heap.lt_size he
  have hTlt : it < s₂.heap.objs.size := by obtain ⟨o, x⟩ := Dr.live _ _ hst; exact Heap.lt_size x
  have old : ∀ b o, s₂.heap.get? b = some o → h₁.get? b = some o := fun b o e => hsb₁.extBut b o (below b (Heap.lt_size e)).1 (Heap.get?_push_of_some _ (hH2 ▸ Heap.get?_push_of_some _ e))
  have hacc : h₁.get? s₂.heap.objs.size = some (lst []) := hsb₁.extBut _ _ hDC (Heap.get?_push_of_some _ (hH2 ▸ Heap.get?_push_size _ rfl))
  have W := (WalksT.enumerateD Dr I hne (by simpa using hne) (List.mem_singleton.mpr rfl)).toU
  have hst₁ : (∃ old, IsEnum h₁ I it ((0 : Nat) : Int) old) ∧ St 0 h₁ := ⟨⟨_, old _ _ he⟩, Dr.frame _ _ _ hst fun b _ o e => old b o e⟩
  have fresh : ∀ a, s₂.heap.objs.size ≤ a → s₂.heap.get? a = none := fun a ha => by
    cases e : s₂.heap.get? a with
    | none => rfl
    | some o' => exact absurd (Heap.lt_size e) (Nat.not_lt.mpr ha)
  have fresh₀ : ∀ a, s₂.heap.objs.size ≤ a → h₀.get? a = none := fun a ha => by
    cases e : h₀.get? a with
    | none => rfl
    | some o' => have := F.keep a o' e; rw [fresh a ha] at this; cases this
  have hD₀ : h₀.get? s₂.heap.objs.size = none := fresh₀ _ (Nat.le_refl _)
  have hC₀ : h₀.get? H2.objs.size = none := fresh₀ _ (by rw [hC]; exact Nat.le_succ _)
  have hLlt : L < s₂.heap.objs.size := F.ns.lt
  have hDL : s₂.heap.objs.size ≠ L := Ne.symm (below L hLlt).2
  have hCL : H2.objs.size ≠ L := Ne.symm (below L hLlt).1
  have hCI : I ≠ H2.objs.size := (below I hIlt).1
  have hDI : I ≠ s₂.heap.objs.size := (below I hIlt).2
  have hCT : it ≠ H2.objs.size := (below it hTlt).1
  have hDT : it ≠ s₂.heap.objs.size := (below it hTlt).2
  have offC : ∀ q ∈ news, q.1 ≠ H2.objs.size ∧ q.1 ≠ s₂.heap.objs.size := fun q hq => below _ (Heap.lt_size (N q hq).1)
  have hwr : ∀ c : Addr, c ≠ I → c ≠ it → c ∉ [I, it] := fun c h1 h2 hm => by
    rcases List.mem_cons.mp hm with e | hm
    · exact h1 e
    · exact h2 (List.mem_singleton.mp hm)
  have loop : ∀ s₃ : Shared, s₃ = { s₂ with heap := h₁, toks := s₂.toks + ([] : List (Str × Value)).length } →
      codeAny (model prog w) A (.compLoop (.ListComp elt [⟨.Tuple [.Name a pa, .Name b pb] kk tp, iter, [c], 0⟩] scope pos) 0 (.ref I) (.ref s₂.heap.objs.size) (compEnvC scope cl H2.objs.size env))
        (RR (.ref s₂.heap.objs.size) H2.objs.size) s₃ := by
    rintro s₃ rfl
    refine kct_loop
      (fun k s' => ∃ h' tk i ys m', s' = { s₂ with heap := h', toks := tk } ∧ i ≤ xt.cps.size ∧ k = xt.cps.size + 1 - i ∧ ys.length ≤ i ∧ ((∃ old, IsEnum h' I it ((i : Nat) : Int) old) ∧ St i h') ∧ Fr h₀ L h' m ∧ h'.Ns H2.objs.size m' ∧
        News h₀ L h' ((s₂.heap.objs.size, lst ys) :: news) ∧ PlacesAre ys (xt.cps.toList.take i) p) ?_ (xt.cps.size + 1)
      ⟨h₁, _, 0, [], _, rfl, Nat.zero_le _, rfl, Nat.le_refl _, hst₁, F.keeps old, hns₁, fun q hq => ?_, .nil⟩
    · rintro k s' ⟨h', tk, i, ys, m', rfl, hi, rfl, hyl, hst', F', hn', N', hP'⟩
      by_cases hlt : i < xt.cps.size
      · refine W.item i _ _ _ hlt hst' fun T vals h₂ tk₂ hPt hT hMd hk₂ => ?_
        refine W.go _ _ _ i T _ _ _ hMd fun h₃ hst₃ hk₃ => ?_
        obtain ⟨t, x, ⟨d, u, hd, rfl⟩, rfl⟩ := hPt
        have hd' : xt.cps.toList[i]? = some d := by simpa using hd
        have hTap := W.apart _ _ _ hMd
        have hT₃ : h₃.IsTuple T #[.int i t, .str ⟨#[d]⟩ u] := hT.at fun o e => hk₃ T o hTap e
        have up₃ : ∀ c o, c ≠ I → c ≠ it → h'.get? c = some o → h₃.get? c = some o := fun c o h1 h2 e => hk₃ c o (hwr c h1 h2) (hk₂ c o (hwr c h1 h2) e)
        refine kcp_assign (env := compEnvC scope cl H2.objs.size env) hh hT₃ (lookup_relabel_local hxa) (lookup_relabel_local hxb) (by simp [compEnvC, relabel, hkind]) (hn'.at' fun o e => up₃ _ o (Ne.symm hCI) (Ne.symm hCT) e) fun h₄ tk₄ hn₄ hs₄ => ?_
        have up : ∀ c o, c ≠ I → c ≠ it → c ≠ H2.objs.size → h'.get? c = some o → h₄.get? c = some o := fun c o h1 h2 h3 e => hs₄ c o h3 (up₃ c o h1 h2 e)
        obtain ⟨⟨old', hE₃⟩, hS₃⟩ := hst₃
        obtain ⟨oT, heT⟩ := Dr.live _ _ hS₃
        have heT₄ := hs₄ it _ hCT heT
        have hS₄ : St (i + 1) h₄ := Dr.frame _ _ _ hS₃ fun b hb o e => by
          rw [List.mem_singleton.mp hb] at e ⊢
          exact hs₄ it o hCT e
        obtain ⟨oI, heI, hoI⟩ : ∃ oI : Obj, h₄.get? I = some oI ∧ ∀ h : Heap, h.get? I = some oI → ∃ old, IsEnum h I it (((i + 1 : Nat) : Int)) old := ⟨_, hs₄ I _ hCI hE₃, fun _ e => ⟨_, e⟩⟩
        obtain ⟨oC, heC, hoC⟩ := ns_obj hn₄
        have F₄ : Fr h₀ L h₄ m := ⟨F'.ns.at' fun o e => up _ o hIL hTL (Ne.symm hCL) e, fun c o e => up c o (fun q => by rw [q, hI₀] at e; cases e) (fun q => by rw [q, hT₀] at e; cases e) (fun q => by rw [q, hC₀] at e; cases e) (F'.keep c o e), F'.above⟩
        have N₄ : News h₀ L h₄ ((I, oI) :: (H2.objs.size, oC) :: (s₂.heap.objs.size, lst ys) :: (it, oT) :: news) := fun q hq => by
          rcases List.mem_cons.mp hq with rfl | hq
          · exact ⟨heI, Ne.symm hIL, hI₀⟩
          · rcases List.mem_cons.mp hq with rfl | hq
            · exact ⟨heC, hCL, hC₀⟩
            · rcases List.mem_cons.mp hq with rfl | hq
              · exact ⟨up _ _ (Ne.symm hDI) (Ne.symm hDT) hDC (N' _ List.mem_cons_self).1, hDL, hD₀⟩
              · rcases List.mem_cons.mp hq with rfl | hq
                · exact ⟨heT₄, Ne.symm hTL, hT₀⟩
                · have z := N' q (List.mem_cons_of_mem _ hq)
                  exact ⟨up _ _ (off q hq) (offt q hq) (offC q hq).1 z.1, z.2⟩
        have off3 : Off3 I H2.objs.size s₂.heap.objs.size ((it, oT) :: news) := Off3.of fun q hq => by
          rcases List.mem_cons.mp hq with rfl | hq
          · exact ⟨Ne.symm hne, hCT, hDT⟩
          · exact ⟨off q hq, (offC q hq).1, (offC q hq).2⟩
        have sn := places_snoc hd' hP'
        have fin : ∀ (ys' : List Value) (h₅ : Heap) (tk₅ : Nat), ys'.length ≤ i + 1 → Fr h₀ L h₅ m → News h₀ L h₅ ((I, oI) :: (H2.objs.size, oC) :: (s₂.heap.objs.size, lst ys') :: (it, oT) :: news) → PlacesAre ys' (xt.cps.toList.take (i + 1)) p →
            ∃ q', q' < xt.cps.size + 1 - i ∧ (∃ h' tk i ys m', ({ s₂ with heap := h₅, toks := tk₅ } : Shared) = { s₂ with heap := h', toks := tk } ∧ i ≤ xt.cps.size ∧ q' = xt.cps.size + 1 - i ∧ ys.length ≤ i ∧ ((∃ old, IsEnum h' I it ((i : Nat) : Int) old) ∧ St i h') ∧ Fr h₀ L h' m ∧ h'.Ns H2.objs.size m' ∧
        News h₀ L h' ((s₂.heap.objs.size, lst ys) :: news) ∧ PlacesAre ys (xt.cps.toList.take i) p) := by
          intro ys' h₅ tk₅ hl F₅ N₅ hP₅
          have zI := (N₅ (I, oI) List.mem_cons_self).1
          have zC := (N₅ (H2.objs.size, oC) (List.mem_cons_of_mem _ List.mem_cons_self)).1
          have zT := (N₅ (it, oT) (List.mem_cons_of_mem _ (List.mem_cons_of_mem _ (List.mem_cons_of_mem _ List.mem_cons_self)))).1
          refine ⟨xt.cps.size + 1 - (i + 1), by omega, h₅, tk₅, i + 1, ys', _, rfl, hlt, rfl, hl, ⟨hoI h₅ zI, ?_⟩, F₅, hoC.ns zC, fun q hq => N₅ q ?_, hP₅⟩
          · refine Dr.frame _ _ _ hS₄ fun b hb o e => ?_
            rw [List.mem_singleton.mp hb] at e ⊢
            rw [heT₄] at e
            rw [zT, e]
          · rcases List.mem_cons.mp hq with rfl | hq
            · exact List.mem_cons_of_mem _ (List.mem_cons_of_mem _ List.mem_cons_self)
            · exact List.mem_cons_of_mem _ (List.mem_cons_of_mem _ (List.mem_cons_of_mem _ (List.mem_cons_of_mem _ hq)))
        refine wpAny_mono (turn i d t u I oI it oT H2.objs.size oC s₂.heap.objs.size _ ys h₄ _ _ hd' hoC (by simp [hab]) (by simp) F₄ N₄ off3 ⟨hCI, hDI, Ne.symm hDC⟩ offt) (fun okb s₅ h₅ => ?_) fun _ _ e => e
        cases okb with
        | false =>
          simp only [Bool.false_eq_true, if_false] at h₅ ⊢
          obtain ⟨h₅, tk₅, news₅, rfl, F₅, N₅, off₅, hS₅, rfl, hpd⟩ := h₅
          exact fin ys h₅ tk₅ (Nat.le_succ_of_le hyl) F₅ N₅ (sn.2 hpd)
        | true =>
          simp only [if_true] at h₅ ⊢
          refine wpAny_mono h₅ (fun y s₆ h₆ => ?_) fun _ _ e => e
          obtain ⟨h₅, tk₅, news₅, rfl, F₅, N₅, off₅, hS₅, rfl, hpd, t', rfl⟩ := h₆
          have zD := (N₅ (s₂.heap.objs.size, lst ys) (List.mem_cons_of_mem _ (List.mem_cons_of_mem _ List.mem_cons_self))).1
          refine append_at (hsz := by show ys.toArray.size ≤ sizeLine; rw [List.size_toArray]; exact Nat.le_trans hyl (Nat.le_trans hi hsz)) zD fun h₆ hs₆ hD₆ => ?_
          refine fin (ys ++ [.int (i : Int) t']) h₆ _ (by rw [List.length_append, List.length_singleton]; exact Nat.succ_le_succ hyl) (F₅.change hs₆ hDL hD₀) (fun q hq => ?_) (sn.1 hpd t')
          have z := N₅ q
          rcases List.mem_cons.mp hq with rfl | hq
          · have z := N₅ (I, oI) List.mem_cons_self
            exact ⟨hs₆.extBut _ _ hDI z.1, z.2⟩
          rcases List.mem_cons.mp hq with rfl | hq
          · have z := N₅ (H2.objs.size, oC) (List.mem_cons_of_mem _ List.mem_cons_self)
            exact ⟨hs₆.extBut _ oC (Ne.symm hDC) z.1, z.2⟩
          rcases List.mem_cons.mp hq with rfl | hq
          · exact ⟨hD₆.trans (congrArg some (lst_snoc ys _)), hDL, hD₀⟩
          have z := N₅ q (List.mem_cons_of_mem _ (List.mem_cons_of_mem _ (List.mem_cons_of_mem _ hq)))
          refine ⟨hs₆.extBut _ _ ?_ z.1, z.2⟩
          rcases List.mem_cons.mp hq with rfl | hq
          · exact hDT
          · exact (offC q hq).2
      · have hin : i = xt.cps.size := Nat.le_antisymm hi (Nat.not_lt.mp hlt)
        subst hin
        refine W.done _ _ _ hst' fun h₂ tk₂ hk₂ => ?_
        have up₂ : ∀ c o, c ≠ I → c ≠ it → h'.get? c = some o → h₂.get? c = some o := fun c o h1 h2 e => hk₂ c o (hwr c h1 h2) e
        refine hRR _ _ h₂ tk₂ _ ys ⟨F'.ns.at' fun o e => up₂ _ o hIL hTL e, fun c o e => up₂ c o (fun q => by rw [q, hI₀] at e; cases e) (fun q => by rw [q, hT₀] at e; cases e) (F'.keep c o e), F'.above⟩ (fun q hq => ?_) ?_ (hn'.at' fun o e => up₂ _ o (Ne.symm hCI) (Ne.symm hCT) e) hC₀ hD₀ hCL hDL (Ne.symm hDC) (fun q hq => (offC q hq).1) ?_
        · have z := N' q hq
          refine ⟨up₂ _ _ ?_ ?_ z.1, z.2⟩
          · rcases List.mem_cons.mp hq with rfl | hq
            · exact Ne.symm hDI
            · exact off q hq
          · rcases List.mem_cons.mp hq with rfl | hq
            · exact Ne.symm hDT
            · exact offt q hq
        · have o3 : Off3 I H2.objs.size s₂.heap.objs.size news := Off3.of fun q hq => ⟨off q hq, (offC q hq).1, (offC q hq).2⟩
          exact o3.one
        · have e : xt.cps.size = xt.cps.toList.length := by simp
          rw [e, List.take_length] at hP'
          exact hP'
    · rcases List.mem_cons.mp hq with rfl | hq
      · exact ⟨hacc, hDL, hD₀⟩
      · exact ⟨old _ _ (N q hq).1, (N q hq).2⟩
  exact codeAny_compStart_list (loop _ rfl) (W.self 0 _ _ _ hst₁ (loop _ rfl))
/-- `[a for a, b in enumerate(text) if c]` -/
def EnumSrc (prog : Program) (w : World) (A : Around) (h₀ : Heap) (L : Addr) (m : Str → Option Value) (env : Env) (c elt : PySem.Expr) (a b : Str) (scope : Scope) (cl : List (Str × Addr)) (Q : Value → Shared → Prop) (xv : Value) (s₁ : Shared) : Prop :=
  ∃ xt tx news p I it, xv = .ref I ∧ A.handled = none ∧ Fr h₀ L s₁.heap m ∧ News h₀ L s₁.heap news ∧ xt.cps.size ≤ sizeLine ∧ IsEnum s₁.heap I it 0 .none ∧ s₁.heap.IsStrIter it (strIterType xt) xt tx 0 ∧ I ≠ it ∧ L ≠ I ∧ L ≠ it ∧ h₀.get? I = none ∧ h₀.get? it = none ∧ (∀ q ∈ news, q.1 ≠ I) ∧ (∀ q ∈ news, q.1 ≠ it) ∧
    EnumTurn prog w A h₀ L m env c elt a b scope cl s₁ xt p news ∧
    ∀ ys D h tk, PlacesAre ys xt.cps.toList p → Fr h₀ L h m → News h₀ L h ((D, lst ys) :: news) → Off1 D news → Q (.ref D) { s₁ with heap := h, toks := tk }
theorem ListComp_enum {elt iter c : PySem.Expr} {a b : Str} {pa pb tp : Pos} {kk : Nat} {scope : Scope} {cl : List (Str × Addr)} {pos : Pos} {Q : Value → Shared → Prop} (_F₀ : Fr h₀ L s.heap m)
    (hclos : closureFor scope env = pure cl) (hcell : ∀ y ∈ scope.names, y.2 ≠ .cell) (hkind : scope.kind = .function)
    (hnames : ∀ y ∈ scope.names, y.2 = .local → scope.names.lookup y.1 = some .local) (hxa : scope.names.lookup a = some .local) (hxb : scope.names.lookup b = some .local) (hab : ¬ a = b)
    (h : wpAny (model prog w) A (eval iter env) (EnumSrc prog w A h₀ L m env c elt a b scope cl Q) E s)
    (hs : ∀ x, foldedSetIterable iter env x = pure x := by intro _; rfl) :
    wpAny (model prog w) A (eval (.ListComp elt [⟨.Tuple [.Name a pa, .Name b pb] kk tp, iter, [c], 0⟩] scope pos) env) Q E s := by
  rw [eval_ListComp]
  refine wpAny_comprehension_free (use := none) rfl hs hclos hkind hnames (wpAny_mono h (fun xv s₁ h₁ => ?_) fun _ _ e => e)
  obtain ⟨xt, tx, news, p, I, it, rfl, hh, F, N, hsz, he, hit, hne, hLI, hLt, hI₀, hT₀, off, offt, turn, fin⟩ := h₁
  refine wpAny_pyIter_enum he ?_
  have post : ∀ D C h tk m' ys, Fr h₀ L h m → News h₀ L h ((D, lst ys) :: news) → Off1 D news → h.Ns C m' → h₀.get? C = none → h₀.get? D = none → C ≠ L → D ≠ L → C ≠ D → (∀ q ∈ news, q.1 ≠ C) → PlacesAre ys xt.cps.toList p → compPost (model prog w) A E none Q (.ref D) C (.ok .next) { s₁ with heap := h, toks := tk } := by
    intro D C h tk m' ys F' N' o1 hn hC₀ hD₀ hCL hDL hCD offC hP
    refine ⟨m', hn, fun h'' hs'' => fin ys D h'' tk hP (F'.change hs'' hCL hC₀) (fun q hq => ?_) o1⟩
    refine ⟨hs''.extBut _ _ ?_ (N' q hq).1, (N' q hq).2⟩
    rcases List.mem_cons.mp hq with rfl | hq
    · exact Ne.symm hCD
    · exact offC q hq
  cases ha : xt.cps.all (· < 128)
  · have hit' : s₁.heap.IsStrIter it "str_iterator" xt tx 0 := by simpa [strIterType, ha] using hit
    exact enum_block hh (Draws.strWide (A := A.in1) hh it xt tx) hne hsz he hit' hcell hkind hxa hxb hab F N hLI hI₀ hLt hT₀ off offt turn post
  · have hit' : s₁.heap.IsStrIter it "str_ascii_iterator" xt tx 0 := by simpa [strIterType, ha] using hit
    exact enum_block hh (Draws.strAscii (A := A.in1) hh it xt tx) hne hsz he hit' hcell hkind hxa hxb hab F N hLI hI₀ hLt hT₀ off offt turn post
theorem call_enumT {c elt : PySem.Expr} {a b : Str} {scope : Scope} {cl : List (Str × Addr)} {x : Str} {tx : Tok} {news : List (Addr × Obj)} {Q : Value → Shared → Prop} (p : Nat → Bool) (hh : A.handled = none) (F : Fr h₀ L s.heap m) (N : News h₀ L s.heap news) (hsz : x.cps.size ≤ sizeLine)
    (turn : ∀ g, EnumTurn prog w A h₀ L m env c elt a b scope cl { s with heap := g } x p news)
    (fin : ∀ ys D h tk, PlacesAre ys x.cps.toList p → Fr h₀ L h m → News h₀ L h ((D, lst ys) :: news) → Off1 D news → Q (.ref D) { s with heap := h, toks := tk }) :
    wpAny (model prog w) A (call (.type "enumerate") [.str x tx]) (EnumSrc prog w A h₀ L m env c elt a b scope cl Q) E s := by
  have hLs : L < s.heap.objs.size := F.ns.lt
  have hab : h₀.objs.size ≤ L := F.above
  refine call_enumerate_str fun h' he hit hsz' hk => ?_
  have hN : ∀ q ∈ news, q.1 < s.heap.objs.size := fun q hq => Heap.lt_size (N q hq).1
  exact ⟨x, tx, news, p, _, _, rfl, hh, ⟨F.ns.keeps hk, fun b o e => hk b o (F.keep b o e), F.above⟩, fun q hq => ⟨hk _ _ (N q hq).1, (N q hq).2⟩, hsz, he, hit, Nat.succ_ne_self _, Nat.ne_of_lt (Nat.lt_succ_of_lt hLs), Nat.ne_of_lt hLs,
    Heap.get?_none_of_le (Nat.le_trans hab (Nat.le_of_lt (Nat.lt_succ_of_lt hLs))), Heap.get?_none_of_le (Nat.le_trans hab (Nat.le_of_lt hLs)), fun q hq => Nat.ne_of_lt (Nat.lt_succ_of_lt (hN q hq)), fun q hq => Nat.ne_of_lt (hN q hq), turn h', fin⟩
end
/-! the first place -/
theorem places_first : ∀ (l : List Nat) (p : Nat → Bool), ((l.zipIdx.filter fun q => p q.1).map fun q => (q.2 : Int)).head? = (l.findIdx? p).map fun i => (i : Int) := by
  have key : ∀ (l : List Nat) (p : Nat → Bool) (k : Nat), ((l.zipIdx k).filter fun q => p q.1).head?.map (·.2) = (l.findIdx? p).map (· + k) := by
    intro l p
    induction l with
    | nil => intro k; rfl
    | cons a r ih =>
      intro k
      rw [List.zipIdx_cons, List.findIdx?_cons]
      by_cases h : p a = true
      · rw [List.filter_cons_of_pos (by exact h), if_pos h]
        simp
      · rw [List.filter_cons_of_neg (by simpa using h), if_neg h, ih (k + 1), Option.map_map]
        congr 1
        funext i
        show i + (k + 1) = i + 1 + k
        omega
  intro l p
  rw [List.head?_map]
  have h := key l p 0
  cases h1 : (l.zipIdx.filter fun q => p q.1).head? with
  | none => rw [h1] at h; cases h2 : l.findIdx? p with
    | none => rfl
    | some i => rw [h2] at h; cases h
  | some q => rw [h1] at h; cases h2 : l.findIdx? p with
    | none => rw [h2] at h; cases h
    | some i =>
      rw [h2] at h
      simp at h
      simp [h]
theorem places_cases {ys : List Value} {l : List Nat} (h : PlacesAre ys l fun c => !charN c) : (ys = [] ∧ otherL l = none) ∨ (∃ (i : Nat) (t : Tok) (r : List Value), ys = .int (i : Int) t :: r ∧ otherL l = some i) := by
  have e := places_first l fun c => !charN c
  unfold PlacesAre at h
  generalize ((l.zipIdx.filter fun q => !charN q.1).map fun q => (q.2 : Int)) = ns at h e
  cases h with
  | nil =>
    refine .inl ⟨rfl, ?_⟩
    unfold otherL
    cases h2 : l.findIdx? fun c => !charN c with
    | none => rfl
    | some i => rw [h2] at e; cases e
  | cons k t h =>
    unfold otherL
    cases h2 : l.findIdx? fun c => !charN c with
    | none => rw [h2] at e; cases e
    | some i =>
      rw [h2] at e
      injection e with e
      subst e
      exact .inr ⟨i, t, _, rfl, rfl⟩
end
section
open PyProof.Rows.LCg
theorem updF_self {a0 : Addr} {o : Obj} {news : List (Addr × Obj)} {g : Obj → List (Addr × Obj)} (U : UpdF a0 o news g) : g o = news := by
  obtain ⟨pre, post, e1, e2, _⟩ := U.split
  rw [e1, e2]
theorem turn_nil {g g' h : Heap} {L : Addr} {m : Str → Option Value} (T : KtsTurn ([] : List Addr) g g') (F : Fr g' L h m) : Fr g L h m :=
  ⟨F.ns, fun b o e => F.keep b o (T.other b o e (fun q => nomatch q)), by have := F.above; rw [T.size] at this; exact this⟩
theorem turn_nil_news {g g' h : Heap} {L : Addr} {news : List (Addr × Obj)} (T : KtsTurn ([] : List Addr) g g') (N : News g' L h news) : News g L h news := fun p hp => by
  refine ⟨(N p hp).1, (N p hp).2.1, ?_⟩
  cases q : g.get? p.1 with
  | none => rfl
  | some o =>
    have := T.other _ _ q (fun q => nomatch q)
    rw [(N p hp).2.2] at this; cases this
theorem strs_of {W : List Str} : ∀ {ys : List Value}, (∀ y ∈ ys, ∃ s t, y = .str s t ∧ s ∈ W) → ∃ ws, StrsAre ys ws ∧ (∀ s ∈ ws, s ∈ W) ∧ ws.length = ys.length
  | [], _ => ⟨[], .nil, (fun _ h => nomatch h), rfl⟩
  | y :: r, h => by
    obtain ⟨s, t, rfl, hs⟩ := h y List.mem_cons_self
    obtain ⟨ws, h1, h2, h3⟩ := strs_of (ys := r) fun y hy => h y (List.mem_cons_of_mem _ hy)
    exact ⟨s :: ws, .cons s t h1, fun z hz => by rcases List.mem_cons.mp hz with rfl | hz; exact hs; exact h2 z hz, by simp [h3]⟩
section
variable {prog : Program} {w : World} {A : Around} {E : Value → Shared → Prop} {s : Shared} {h₀ : Heap} {env : Env} {x : Str} {body : List Stmt} {Q : Flow → Shared → Prop}
/-- the law's own loop: two cells, and one name that stays -/
theorem iterL_range {r : Addr} {a₀ b₀ : Int} {t₀ u₀ v₀ : Tok} {n : Nat} {m₀ : Str → Option Value} {a1 a2 l : Addr} {o1 o2 : Obj} {c1 c2 : Option Value} (ys : Str)
    (hh : A.handled = none) (hr : IsRange s.heap r a₀ b₀ 1 t₀ u₀ v₀) (hsmall : Builtin.Range.small a₀ b₀ 1 = true) (hn : Builtin.Range.rangeSize a₀ b₀ 1 = (n : Int))
    (F : Fr h₀ env.locals s.heap m₀) (N : News h₀ env.locals s.heap [(a1, o1), (a2, o2)]) (d1 : o1.data = .cell c1) (d2 : o2.data = .cell c2) (hs : m₀ ys = some (.ref l)) (hx : ys ≠ x)
    (turn : ∀ i t (u : Str → Option Value) (o1 o2 : Obj) (c1 c2 : Option Value) h tk own, i < n → OwnOff own [a1, a2] → o1.data = .cell c1 → o2.data = .cell c2 →
      Fr h₀ env.locals h (fun z => if z = x then some (.int (a₀ + (i : Int)) t) else if z = ys then some (.ref l) else u z) → News h₀ env.locals h ([(a1, o1), (a2, o2)] ++ own) →
      wpAny (model prog w) A (execs body env) (InvPostN h₀ env.locals (fun m' nx => ∃ o1' o2' c1' c2', nx = [(a1, o1'), (a2, o2')] ∧ o1'.data = .cell c1' ∧ o2'.data = .cell c2' ∧ m' ys = some (.ref l)) own [a1, a2] { s with heap := h, toks := tk } Q) E { s with heap := h, toks := tk })
    (done : ∀ (u : Str → Option Value) (o1 o2 : Obj) (c1 c2 : Option Value) h tk, o1.data = .cell c1 → o2.data = .cell c2 → Fr h₀ env.locals h u → News h₀ env.locals h [(a1, o1), (a2, o2)] → Q .next { s with heap := h, toks := tk }) :
    wpAny (model prog w) A (pyIter (.ref r)) (fun it s₂ => LoopAtV prog w A h₀ env x body Q E it s₂) E s := by
  refine iterJ_range (fun i m nx => ∃ o1' o2' c1' c2', nx = [(a1, o1'), (a2, o2')] ∧ o1'.data = .cell c1' ∧ o2'.data = .cell c2' ∧ m ys = some (.ref l)) hh hr hsmall hn F N ⟨o1, o2, c1, c2, rfl, d1, d2, hs⟩ ?_ ?_
  · rintro i t m₁ nx h tk own hi _ hoff ⟨o1', o2', c1', c2', rfl, e1, e2, e3⟩ F₁ N₁
    have e : (fun z => if z = x then some (Value.int (a₀ + (i : Int)) t) else m₁ z) = fun z => if z = x then some (Value.int (a₀ + (i : Int)) t) else if z = ys then some (.ref l) else m₁ z := by
      funext z
      by_cases h1 : z = x
      · simp [h1]
      · simp only [if_neg h1]
        by_cases h2 : z = ys
        · rw [if_pos h2, h2]; exact e3
        · rw [if_neg h2]
    rw [e] at F₁
    exact turn i t m₁ o1' o2' c1' c2' h tk own hi hoff e1 e2 F₁ N₁
  · rintro m₁ nx h tk ⟨o1', o2', c1', c2', rfl, e1, e2, e3⟩ F₁ N₁
    exact done m₁ o1' o2' c1' c2' h tk e1 e2 F₁ N₁
end
section
variable {prog : Program} {w : World} {A : Around} {s : Shared} {h₀ : Heap} {L : Addr} {m : Str → Option Value} {env : Env}
/-- a comp whose element draws -/
theorem comp_draw {elt : PySem.Expr} {x : Str} {scope : Scope} {cl : List (Str × Addr)} {S : List (Addr × Obj) → Prop} {Pv : Nat → Value → Prop} {Fin : List Value → List (Addr × Obj) → Prop} {n : Nat} {news : List (Addr × Obj)} {g : Obj → List (Addr × Obj)} {a0 : Addr} {b c : Int} {t1 t2 : Tok} {k : Nat} (P : Value → Prop)
    (U : UpdF a0 (W.listOf #[.int b t1, .int c t2] k) news g)
    (turn : ∀ v I oI C oC D m₂ ys b c t1 t2 k h tk (E' : Value → Shared → Prop), NsObj oC m₂ → m₂ x = some v → Fr h₀ L h m → News h₀ L h ((I, oI) :: (C, oC) :: (D, lst ys) :: g (W.listOf #[.int b t1, .int c t2] k)) → Off3 I C D (g (W.listOf #[.int b t1, .int c t2] k)) → ((@Ne Nat I C) ∧ (@Ne Nat I D) ∧ (@Ne Nat C D)) →
      wpAny (model prog w) A (eval elt (compEnvC scope cl C env)) (CompEnd h₀ L m { s with heap := h, toks := tk } I oI C oC D (lst ys) S (fun y nw' => Drew g P nw' y)) E' { s with heap := h, toks := tk })
    (fin : ∀ ys b c t1 t2 k, ys.length = n → (∀ y ∈ ys, P y) → Fin ys (g (W.listOf #[.int b t1, .int c t2] k))) : CompRest prog w A h₀ L m env elt x scope cl s S Pv Fin n 0 [] news := by
  refine comp_rest (fun i ys nw => ys.length = i ∧ (∀ y ∈ ys, P y) ∧ ∃ b c t1 t2 k, nw = g (W.listOf #[.int b t1, .int c t2] k)) ⟨rfl, (fun _ h => nomatch h), b, c, t1, t2, k, (updF_self U).symm⟩ ?_ ?_
  · rintro i v I oI C oC D m₂ ys nw h tk E' hi hv ⟨hl, hp, b, c, t1, t2, k, rfl⟩ hC hx F N off ne
    refine wpAny_mono (turn v I oI C oC D m₂ ys b c t1 t2 k h tk E' hC hx F N off ne) (fun y s₂ hq => ?_) fun _ _ e => e
    obtain ⟨h', tk', nw', e, F', N', off', hS, hP, b', c', t1', t2', k', rfl⟩ := hq
    refine ⟨h', tk', _, e, F', N', off', hS, by simp [hl], fun z hz => ?_, b', c', t1', t2', k', rfl⟩
    rcases List.mem_append.mp hz with hz | hz
    · exact hp z hz
    · rw [List.mem_singleton.mp hz]; exact hP
  · rintro ys nw ⟨hl, hp, b, c, t1, t2, k, rfl⟩
    exact fin ys b c t1 t2 k hl hp
end
end
theorem pool_open {news nw : List (Addr × Obj)} {r : Value} (h : MadePool news nw r) : ∃ l b c t1 t2, r = .ref l ∧ nw = (l, W.listOf #[.int b t1, .int c t2] 0) :: news ∧ ∀ p ∈ news, @Ne Nat p.1 l := h
theorem two_ints {ys : List Value} {lo hi : Int} (hl : ys.length = 2) (h : ∀ y ∈ ys, IntIn lo hi y) : ∃ a b t u, ys = [.int a t, .int b u] ∧ (lo ≤ a ∧ a < hi) ∧ (lo ≤ b ∧ b < hi) := by
  match ys, hl with
  | [x, y], _ =>
    obtain ⟨a, t, rfl, ha⟩ := h x (by simp)
    obtain ⟨b, u, rfl, hb⟩ := h y (by simp)
    exact ⟨a, b, t, u, rfl, ha, hb⟩
theorem c_sign2 (w : World) (mean : ExcName → Option Value) (mg mb : Str → Option Value) (c : Int) (t : Tok) (h : 0 ≤ c ∧ c < 1114112) : SaysV w mean mg mb 5 234 [.int c t] (fun _ => .bool true) := c_signright w mean mg mb c t h.1 (by omega)
theorem item_at {prog : Program} {w : World} {A : Around} {E : Value → Shared → Prop} {s : Shared} {value slice : PySem.Expr} {l : Addr} {its : Array Value} {d : Int} {u : Tok} {v : Value} {Q : Value → Shared → Prop} (hl : s.heap.IsList l its)
    (h0 : 0 ≤ d) (h1 : d < 2 ^ 63) (he : its.toList[d.toNat]? = some v) (h : Q v s)
    (hsl : subscripted slice false (.ref l) (.int d u) = operate [.ref l, .int d u] (getItem (.ref l) (.int d u)) := by with_unfolding_all rfl) :
    wpAny (model prog w) A (subscriptTail value slice (.ref l) (.int d u)) Q E s :=
  tail_any hl.typeIs slot_list_getitem.lookup (wpAny_getItem_list hl h0 h1 (x := v) (by rw [← Array.getElem?_toList]; exact he) h) hsl
theorem few_small {d k : Int} (h0 : 0 ≤ d) (h1 : d < k) (hk : k ≤ 1000) : Builtin.Range.small 0 d 1 = true := small_one (by decide) (by decide) (by omega) (by omega)
theorem few_fit {d k : Int} (h1 : d < k) (hk : k ≤ 1000) : (d - 0).toNat ≤ sizeLine := by rw [PySem.sizeLine_eq]; omega
def InStrs (ws : List Str) (r : Value) : Prop := ∃ y t, r = .str y t ∧ y ∈ ws
def menuW (c : Nat) : List Str := [Str.ofString "a", Str.ofString "Z", Str.ofString "_", Str.ofString ":", Str.ofString ":", Str.ofString "-", Str.ofString "7", Str.ofString " ", ⟨#[c]⟩, Str.ofString "·", Str.ofString "é"]
def textW : List Str := [Str.ofString "a", Str.ofString "bc", Str.ofString " ", Str.ofString "\t", Str.ofString "\n", Str.ofString "\x0d", Str.ofString "\x0d\n"]
theorem menu_are (c : Nat) (t0 t1 t2 t3 t4 t5 t6 t7 t8 t9 ta : Tok) : StrsAre [.str (Str.ofString "a") t0, .str (Str.ofString "Z") t1, .str (Str.ofString "_") t2, .str (Str.ofString ":") t3, .str (Str.ofString ":") t4, .str (Str.ofString "-") t5, .str (Str.ofString "7") t6, .str (Str.ofString " ") t7, .str ⟨#[c]⟩ t8, .str (Str.ofString "·") t9, .str (Str.ofString "é") ta] (menuW c) := by
  unfold menuW; repeat constructor
theorem text_are (t0 t1 t2 t3 t4 t5 t6 : Tok) : StrsAre [.str (Str.ofString "a") t0, .str (Str.ofString "bc") t1, .str (Str.ofString " ") t2, .str (Str.ofString "\t") t3, .str (Str.ofString "\n") t4, .str (Str.ofString "\x0d") t5, .str (Str.ofString "\x0d\n") t6] textW := by
  unfold textW; repeat constructor
theorem menu_len (c : Nat) : (menuW c).length = 11 := rfl
theorem text_len : textW.length = 7 := rfl
theorem bound_facts {W ws : List Str} {n : Nat} (hW : ∀ y ∈ W, y.length ≤ 2 ∧ okT y) (hl : ws.length = n) (hn : n ≤ 7) (hp : ∀ y ∈ ws, y ∈ W) :
    ((ws.map (·.length)).sum + ws.length * (Str.ofString "").length ≤ 16777216) ∧ (Txt.join (Str.ofString "") ws).length ≤ 64 ∧ okT (Txt.join (Str.ofString "") ws) := by
  have e0 : (Str.ofString "").length = 0 := rfl
  have hs : (ws.map (·.length)).sum ≤ 2 * ws.length := by
    clear hl hn
    induction ws with
    | nil => exact Nat.le_refl _
    | cons a r ih =>
      have h1 := (hW a (hp a List.mem_cons_self)).1
      have h2 := ih fun y hy => hp y (List.mem_cons_of_mem _ hy)
      simp only [List.map_cons, List.sum_cons, List.length_cons]; omega
  have hlist := tjoin_list_of (Str.ofString "") ws
  have key : ∀ ps : List Str, (interL (Str.ofString "").cps.toList (ps.map (·.cps.toList))).length = (ps.map (·.length)).sum ∧ ∀ c ∈ interL (Str.ofString "").cps.toList (ps.map (·.cps.toList)), ∃ y ∈ ps, c ∈ y.cps.toList := by
    intro ps
    induction ps with
    | nil => exact ⟨rfl, fun _ h => nomatch h⟩
    | cons a r ih =>
      cases r with
      | nil =>
        refine ⟨by simp [interL, Str.length], fun c hc => ⟨a, List.mem_cons_self, by simpa [interL] using hc⟩⟩
      | cons b r =>
        have e : interL (Str.ofString "").cps.toList ((a :: b :: r).map (·.cps.toList)) = a.cps.toList ++ ((Str.ofString "").cps.toList ++ interL (Str.ofString "").cps.toList ((b :: r).map (·.cps.toList))) := by simp [interL]
        have e1 : (Str.ofString "").cps.toList = [] := rfl
        rw [e, e1, List.nil_append]
        rw [e1] at ih
        refine ⟨?_, fun c hc => ?_⟩
        · rw [List.length_append, ih.1]; simp [Str.length]
        · rcases List.mem_append.mp hc with hc | hc
          · exact ⟨a, List.mem_cons_self, hc⟩
          · obtain ⟨y, hy, hyc⟩ := ih.2 c hc
            exact ⟨y, List.mem_cons_of_mem _ hy, hyc⟩
  refine ⟨by rw [e0]; omega, ?_, ?_⟩
  · have h1 : (Txt.join (Str.ofString "") ws).length = (Txt.join (Str.ofString "") ws).cps.toList.length := by simp [Str.length]
    rw [h1, hlist, (key ws).1]; omega
  · intro c hc
    rw [hlist] at hc
    obtain ⟨y, hy, hyc⟩ := (key ws).2 c hc
    exact (hW y (hp y hy)).2 c hyc
theorem menu_ok {c : Nat} (hc : c < 1114112) : ∀ y ∈ menuW c, y.length ≤ 2 ∧ okT y := by
  unfold menuW okT
  simp only [List.forall_mem_cons, List.forall_mem_nil, and_true]
  refine ⟨by decide +kernel, by decide +kernel, by decide +kernel, by decide +kernel, by decide +kernel, by decide +kernel, by decide +kernel, by decide +kernel, ⟨by show 1 ≤ 2; omega, ?_⟩, by decide +kernel, by decide +kernel⟩
  exact ⟨hc, fun _ h => nomatch h⟩
theorem text_ok : ∀ y ∈ textW, y.length ≤ 2 ∧ okT y := by
  unfold textW okT
  simp only [List.forall_mem_cons, List.forall_mem_nil, and_true]
  exact ⟨by decide +kernel, by decide +kernel, by decide +kernel, by decide +kernel, by decide +kernel, by decide +kernel, by decide +kernel⟩
theorem name_facts {c d : Int} {ys : List Value} (hc : 0 ≤ c ∧ c < 1114112) (hl : ys.length = (d - 0).toNat) (hn : d < 6) (hp : ∀ y ∈ ys, InStrs (menuW c.toNat) y) :
    ∃ ws, StrsAre ys ws ∧ ((ws.map (·.length)).sum + ws.length * (Str.ofString "").length ≤ 16777216) ∧ (Txt.join (Str.ofString "") ws).length ≤ 64 ∧ okT (Txt.join (Str.ofString "") ws) := by
  obtain ⟨ws, h1, h2, h3⟩ := strs_of hp
  exact ⟨ws, h1, bound_facts (menu_ok (c := c.toNat) (by omega)) h3 (by omega) h2⟩
theorem text_facts {d : Int} {ys : List Value} (hl : ys.length = (d - 0).toNat) (hn : d < 8) (hp : ∀ y ∈ ys, InStrs textW y) :
    ∃ ws, StrsAre ys ws ∧ ((ws.map (·.length)).sum + ws.length * (Str.ofString "").length ≤ 16777216) ∧ (Txt.join (Str.ofString "") ws).length ≤ 64 ∧ okT (Txt.join (Str.ofString "") ws) := by
  obtain ⟨ws, h1, h2, h3⟩ := strs_of hp
  exact ⟨ws, h1, bound_facts text_ok h3 (by omega) h2⟩
theorem drew_intro {g : Obj → List (Addr × Obj)} {P : Value → Prop} {r : Value} (b c : Int) (t1 t2 : Tok) (k : Nat) (h : P r) : Drew g P (g (W.listOf #[.int b t1, .int c t2] k)) r := ⟨h, _, _, _, _, _, rfl⟩
section
open PyProof.Rows.LCg
variable {prog : Program} {w : World} {A : Around} {s : Shared} {h₀ : Heap} {L : Addr} {m : Str → Option Value} {env : Env}
/-- the same, the source told by the call that made it -/
theorem comp_drawP {elt : PySem.Expr} {x : Str} {scope : Scope} {cl : List (Str × Addr)} {S : List (Addr × Obj) → Prop} {Pv : Nat → Value → Prop} {Fin : List Value → List (Addr × Obj) → Prop} {n : Nat} {news n1 n2 : List (Addr × Obj)} {g : Obj → List (Addr × Obj)} {a0 : Addr} {b c : Int} {t1 t2 : Tok} {k : Nat} (P : Value → Prop)
    (_hp : MadePool n1 n2 (.ref a0))
    (U : UpdF a0 (W.listOf #[.int b t1, .int c t2] k) news g)
    (turn : ∀ v I oI C oC D m₂ ys b c t1 t2 k h tk (E' : Value → Shared → Prop), NsObj oC m₂ → m₂ x = some v → Fr h₀ L h m → News h₀ L h ((I, oI) :: (C, oC) :: (D, lst ys) :: g (W.listOf #[.int b t1, .int c t2] k)) → Off3 I C D (g (W.listOf #[.int b t1, .int c t2] k)) → ((@Ne Nat I C) ∧ (@Ne Nat I D) ∧ (@Ne Nat C D)) →
      wpAny (model prog w) A (eval elt (compEnvC scope cl C env)) (CompEnd h₀ L m { s with heap := h, toks := tk } I oI C oC D (lst ys) S (fun y nw' => Drew g P nw' y)) E' { s with heap := h, toks := tk })
    (fin : ∀ ys b c t1 t2 k, ys.length = n → (∀ y ∈ ys, P y) → Fin ys (g (W.listOf #[.int b t1, .int c t2] k))) : CompRest prog w A h₀ L m env elt x scope cl s S Pv Fin n 0 [] news :=
  comp_draw P U turn fin
end
/-- a turn of the law's own loop is over -/
theorem law_end {h₀ : Heap} {L a1 a2 l : Addr} {ys : Str} {own all : List (Addr × Obj)} {m' : Str → Option Value} {s₁ : Shared} {h' : Heap} {tk : Nat} {o1 o2 : Obj} {c1 c2 : Option Value}
    (F : Fr h₀ L h' m') (N : News h₀ L h' all) (hm : ∀ p ∈ (a1, o1) :: (a2, o2) :: own, p ∈ all) (d1 : o1.data = .cell c1) (d2 : o2.data = .cell c2) (hs : m' ys = some (.ref l)) :
    InvEndN h₀ L (fun m' nx => ∃ o1' o2' c1' c2', nx = [(a1, o1'), (a2, o2')] ∧ o1'.data = .cell c1' ∧ o2'.data = .cell c2' ∧ m' ys = some (.ref l)) own [a1, a2] s₁ { s₁ with heap := h', toks := tk } :=
  InvEndN.intro F N ⟨o1, o2, c1, c2, rfl, d1, d2, hs⟩ rfl (fun p hp => by
    rcases List.mem_cons.mp hp with rfl | hp
    · exact hm _ List.mem_cons_self
    · rw [List.mem_singleton.mp hp]; exact hm _ (List.mem_cons_of_mem _ List.mem_cons_self)) fun p hp => hm p (List.mem_cons_of_mem _ (List.mem_cons_of_mem _ hp))
section
open PyProof.Rows.LCg PyProof.Rows.LCt
section
variable {prog : Program} {w : World} {A : Around} {E : Value → Shared → Prop} {s : Shared} {h₀ : Heap} {L : Addr} {m : Str → Option Value} {env : Env}
/-- `y = [a for a, b in enumerate(text) if c]` -/
def EnumSrcA (prog : Program) (w : World) (A : Around) (h₀ : Heap) (L : Addr) (m : Str → Option Value) (env : Env) (c elt : PySem.Expr) (a b : Str) (scope : Scope) (cl : List (Str × Addr)) (y : Str) (Q : Flow → Shared → Prop) (xv : Value) (s₁ : Shared) : Prop :=
  ∃ xt tx news p I it, xv = .ref I ∧ A.handled = none ∧ Fr h₀ L s₁.heap m ∧ News h₀ L s₁.heap news ∧ xt.cps.size ≤ sizeLine ∧ IsEnum s₁.heap I it 0 .none ∧ s₁.heap.IsStrIter it (strIterType xt) xt tx 0 ∧ I ≠ it ∧ L ≠ I ∧ L ≠ it ∧ h₀.get? I = none ∧ h₀.get? it = none ∧ (∀ q ∈ news, q.1 ≠ I) ∧ (∀ q ∈ news, q.1 ≠ it) ∧
    EnumTurn prog w A h₀ L m env c elt a b scope cl s₁ xt p news ∧
    ∀ ys D h tk, PlacesAre ys xt.cps.toList p → Fr h₀ L h (fun z => if z = y then some (.ref D) else m z) → News h₀ L h ((D, lst ys) :: news) → Off1 D news → Q .next { s₁ with heap := h, toks := tk }
theorem Assign_enum {elt iter c : PySem.Expr} {a b y : Str} {pa pb tp py : Pos} {kk : Nat} {scope : Scope} {cl : List (Str × Addr)} {pos spos : Pos} {Q : Flow → Shared → Prop} (_F₀ : Fr h₀ L s.heap m) (hLe : env.locals = L)
    (hsw : swapsWith (.ListComp elt [⟨.Tuple [.Name a pa, .Name b pb] kk tp, iter, [c], 0⟩] scope pos) (some (.Name y py)) spos.line env = pure true)
    (hclos : closureFor scope env = pure cl) (hcell : ∀ y ∈ scope.names, y.2 ≠ .cell) (hkind : scope.kind = .function)
    (hnames : ∀ y ∈ scope.names, y.2 = .local → scope.names.lookup y.1 = some .local) (hxa : scope.names.lookup a = some .local) (hxb : scope.names.lookup b = some .local) (hab : ¬ a = b)
    (hy : env.kindOf y = some .local) (hp : (env.scope.kind == .class || (env.scope.kind == .module && env.locals != env.globals)) = false)
    (h : wpAny (model prog w) A (eval iter env) (EnumSrcA prog w A h₀ L m env c elt a b scope cl y Q) E s)
    (hs : ∀ x, foldedSetIterable iter env x = pure x := by intro _; rfl) :
    wpAny (model prog w) A (exec (.Assign [.Name y py] (.ListComp elt [⟨.Tuple [.Name a pa, .Name b pb] kk tp, iter, [c], 0⟩] scope pos) spos) env) Q E s := by
  subst hLe
  rw [exec_Assign_Name_used _ _ _ _ hsw]
  refine wpAny_bind (wpAny_standAt (wpAny_bind ?_))
  show wpAny _ A (do let _ ← comprehension (.ListComp elt [⟨.Tuple [.Name a pa, .Name b pb] kk tp, iter, [c], 0⟩] scope pos) scope env _ (newList []) false (eval iter env) (some (assign (.Name y py) env))) _ _ s
  refine wpAny_bind (wpAny_mono (wpAny_comprehension_free (use := some (assign (.Name y py) env)) (Q := fun _ s' => Q .next s') rfl hs hclos hkind hnames
    (wpAny_mono h (fun xv s₁ h₁ => ?_) fun _ _ e => e)) (fun _ s' hq => wpAny_pure (wpAny_pure hq)) fun _ _ e => e)
  obtain ⟨xt, tx, news, p, I, it, rfl, hh, F, N, hsz, he, hit, hne, hLI, hLt, hI₀, hT₀, off, offt, turn, fin⟩ := h₁
  refine wpAny_pyIter_enum he ?_
  have post : ∀ D C h tk m' ys, Fr h₀ env.locals h m → News h₀ env.locals h ((D, lst ys) :: news) → Off1 D news → h.Ns C m' → h₀.get? C = none → h₀.get? D = none → C ≠ env.locals → D ≠ env.locals → C ≠ D → (∀ q ∈ news, q.1 ≠ C) → PlacesAre ys xt.cps.toList p →
      compPost (model prog w) A E (some (assign (.Name y py) env)) (fun _ s' => Q .next s') (.ref D) C (.ok .next) { s₁ with heap := h, toks := tk } := by
    intro D C h' tk m' ys F' N' o1 hn hC₀ hD₀ hCL hDL hCD offC hP
    show wpAny _ A (assign (.Name y py) env (.ref D)) _ _ _
    refine wpAny_assign_Name (wpAny_storeName_local hy F'.ns (fun h₂ hn₂ hs₂ => ?_) hp)
    have hL₀ : h₀.get? env.locals = none := Heap.get?_none_of_le F'.above
    have F₂ : Fr h₀ env.locals h₂ (fun z => if z = y then some (.ref D) else m z) := ⟨hn₂, fun b o e => hs₂.extBut b o (fun q => by rw [q, hL₀] at e; cases e) (F'.keep b o e), F'.above⟩
    refine ⟨m', hn.sameBut hs₂ hCL, fun h'' hs'' => fin ys D h'' _ hP (F₂.change hs'' hCL hC₀) (fun p hp => ?_) o1⟩
    have z : h₂.get? p.1 = some p.2 := hs₂.extBut _ _ (N' p hp).2.1 (N' p hp).1
    refine ⟨hs''.extBut _ _ ?_ z, (N' p hp).2⟩
    rcases List.mem_cons.mp hp with rfl | hp
    · exact Ne.symm hCD
    · exact offC p hp
  cases ha : xt.cps.all (· < 128)
  · have hit' : s₁.heap.IsStrIter it "str_iterator" xt tx 0 := by simpa [strIterType, ha] using hit
    exact enum_block hh (Draws.strWide (A := A.in1) hh it xt tx) hne hsz he hit' hcell hkind hxa hxb hab F N hLI hI₀ hLt hT₀ off offt turn post
  · have hit' : s₁.heap.IsStrIter it "str_ascii_iterator" xt tx 0 := by simpa [strIterType, ha] using hit
    exact enum_block hh (Draws.strAscii (A := A.in1) hh it xt tx) hne hsz he hit' hcell hkind hxa hxb hab F N hLI hI₀ hLt hT₀ off offt turn post
theorem call_enumA {c elt : PySem.Expr} {a b y : Str} {scope : Scope} {cl : List (Str × Addr)} {x : Str} {tx : Tok} {news : List (Addr × Obj)} {Q : Flow → Shared → Prop} (p : Nat → Bool) (hh : A.handled = none) (F : Fr h₀ L s.heap m) (N : News h₀ L s.heap news) (hsz : x.cps.size ≤ sizeLine)
    (turn : ∀ g, EnumTurn prog w A h₀ L m env c elt a b scope cl { s with heap := g } x p news)
    (fin : ∀ ys D h tk, PlacesAre ys x.cps.toList p → Fr h₀ L h (fun z => if z = y then some (.ref D) else m z) → News h₀ L h ((D, lst ys) :: news) → Off1 D news → Q .next { s with heap := h, toks := tk }) :
    wpAny (model prog w) A (call (.type "enumerate") [.str x tx]) (EnumSrcA prog w A h₀ L m env c elt a b scope cl y Q) E s := by
  have hLs : L < s.heap.objs.size := F.ns.lt
  have hab : h₀.objs.size ≤ L := F.above
  refine call_enumerate_str fun h' he hit hsz' hk => ?_
  have hN : ∀ q ∈ news, q.1 < s.heap.objs.size := fun q hq => Heap.lt_size (N q hq).1
  exact ⟨x, tx, news, p, _, _, rfl, hh, ⟨F.ns.keeps hk, fun b o e => hk b o (F.keep b o e), F.above⟩, fun q hq => ⟨hk _ _ (N q hq).1, (N q hq).2⟩, hsz, he, hit, Nat.succ_ne_self _, Nat.ne_of_lt (Nat.lt_succ_of_lt hLs), Nat.ne_of_lt hLs,
    Heap.get?_none_of_le (Nat.le_trans hab (Nat.le_of_lt (Nat.lt_succ_of_lt hLs))), Heap.get?_none_of_le (Nat.le_trans hab (Nat.le_of_lt hLs)), fun q hq => Nat.ne_of_lt (Nat.lt_succ_of_lt (hN q hq)), fun q hq => Nat.ne_of_lt (hN q hq), turn h', fin⟩
end
section
variable {prog : Program} {w : World} {A : Around} {E : Value → Shared → Prop} {s : Shared}
theorem shaped_ints (ss : List Int) : SeqAt.shaped (.list (ss.map PyData.int)) = true := by
  have h1 : ∀ ss : List Int, PyData.canLayAll0 (ss.map PyData.int) = true := fun ss => by
    induction ss with
    | nil => rfl
    | cons a r ih => simp [PyData.canLayAll0, PyData.canLay0, ih]
  have h2 : ∀ ss : List Int, PyData.depthAll (ss.map PyData.int) = 0 := fun ss => by
    induction ss with
    | nil => rfl
    | cons a r ih => simp [PyData.depthAll, PyData.depth, ih]
  simp [SeqAt.shaped, PyData.canLay0, PyData.depth, h1 ss, h2]
theorem carried_ints : ∀ {vs : List Value} {ns : List Int}, IntsAre vs ns → CarriedAll vs (ns.map PyData.int)
  | _, _, .nil => .nil
  | _, _, .cons _ t r => .cons (.int _ t) (carried_ints r)
theorem ne_intsNil {a b : Addr} {xs ys : Array Value} {ns : List Int} {Q : Value → Shared → Prop} (ha : s.heap.IsList a xs) (hb : s.heap.IsList b ys) (hi : IntsAre xs.toList ns) (hj : ys.toList = []) (hu : A.units + 64 < cLine) (h : Q (.bool (!ns.isEmpty)) s) :
    wpAny (model prog w) A (compareOp .NotEq (.ref a) (.ref b)) Q E s := by
  refine ne_dataH_same (reads_newData (by simpa using ha) (carried_ints hi)) (reads_newData (ys := []) (by have h9 := hb; rw [show ys = #[] from by simpa using hj] at h9; exact h9) .nil) (shaped_ints _) (shaped_ints []) hu (SeqAt.noMix_of_shape (.list .int) rfl _ _ (list_map_has fun _ => rfl) rfl) ?_
  simp only [PySem.Spec.same]
  cases ns with
  | nil => simpa [PySem.Spec.sameAll] using h
  | cons n r => simpa [PySem.Spec.sameAll] using h
end
end
local macro_rules | `(tactic| walk_at "ite") => `(tactic| (k_here; k_extra "ite"))
local macro_rules | `(tactic| walk_at "storeName") => `(tactic| (k_here; k_extra "storeName"))
local macro_rules | `(tactic| walk_at "subscriptTail Name Constant ref int") => `(tactic| (k_here; k_extra "subscriptTail Name Constant ref int"))
local macro_rules | `(tactic| k_ne) => `(tactic| (refine neN ?_; (try dsimp only); first | assumption | (exact Ne.symm (by assumption)) | (simp only [*, ne_eq, not_false_eq_true]; done) | (refine Ne.symm ?_; simp only [*, ne_eq, not_false_eq_true]; done) | (refine Nat.ne_of_gt ?_; simp only [*]; done) | (refine Nat.ne_of_lt ?_; simp only [*]; done) | omega))
theorem holds : PySem.Challenge.rw_nu0053_01.Holds := hd (by
  k_with_none
  w_top off
  k_with_none
  k_go0
  (all_goals try k_fold)
  rename Shared => s1
  (try (rename Glob _ _ _ _ _ _ _ _ => zGL; clear zGL))
  (try (rename Ground _ _ _ _ _ _ => zG; clear zG))
  (try (rename Tables _ _ _ _ => zB; clear zB))
  (try (rename TopE _ _ _ => zTE; clear zTE))
  (try (rename TopW _ _ _ => zTW; clear zTW))
  (try (rename BMod _ _ _ _ _ => zM; clear zM))
  (try (rename Flt.MathXP _ _ _ => zX; clear zX))
  (try (rename LooseAre _ _ _ => zV; clear zV))
  (try (rename Dflts _ _ _ => zD; clear zD))
  (try (rename CellsAre _ _ _ => zC; clear zC))
  (try (rename Heap.CodeRec _ _ _ => zK; clear zK))
  (try (rename Well _ _ _ _ => zW; clear zW))
  (try (rename Reads _ _ _ _ => zR; clear zR))
  (try (rename ReadsAll _ _ _ _ => zRA; clear zRA))
  (try (rename ReadsAllW _ _ _ _ _ _ => zRW; clear zRW))
  k_with "kk5" => (have h5 := hi'; (repeat' split at h5) <;> omega)
  k_with "joinok" => assumption
  k_with "exec For Name Call cons nil" => ((rename Fr _ _ _ _ => lF'); (with_unfolding_all refine' For_invVF lF' ?k1 ?k2 ?_; (case k1 => exact rfl); (case k2 => exact rfl); k_whole))
  k_with "pyIter ref" => k_dflt ((with_reducible show wpAny _ _ (pyIter (Value.ref _)) (fun it s₂ => LoopAtV _ _ _ _ _ _ _ _ _ it s₂) _ _); (with_unfolding_all refine' iterL_range (Str.ofString "script") (by rfl) ?kR ?kS ?kZ ?kF ?kN ?kc1 ?kc2 ?kSC (by decide) (fun i' t' u' o1' o2' c1' c2' h' tk' own' hi' hoff' e1' e2' F' N' => ?_) (fun u' o1' o2' c1' c2' h' tk' e1' e2' F' N' => ?_); (case kR => assumption); (case kF => k_asm); (case kSC => with_unfolding_all rfl); (case kN => k_asm); (case kc1 => assumption); (case kc2 => assumption); (case kS => first | decide | exact small_one (by l_bnd) (by l_bnd) (by l_bnd) (by l_bnd)); (case kZ => first | exact rangeSize_nat _ _ | rfl)); (all_goals (try (simp only [List.cons_append, List.nil_append] at N'))); (all_goals (try k_sweep)); (all_goals (try k_fold)))
  k_with "storeName" => (k_dflt ((refine' storeX_C ?sF ?sN ?sc ?sU ?sd ?_ (by rfl) (by rfl)); (case sF => k_asm); (case sN => k_asm); (case sc => with_unfolding_all rfl); (case sU => k_updF); (case sd => assumption)); intro h8 o8 F8 N8 d8; (try dsimp only at N8); (try k_sweep))
  k_with "exec Assign cons ListComp" => ((with_reducible show wpAny _ _ (exec (Stmt.Assign _ (Expr.ListComp _ [⟨Expr.Name _ _, _, _, _⟩] _ _) _) _) _ _ _); (k_dflt (refine' LCg.Assign_ListComp_U (by k_asm) (by rfl) (by with_unfolding_all rfl) (by with_unfolding_all rfl) (by decide) (by rfl) (by decide) (by rfl) (by rfl) (by rfl) ?_)))
  k_with "exec Assign cons ListComp" => ((with_reducible show wpAny _ _ (exec (Stmt.Assign _ (Expr.ListComp _ [⟨Expr.Tuple _ _ _, _, _, _⟩] _ _) _) _) _ _ _); (k_dflt (refine' Assign_enum (by k_asm) (by rfl) (by with_unfolding_all rfl) (by with_unfolding_all rfl) (by decide) (by rfl) (by decide) (by rfl) (by rfl) (by decide) (by rfl) (by rfl) ?_)))
  k_with "eval ListComp" => (k_dflt (refine' LCg.ListComp_U (by k_asm) (by with_unfolding_all rfl) (by decide) (by rfl) (by decide) (by rfl) ?_))
  k_with "CompSrc" => ((with_reducible show LCg.CompSrc _ _ _ _ _ _ _ (Expr.Call (Expr.Name (Str.ofString "_law_code") _) _ _ _) _ _ _ _ _ _); (k_dflt ((refine LCg.CompSrc.range (by rfl) (by k_asm) (by k_asm) (by assumption) (by first | decide | exact few_small (by assumption) (by assumption) (by decide)) (by first | exact rangeSize_nat _ _ | rfl) (by first | exact Nat.le_of_ble_eq_true rfl | exact few_fit (by assumption) (by decide)) ?_); intro g9; (refine' comp_drawP (IntIn 0 1114112) ?cP1 ?cU1 ?cT1 ?cF1; (case cP1 => assumption); (case cU1 => (first | (refine' UpdF.head ?_; first | (intro p9 hp9; cases hp9; done) | (intro p9 hp9; (rcases List.mem_singleton.mp hp9 with rfl); (dsimp only); assumption) | ((repeat (refine' List.forall_mem_cons.mpr (And.intro ?_ ?_); (focus (first | assumption | k_ne)))); assumption) | k_all) | (refine' UpdF.tail ?ua7 ?ub7; (case ua7 => first | assumption | k_ne); (case ub7 => (first | (refine' UpdF.head ?_; first | (intro p9 hp9; cases hp9; done) | (intro p9 hp9; (rcases List.mem_singleton.mp hp9 with rfl); (dsimp only); assumption) | ((repeat (refine' List.forall_mem_cons.mpr (And.intro ?_ ?_); (focus (first | assumption | k_ne)))); assumption) | k_all) | (refine' UpdF.tail ?ua6 ?ub6; (case ua6 => first | assumption | k_ne); (case ub6 => (first | (refine' UpdF.head ?_; first | (intro p9 hp9; cases hp9; done) | (intro p9 hp9; (rcases List.mem_singleton.mp hp9 with rfl); (dsimp only); assumption) | ((repeat (refine' List.forall_mem_cons.mpr (And.intro ?_ ?_); (focus (first | assumption | k_ne)))); assumption) | k_all) | (refine' UpdF.tail ?ua5 ?ub5; (case ua5 => first | assumption | k_ne); (case ub5 => (first | (refine' UpdF.head ?_; first | (intro p9 hp9; cases hp9; done) | (intro p9 hp9; (rcases List.mem_singleton.mp hp9 with rfl); (dsimp only); assumption) | ((repeat (refine' List.forall_mem_cons.mpr (And.intro ?_ ?_); (focus (first | assumption | k_ne)))); assumption) | k_all) | (refine' UpdF.tail ?ua4 ?ub4; (case ua4 => first | assumption | k_ne); (case ub4 => (first | (refine' UpdF.head ?_; first | (intro p9 hp9; cases hp9; done) | (intro p9 hp9; (rcases List.mem_singleton.mp hp9 with rfl); (dsimp only); assumption) | ((repeat (refine' List.forall_mem_cons.mpr (And.intro ?_ ?_); (focus (first | assumption | k_ne)))); assumption) | k_all) | (refine' UpdF.tail ?ua3 ?ub3; (case ua3 => first | assumption | k_ne); (case ub3 => (first | (refine' UpdF.head ?_; first | (intro p9 hp9; cases hp9; done) | (intro p9 hp9; (rcases List.mem_singleton.mp hp9 with rfl); (dsimp only); assumption) | ((repeat (refine' List.forall_mem_cons.mpr (And.intro ?_ ?_); (focus (first | assumption | k_ne)))); assumption) | k_all) | (refine' UpdF.tail ?ua2 ?ub2; (case ua2 => first | assumption | k_ne); (case ub2 => (first | (refine' UpdF.head ?_; first | (intro p9 hp9; cases hp9; done) | (intro p9 hp9; (rcases List.mem_singleton.mp hp9 with rfl); (dsimp only); assumption) | ((repeat (refine' List.forall_mem_cons.mpr (And.intro ?_ ?_); (focus (first | assumption | k_ne)))); assumption) | k_all) | (refine' UpdF.tail ?ua1 ?ub1; (case ua1 => first | assumption | k_ne); (case ub1 => (first | (refine' UpdF.head ?_; first | (intro p9 hp9; cases hp9; done) | (intro p9 hp9; (rcases List.mem_singleton.mp hp9 with rfl); (dsimp only); assumption) | ((repeat (refine' List.forall_mem_cons.mpr (And.intro ?_ ?_); (focus (first | assumption | k_ne)))); assumption) | k_all) | (refine' UpdF.tail ?ua0 ?ub0; (case ua0 => first | assumption | k_ne); (case ub0 => ((refine' UpdF.head ?_; first | (intro p9 hp9; cases hp9; done) | (intro p9 hp9; (rcases List.mem_singleton.mp hp9 with rfl); (dsimp only); assumption) | ((repeat (refine' List.forall_mem_cons.mpr (And.intro ?_ ?_); (focus (first | assumption | k_ne)))); assumption) | k_all))))))))))))))))))))))))))); (case' cT1 => intro v' I' oI' C' oC' D' m' ys' b' c' t1' t2' k' h' tk' E' hC' hx' F' N' off' ne'); (case' cF1 => intro ys9 b9 c9 t19 t29 k9 hl9 hp9; (obtain ⟨x9, y9, tx9, ty9, e9, hx9, hy9⟩ := two_ints hl9 hp9; subst e9))))); (all_goals (try dsimp only at N')); (all_goals (try dsimp only at off')); (all_goals (try (simp only [LCg.Off3, and_true] at off'))); (all_goals (try dsimp only)); (all_goals (try k_sweep)); (all_goals (try k_fold)))
  k_with "CompSrc" => ((with_reducible show LCg.CompSrc _ _ _ _ _ _ _ (Expr.Call (Expr.Name (Str.ofString "_law_one") _) [_, Expr.Name _ _] _ _) _ _ _ _ _ _); (k_dflt ((refine LCg.CompSrc.range (by rfl) (by k_asm) (by k_asm) (by assumption) (by first | decide | exact few_small (by assumption) (by assumption) (by decide)) (by first | exact rangeSize_nat _ _ | rfl) (by first | exact Nat.le_of_ble_eq_true rfl | exact few_fit (by assumption) (by decide)) ?_); intro g9; (refine' comp_drawP (InStrs (menuW x9.toNat)) ?cP2 ?cU2 ?cT2 ?cF2; (case cP2 => assumption); (case cU2 => (first | (refine' UpdF.head ?_; first | (intro p9 hp9; cases hp9; done) | (intro p9 hp9; (rcases List.mem_singleton.mp hp9 with rfl); (dsimp only); assumption) | ((repeat (refine' List.forall_mem_cons.mpr (And.intro ?_ ?_); (focus (first | assumption | k_ne)))); assumption) | k_all) | (refine' UpdF.tail ?ua7 ?ub7; (case ua7 => first | assumption | k_ne); (case ub7 => (first | (refine' UpdF.head ?_; first | (intro p9 hp9; cases hp9; done) | (intro p9 hp9; (rcases List.mem_singleton.mp hp9 with rfl); (dsimp only); assumption) | ((repeat (refine' List.forall_mem_cons.mpr (And.intro ?_ ?_); (focus (first | assumption | k_ne)))); assumption) | k_all) | (refine' UpdF.tail ?ua6 ?ub6; (case ua6 => first | assumption | k_ne); (case ub6 => (first | (refine' UpdF.head ?_; first | (intro p9 hp9; cases hp9; done) | (intro p9 hp9; (rcases List.mem_singleton.mp hp9 with rfl); (dsimp only); assumption) | ((repeat (refine' List.forall_mem_cons.mpr (And.intro ?_ ?_); (focus (first | assumption | k_ne)))); assumption) | k_all) | (refine' UpdF.tail ?ua5 ?ub5; (case ua5 => first | assumption | k_ne); (case ub5 => (first | (refine' UpdF.head ?_; first | (intro p9 hp9; cases hp9; done) | (intro p9 hp9; (rcases List.mem_singleton.mp hp9 with rfl); (dsimp only); assumption) | ((repeat (refine' List.forall_mem_cons.mpr (And.intro ?_ ?_); (focus (first | assumption | k_ne)))); assumption) | k_all) | (refine' UpdF.tail ?ua4 ?ub4; (case ua4 => first | assumption | k_ne); (case ub4 => (first | (refine' UpdF.head ?_; first | (intro p9 hp9; cases hp9; done) | (intro p9 hp9; (rcases List.mem_singleton.mp hp9 with rfl); (dsimp only); assumption) | ((repeat (refine' List.forall_mem_cons.mpr (And.intro ?_ ?_); (focus (first | assumption | k_ne)))); assumption) | k_all) | (refine' UpdF.tail ?ua3 ?ub3; (case ua3 => first | assumption | k_ne); (case ub3 => (first | (refine' UpdF.head ?_; first | (intro p9 hp9; cases hp9; done) | (intro p9 hp9; (rcases List.mem_singleton.mp hp9 with rfl); (dsimp only); assumption) | ((repeat (refine' List.forall_mem_cons.mpr (And.intro ?_ ?_); (focus (first | assumption | k_ne)))); assumption) | k_all) | (refine' UpdF.tail ?ua2 ?ub2; (case ua2 => first | assumption | k_ne); (case ub2 => (first | (refine' UpdF.head ?_; first | (intro p9 hp9; cases hp9; done) | (intro p9 hp9; (rcases List.mem_singleton.mp hp9 with rfl); (dsimp only); assumption) | ((repeat (refine' List.forall_mem_cons.mpr (And.intro ?_ ?_); (focus (first | assumption | k_ne)))); assumption) | k_all) | (refine' UpdF.tail ?ua1 ?ub1; (case ua1 => first | assumption | k_ne); (case ub1 => (first | (refine' UpdF.head ?_; first | (intro p9 hp9; cases hp9; done) | (intro p9 hp9; (rcases List.mem_singleton.mp hp9 with rfl); (dsimp only); assumption) | ((repeat (refine' List.forall_mem_cons.mpr (And.intro ?_ ?_); (focus (first | assumption | k_ne)))); assumption) | k_all) | (refine' UpdF.tail ?ua0 ?ub0; (case ua0 => first | assumption | k_ne); (case ub0 => ((refine' UpdF.head ?_; first | (intro p9 hp9; cases hp9; done) | (intro p9 hp9; (rcases List.mem_singleton.mp hp9 with rfl); (dsimp only); assumption) | ((repeat (refine' List.forall_mem_cons.mpr (And.intro ?_ ?_); (focus (first | assumption | k_ne)))); assumption) | k_all))))))))))))))))))))))))))); (case' cT2 => intro v' I' oI' C' oC' D' m' ys' b' c' t1' t2' k' h' tk' E' hC' hx' F' N' off' ne'); (case' cF2 => intro ys9 b9 c9 t19 t29 k9 hl9 hp9; (obtain ⟨ws9, hs9, hj9, hz9, ho9⟩ := name_facts hx9 hl9 (by assumption) hp9))))); (all_goals (try dsimp only at N')); (all_goals (try dsimp only at off')); (all_goals (try (simp only [LCg.Off3, and_true] at off'))); (all_goals (try dsimp only)); (all_goals (try k_sweep)); (all_goals (try k_fold)))
  k_with "CompSrc" => ((with_reducible show LCg.CompSrc _ _ _ _ _ _ _ (Expr.Call (Expr.Name (Str.ofString "_law_one") _) [_, Expr.List _ _] _ _) _ _ _ _ _ _); (k_dflt ((refine LCg.CompSrc.range (by rfl) (by k_asm) (by k_asm) (by assumption) (by first | decide | exact few_small (by assumption) (by assumption) (by decide)) (by first | exact rangeSize_nat _ _ | rfl) (by first | exact Nat.le_of_ble_eq_true rfl | exact few_fit (by assumption) (by decide)) ?_); intro g9; (refine' comp_drawP (InStrs textW) ?cP3 ?cU3 ?cT3 ?cF3; (case cP3 => assumption); (case cU3 => (first | (refine' UpdF.head ?_; first | (intro p9 hp9; cases hp9; done) | (intro p9 hp9; (rcases List.mem_singleton.mp hp9 with rfl); (dsimp only); assumption) | ((repeat (refine' List.forall_mem_cons.mpr (And.intro ?_ ?_); (focus (first | assumption | k_ne)))); assumption) | k_all) | (refine' UpdF.tail ?ua7 ?ub7; (case ua7 => first | assumption | k_ne); (case ub7 => (first | (refine' UpdF.head ?_; first | (intro p9 hp9; cases hp9; done) | (intro p9 hp9; (rcases List.mem_singleton.mp hp9 with rfl); (dsimp only); assumption) | ((repeat (refine' List.forall_mem_cons.mpr (And.intro ?_ ?_); (focus (first | assumption | k_ne)))); assumption) | k_all) | (refine' UpdF.tail ?ua6 ?ub6; (case ua6 => first | assumption | k_ne); (case ub6 => (first | (refine' UpdF.head ?_; first | (intro p9 hp9; cases hp9; done) | (intro p9 hp9; (rcases List.mem_singleton.mp hp9 with rfl); (dsimp only); assumption) | ((repeat (refine' List.forall_mem_cons.mpr (And.intro ?_ ?_); (focus (first | assumption | k_ne)))); assumption) | k_all) | (refine' UpdF.tail ?ua5 ?ub5; (case ua5 => first | assumption | k_ne); (case ub5 => (first | (refine' UpdF.head ?_; first | (intro p9 hp9; cases hp9; done) | (intro p9 hp9; (rcases List.mem_singleton.mp hp9 with rfl); (dsimp only); assumption) | ((repeat (refine' List.forall_mem_cons.mpr (And.intro ?_ ?_); (focus (first | assumption | k_ne)))); assumption) | k_all) | (refine' UpdF.tail ?ua4 ?ub4; (case ua4 => first | assumption | k_ne); (case ub4 => (first | (refine' UpdF.head ?_; first | (intro p9 hp9; cases hp9; done) | (intro p9 hp9; (rcases List.mem_singleton.mp hp9 with rfl); (dsimp only); assumption) | ((repeat (refine' List.forall_mem_cons.mpr (And.intro ?_ ?_); (focus (first | assumption | k_ne)))); assumption) | k_all) | (refine' UpdF.tail ?ua3 ?ub3; (case ua3 => first | assumption | k_ne); (case ub3 => (first | (refine' UpdF.head ?_; first | (intro p9 hp9; cases hp9; done) | (intro p9 hp9; (rcases List.mem_singleton.mp hp9 with rfl); (dsimp only); assumption) | ((repeat (refine' List.forall_mem_cons.mpr (And.intro ?_ ?_); (focus (first | assumption | k_ne)))); assumption) | k_all) | (refine' UpdF.tail ?ua2 ?ub2; (case ua2 => first | assumption | k_ne); (case ub2 => (first | (refine' UpdF.head ?_; first | (intro p9 hp9; cases hp9; done) | (intro p9 hp9; (rcases List.mem_singleton.mp hp9 with rfl); (dsimp only); assumption) | ((repeat (refine' List.forall_mem_cons.mpr (And.intro ?_ ?_); (focus (first | assumption | k_ne)))); assumption) | k_all) | (refine' UpdF.tail ?ua1 ?ub1; (case ua1 => first | assumption | k_ne); (case ub1 => (first | (refine' UpdF.head ?_; first | (intro p9 hp9; cases hp9; done) | (intro p9 hp9; (rcases List.mem_singleton.mp hp9 with rfl); (dsimp only); assumption) | ((repeat (refine' List.forall_mem_cons.mpr (And.intro ?_ ?_); (focus (first | assumption | k_ne)))); assumption) | k_all) | (refine' UpdF.tail ?ua0 ?ub0; (case ua0 => first | assumption | k_ne); (case ub0 => ((refine' UpdF.head ?_; first | (intro p9 hp9; cases hp9; done) | (intro p9 hp9; (rcases List.mem_singleton.mp hp9 with rfl); (dsimp only); assumption) | ((repeat (refine' List.forall_mem_cons.mpr (And.intro ?_ ?_); (focus (first | assumption | k_ne)))); assumption) | k_all))))))))))))))))))))))))))); (case' cT3 => intro v' I' oI' C' oC' D' m' ys' b' c' t1' t2' k' h' tk' E' hC' hx' F' N' off' ne'); (case' cF3 => intro ys9 b9 c9 t19 t29 k9 hl9 hp9; (obtain ⟨wt9, hs9, hj9, hz9, ho9⟩ := text_facts hl9 (by assumption) hp9))))); (all_goals (try dsimp only at N')); (all_goals (try dsimp only at off')); (all_goals (try (simp only [LCg.Off3, and_true] at off'))); (all_goals (try dsimp only)); (all_goals (try k_sweep)); (all_goals (try k_fold)))
  k_with "CompEnd" => (k_dflt (refine' LCg.CompEnd.intro ?eF ?eN _ (fun _ h9 => h9) ?eO True.intro ?eR; (case eF => k_asm); (case eN => k_asm); (case eO => assumption); (case eR => first | exact ⟨⟨_, _, rfl, by assumption, by assumption⟩, _, _, _, _, _, rfl⟩ | exact ⟨⟨_, _, rfl, by assumption⟩, _, _, _, _, _, rfl⟩)))
  k_with "CompEnd" => (k_dflt (refine' LCg.CompEnd.intro ?eF ?eN _ ?eS ?eO True.intro (drew_intro b9 c9 t19 t29 k9 hi9); (case eF => k_asm); (case eN => k_asm); (case eS => first | exact (fun _ h9 => h9) | exact (fun _ h9 => List.mem_cons_of_mem _ h9)); (case eO => first | assumption | k_all)))
  k_with "CompEnd" => (k_dflt (first | (refine' LCg.CompEnd.intro ?eF ?eN _ (fun _ h9 => h9) ?eO True.intro ⟨rfl, ?eP⟩; (case eF => k_asm); (case eN => k_asm); (case eO => first | assumption | k_all); (case eP => rw [← charB_eq]; simp only [*]; rfl)) | (refine' LCg.CompEnd.intro ?eF ?eN _ (fun _ h9 => h9) ?eO True.intro ⟨rfl, ?eP, _, rfl⟩; (case eF => k_asm); (case eN => k_asm); (case eO => first | assumption | k_all); (case eP => rw [← charB_eq]; simp only [*]; rfl))))
  k_with "ite" => (k_closed; with_reducible (first | refine ite_pos (by decide) ?_ | refine ite_neg (by decide) ?_))
  k_with "subscriptTail Name Constant ref int" => (k_dflt (refine' item_at (News.isList (by k_asm) (by k_mem)) (by decide) (by decide) (by rfl) ?_ (by with_unfolding_all rfl)))
  k_with "call builtin:chr" => (first | ((with_reducible show wpAny _ _ (call (Value.builtin "chr") [Value.int 183 _]) _ _ _); (refine chr_of_range (by decide) (by decide) ?_)) | ((k_dflt (with_unfolding_all show wpAny _ _ (call (Value.builtin "chr") [Value.int x9 _]) _ _ _)); (refine chr_of_range hx9.1 (by have := hx9.2; omega) ?_)))
  k_with "call builtin:str.join" => ((with_reducible show wpAny _ _ (call (Value.builtin "str.join") [Value.str _ _, Value.ref _]) _ _ _); k_here; (k_dflt (refine' join_list ?kl ?ki ?ko ?_; (case kl => first | is_list | exact News.isList (by k_asm) (by k_mem)); (case ki => first | assumption | (with_unfolding_all assumption)); (case ko => k_extra "joinok"))); intro t9 k9; (try dsimp only); (try (rename (List.map _ _ = Txt.split _ _) => e9; (simp only [e9]))))
  k_with "call type:enumerate" => (k_dflt (refine' call_enumA (fun c => !charN c) (by rfl) ?kF ?kN ?kz ?turn ?fin; (case kF => k_asm); (case kN => k_asm); (case kz => (first | exact fit_text (by assumption) | exact fit_split (by assumption) (by assumption) | (rw [PySem.sizeLine_eq]; first | omega | (simp only [Str.length] at *; omega)))); (case' turn => (intro g' i' d' t' u' I' oI' it' oit' C' oC' D' m' ys' h' tk' E' hd' hC' ha' hb' F' N' off' ne' offt'; (try dsimp only at off'); (try (simp only [LCg.Off3, and_true] at off')); (try (simp only [List.forall_mem_cons, List.forall_mem_nil, and_true] at offt')))); (case' fin => (intro ys9 D9 h9 k9 hp9 F9 N9 o9; (rcases places_cases hp9 with ⟨e9, q9⟩ | ⟨i9, t9, r9, e9, q9⟩) <;> (unfold PlacesAre at hp9; subst e9)))); (all_goals (try dsimp only)); (all_goals (try k_sweep)); (all_goals (try k_fold)))
  k_with "call ref" => ((with_reducible show wpAny _ _ (call (Value.ref 116) _) _ _ _); k_here; k_dflt (refine' saysV_use (c_other _ _ _ _ _ _ ?hyp0) ?k1 ?k2 ?k3 ?k4 ?k5 ?kK ?kd ?ku ?_; (case k1 => k_asm); (case k2 => k_asm); (case k3 => k_asm); (case k4 => k_asm); (case k5 => k_asm); (case kK => first | exact rfl | assumption); (case kd => ktr_room); (case ku => ktr_units); (case hyp0 => assumption)); intro t9 h9 tk9 F9 N9; rw [q9]; (try dsimp only [optV]); (try k_sweep); (try k_fold))
  k_with "call ref" => ((with_reducible show wpAny _ _ (call (Value.ref 206) _) _ _ _); k_here; k_dflt (refine' saysV_use (c_isinC _ _ _ _ _ _) ?k1 ?k2 ?k3 ?k4 ?k5 ?kK ?kd ?ku ?_; (case k1 => k_asm); (case k2 => k_asm); (case k3 => k_asm); (case k4 => k_asm); (case k5 => k_asm); (case kK => first | exact rfl | assumption); (case kd => ktr_room); (case ku => ktr_units)); intro t9 h9 tk9 F9 N9; (try dsimp only); (try k_sweep); (try k_fold))
  k_with "call ref" => ((with_reducible show wpAny _ _ (call (Value.ref 256) _) _ _ _); k_here; k_dflt (refine' saysV_use (c_spacesright _ _ _ _ _ _ ?hyp0 ?hyp1) ?k1 ?k2 ?k3 ?k4 ?k5 ?kK ?kd ?ku ?_; (case k1 => k_asm); (case k2 => k_asm); (case k3 => k_asm); (case k4 => k_asm); (case k5 => k_asm); (case kK => first | exact rfl | assumption); (case kd => ktr_room); (case ku => ktr_units); (case hyp0 => assumption); (case hyp1 => assumption)); intro t9 h9 tk9 F9 N9; (try dsimp only); (try k_sweep); (try k_fold))
  k_with "call ref" => ((with_reducible show wpAny _ _ (call (Value.ref 251) _) _ _ _); k_here; (k_dflt (refine' saysM_use (c_nameright _ _ _ _ _ _ ?hyp0 ?hyp1) ?k1 ?k2 ?k3 ?k4 ?k5 ?k6 ?k7 ?kK ?kd ?ku ?_; (case k1 => k_asm); (case k2 => k_asm); (case k3 => k_asm); (case k4 => k_asm); (case k5 => k_asm); (case k6 => k_asm); (case k7 => k_asm); (case kK => first | exact rfl | assumption); (case kd => ktr_room); (case ku => ktr_units); (case hyp0 => assumption); (case hyp1 => assumption))); k_dflt (intro t5 g5 h5 tk5 T5 F5 N5 B5 X5 P5; replace F5 := turn_nil T5 F5; replace N5 := turn_nil_news T5 N5; clear B5 X5 P5 T5; (try dsimp only); (try k_sweep); (try k_fold)))
  k_with "call ref" => ((with_reducible show wpAny _ _ (call (Value.ref 201) _) _ _ _); k_here; (k_dflt (refine' says_use (c_oneT _ _ _ _ _ _ _ _ _ _ _ _ _ textW _ _ ?hypU ?hypM ?hypA ?hypB ?hypS ?hyp0 ?hyp1) ?k1 ?k2 ?k3 ?k4 ?k5 ?kK ?kd ?ku ?ka ?_; (case k1 => k_asm); (case k2 => k_asm); (case k3 => k_asm); (case k4 => k_asm); (case hypM => k_mem); (case hypU => (first | (refine' UpdF.head ?_; first | (intro p9 hp9; cases hp9; done) | (intro p9 hp9; (rcases List.mem_singleton.mp hp9 with rfl); (dsimp only); assumption) | ((repeat (refine' List.forall_mem_cons.mpr (And.intro ?_ ?_); (focus (first | assumption | k_ne)))); assumption) | k_all) | (refine' UpdF.tail ?ua7 ?ub7; (case ua7 => first | assumption | k_ne); (case ub7 => (first | (refine' UpdF.head ?_; first | (intro p9 hp9; cases hp9; done) | (intro p9 hp9; (rcases List.mem_singleton.mp hp9 with rfl); (dsimp only); assumption) | ((repeat (refine' List.forall_mem_cons.mpr (And.intro ?_ ?_); (focus (first | assumption | k_ne)))); assumption) | k_all) | (refine' UpdF.tail ?ua6 ?ub6; (case ua6 => first | assumption | k_ne); (case ub6 => (first | (refine' UpdF.head ?_; first | (intro p9 hp9; cases hp9; done) | (intro p9 hp9; (rcases List.mem_singleton.mp hp9 with rfl); (dsimp only); assumption) | ((repeat (refine' List.forall_mem_cons.mpr (And.intro ?_ ?_); (focus (first | assumption | k_ne)))); assumption) | k_all) | (refine' UpdF.tail ?ua5 ?ub5; (case ua5 => first | assumption | k_ne); (case ub5 => (first | (refine' UpdF.head ?_; first | (intro p9 hp9; cases hp9; done) | (intro p9 hp9; (rcases List.mem_singleton.mp hp9 with rfl); (dsimp only); assumption) | ((repeat (refine' List.forall_mem_cons.mpr (And.intro ?_ ?_); (focus (first | assumption | k_ne)))); assumption) | k_all) | (refine' UpdF.tail ?ua4 ?ub4; (case ua4 => first | assumption | k_ne); (case ub4 => (first | (refine' UpdF.head ?_; first | (intro p9 hp9; cases hp9; done) | (intro p9 hp9; (rcases List.mem_singleton.mp hp9 with rfl); (dsimp only); assumption) | ((repeat (refine' List.forall_mem_cons.mpr (And.intro ?_ ?_); (focus (first | assumption | k_ne)))); assumption) | k_all) | (refine' UpdF.tail ?ua3 ?ub3; (case ua3 => first | assumption | k_ne); (case ub3 => (first | (refine' UpdF.head ?_; first | (intro p9 hp9; cases hp9; done) | (intro p9 hp9; (rcases List.mem_singleton.mp hp9 with rfl); (dsimp only); assumption) | ((repeat (refine' List.forall_mem_cons.mpr (And.intro ?_ ?_); (focus (first | assumption | k_ne)))); assumption) | k_all) | (refine' UpdF.tail ?ua2 ?ub2; (case ua2 => first | assumption | k_ne); (case ub2 => (first | (refine' UpdF.head ?_; first | (intro p9 hp9; cases hp9; done) | (intro p9 hp9; (rcases List.mem_singleton.mp hp9 with rfl); (dsimp only); assumption) | ((repeat (refine' List.forall_mem_cons.mpr (And.intro ?_ ?_); (focus (first | assumption | k_ne)))); assumption) | k_all) | (refine' UpdF.tail ?ua1 ?ub1; (case ua1 => first | assumption | k_ne); (case ub1 => (first | (refine' UpdF.head ?_; first | (intro p9 hp9; cases hp9; done) | (intro p9 hp9; (rcases List.mem_singleton.mp hp9 with rfl); (dsimp only); assumption) | ((repeat (refine' List.forall_mem_cons.mpr (And.intro ?_ ?_); (focus (first | assumption | k_ne)))); assumption) | k_all) | (refine' UpdF.tail ?ua0 ?ub0; (case ua0 => first | assumption | k_ne); (case ub0 => ((refine' UpdF.head ?_; first | (intro p9 hp9; cases hp9; done) | (intro p9 hp9; (rcases List.mem_singleton.mp hp9 with rfl); (dsimp only); assumption) | ((repeat (refine' List.forall_mem_cons.mpr (And.intro ?_ ?_); (focus (first | assumption | k_ne)))); assumption) | k_all))))))))))))))))))))))))))); (case hypA => first | assumption | k_ne); (case hypB => first | assumption | k_ne); (case hypS => exact text_are _ _ _ _ _ _ _); (case hyp0 => rw [text_len]; decide); (case hyp1 => rw [text_len]; decide); (case k5 => k_asm); (case kK => first | exact rfl | assumption); (case kd => ktr_room); (case ku => ktr_units); (case ka => first | exact True.intro | assumption))); intro r9 nw9 h9 tk9 hr9 F9 N9; (k_dflt (obtain ⟨hi9, b9, c9, t19, t29, k9, e9'⟩ := hr9; subst e9')); (try dsimp only at N9); (try dsimp only); (try k_sweep); (try k_fold))
  k_with "call ref" => ((with_reducible show wpAny _ _ (call (Value.ref 201) _) _ _ _); k_here; (k_dflt (refine' says_use (c_oneT _ _ _ _ _ _ _ _ _ _ _ _ _ (menuW x9.toNat) _ _ ?hypU ?hypM ?hypA ?hypB ?hypS ?hyp0 ?hyp1) ?k1 ?k2 ?k3 ?k4 ?k5 ?kK ?kd ?ku ?ka ?_; (case k1 => k_asm); (case k2 => k_asm); (case k3 => k_asm); (case k4 => k_asm); (case hypM => k_mem); (case hypU => (first | (refine' UpdF.head ?_; first | (intro p9 hp9; cases hp9; done) | (intro p9 hp9; (rcases List.mem_singleton.mp hp9 with rfl); (dsimp only); assumption) | ((repeat (refine' List.forall_mem_cons.mpr (And.intro ?_ ?_); (focus (first | assumption | k_ne)))); assumption) | k_all) | (refine' UpdF.tail ?ua7 ?ub7; (case ua7 => first | assumption | k_ne); (case ub7 => (first | (refine' UpdF.head ?_; first | (intro p9 hp9; cases hp9; done) | (intro p9 hp9; (rcases List.mem_singleton.mp hp9 with rfl); (dsimp only); assumption) | ((repeat (refine' List.forall_mem_cons.mpr (And.intro ?_ ?_); (focus (first | assumption | k_ne)))); assumption) | k_all) | (refine' UpdF.tail ?ua6 ?ub6; (case ua6 => first | assumption | k_ne); (case ub6 => (first | (refine' UpdF.head ?_; first | (intro p9 hp9; cases hp9; done) | (intro p9 hp9; (rcases List.mem_singleton.mp hp9 with rfl); (dsimp only); assumption) | ((repeat (refine' List.forall_mem_cons.mpr (And.intro ?_ ?_); (focus (first | assumption | k_ne)))); assumption) | k_all) | (refine' UpdF.tail ?ua5 ?ub5; (case ua5 => first | assumption | k_ne); (case ub5 => (first | (refine' UpdF.head ?_; first | (intro p9 hp9; cases hp9; done) | (intro p9 hp9; (rcases List.mem_singleton.mp hp9 with rfl); (dsimp only); assumption) | ((repeat (refine' List.forall_mem_cons.mpr (And.intro ?_ ?_); (focus (first | assumption | k_ne)))); assumption) | k_all) | (refine' UpdF.tail ?ua4 ?ub4; (case ua4 => first | assumption | k_ne); (case ub4 => (first | (refine' UpdF.head ?_; first | (intro p9 hp9; cases hp9; done) | (intro p9 hp9; (rcases List.mem_singleton.mp hp9 with rfl); (dsimp only); assumption) | ((repeat (refine' List.forall_mem_cons.mpr (And.intro ?_ ?_); (focus (first | assumption | k_ne)))); assumption) | k_all) | (refine' UpdF.tail ?ua3 ?ub3; (case ua3 => first | assumption | k_ne); (case ub3 => (first | (refine' UpdF.head ?_; first | (intro p9 hp9; cases hp9; done) | (intro p9 hp9; (rcases List.mem_singleton.mp hp9 with rfl); (dsimp only); assumption) | ((repeat (refine' List.forall_mem_cons.mpr (And.intro ?_ ?_); (focus (first | assumption | k_ne)))); assumption) | k_all) | (refine' UpdF.tail ?ua2 ?ub2; (case ua2 => first | assumption | k_ne); (case ub2 => (first | (refine' UpdF.head ?_; first | (intro p9 hp9; cases hp9; done) | (intro p9 hp9; (rcases List.mem_singleton.mp hp9 with rfl); (dsimp only); assumption) | ((repeat (refine' List.forall_mem_cons.mpr (And.intro ?_ ?_); (focus (first | assumption | k_ne)))); assumption) | k_all) | (refine' UpdF.tail ?ua1 ?ub1; (case ua1 => first | assumption | k_ne); (case ub1 => (first | (refine' UpdF.head ?_; first | (intro p9 hp9; cases hp9; done) | (intro p9 hp9; (rcases List.mem_singleton.mp hp9 with rfl); (dsimp only); assumption) | ((repeat (refine' List.forall_mem_cons.mpr (And.intro ?_ ?_); (focus (first | assumption | k_ne)))); assumption) | k_all) | (refine' UpdF.tail ?ua0 ?ub0; (case ua0 => first | assumption | k_ne); (case ub0 => ((refine' UpdF.head ?_; first | (intro p9 hp9; cases hp9; done) | (intro p9 hp9; (rcases List.mem_singleton.mp hp9 with rfl); (dsimp only); assumption) | ((repeat (refine' List.forall_mem_cons.mpr (And.intro ?_ ?_); (focus (first | assumption | k_ne)))); assumption) | k_all))))))))))))))))))))))))))); (case hypA => first | assumption | k_ne); (case hypB => first | assumption | k_ne); (case hypS => exact menu_are _ _ _ _ _ _ _ _ _ _ _ _); (case hyp0 => rw [menu_len]; decide); (case hyp1 => rw [menu_len]; decide); (case k5 => k_asm); (case kK => first | exact rfl | assumption); (case kd => ktr_room); (case ku => ktr_units); (case ka => first | exact True.intro | assumption))); intro r9 nw9 h9 tk9 hr9 F9 N9; (k_dflt (obtain ⟨hi9, b9, c9, t19, t29, k9, e9'⟩ := hr9; subst e9')); (try dsimp only at N9); (try dsimp only); (try k_sweep); (try k_fold))
  k_with "call ref" => ((with_reducible show wpAny _ _ (call (Value.ref 234) _) _ _ _); k_here; k_dflt (refine' saysV_use (c_sign2 _ _ _ _ _ _ ?hyp0) ?k1 ?k2 ?k3 ?k4 ?k5 ?kK ?kd ?ku ?_; (case k1 => k_asm); (case k2 => k_asm); (case k3 => k_asm); (case k4 => k_asm); (case k5 => k_asm); (case kK => first | exact rfl | assumption); (case kd => ktr_room); (case ku => ktr_units); (case hyp0 => assumption)); intro t9 h9 tk9 F9 N9; (try dsimp only); (try k_sweep); (try k_fold))
  k_with "call ref" => ((with_reducible show wpAny _ _ (call (Value.ref 227) _) _ _ _); k_here; (k_dflt (refine' says_use (c_code _ _ _ _ _ _ _ _ _ _ _ _ ?hypU ) ?k1 ?k2 ?k3 ?k4 ?k5 ?kK ?kd ?ku ?ka ?_; (case k1 => k_asm); (case k2 => k_asm); (case k3 => k_asm); (case k4 => k_asm); (case hypU => (first | (refine' UpdF.head ?_; first | (intro p9 hp9; cases hp9; done) | (intro p9 hp9; (rcases List.mem_singleton.mp hp9 with rfl); (dsimp only); assumption) | ((repeat (refine' List.forall_mem_cons.mpr (And.intro ?_ ?_); (focus (first | assumption | k_ne)))); assumption) | k_all) | (refine' UpdF.tail ?ua7 ?ub7; (case ua7 => first | assumption | k_ne); (case ub7 => (first | (refine' UpdF.head ?_; first | (intro p9 hp9; cases hp9; done) | (intro p9 hp9; (rcases List.mem_singleton.mp hp9 with rfl); (dsimp only); assumption) | ((repeat (refine' List.forall_mem_cons.mpr (And.intro ?_ ?_); (focus (first | assumption | k_ne)))); assumption) | k_all) | (refine' UpdF.tail ?ua6 ?ub6; (case ua6 => first | assumption | k_ne); (case ub6 => (first | (refine' UpdF.head ?_; first | (intro p9 hp9; cases hp9; done) | (intro p9 hp9; (rcases List.mem_singleton.mp hp9 with rfl); (dsimp only); assumption) | ((repeat (refine' List.forall_mem_cons.mpr (And.intro ?_ ?_); (focus (first | assumption | k_ne)))); assumption) | k_all) | (refine' UpdF.tail ?ua5 ?ub5; (case ua5 => first | assumption | k_ne); (case ub5 => (first | (refine' UpdF.head ?_; first | (intro p9 hp9; cases hp9; done) | (intro p9 hp9; (rcases List.mem_singleton.mp hp9 with rfl); (dsimp only); assumption) | ((repeat (refine' List.forall_mem_cons.mpr (And.intro ?_ ?_); (focus (first | assumption | k_ne)))); assumption) | k_all) | (refine' UpdF.tail ?ua4 ?ub4; (case ua4 => first | assumption | k_ne); (case ub4 => (first | (refine' UpdF.head ?_; first | (intro p9 hp9; cases hp9; done) | (intro p9 hp9; (rcases List.mem_singleton.mp hp9 with rfl); (dsimp only); assumption) | ((repeat (refine' List.forall_mem_cons.mpr (And.intro ?_ ?_); (focus (first | assumption | k_ne)))); assumption) | k_all) | (refine' UpdF.tail ?ua3 ?ub3; (case ua3 => first | assumption | k_ne); (case ub3 => (first | (refine' UpdF.head ?_; first | (intro p9 hp9; cases hp9; done) | (intro p9 hp9; (rcases List.mem_singleton.mp hp9 with rfl); (dsimp only); assumption) | ((repeat (refine' List.forall_mem_cons.mpr (And.intro ?_ ?_); (focus (first | assumption | k_ne)))); assumption) | k_all) | (refine' UpdF.tail ?ua2 ?ub2; (case ua2 => first | assumption | k_ne); (case ub2 => (first | (refine' UpdF.head ?_; first | (intro p9 hp9; cases hp9; done) | (intro p9 hp9; (rcases List.mem_singleton.mp hp9 with rfl); (dsimp only); assumption) | ((repeat (refine' List.forall_mem_cons.mpr (And.intro ?_ ?_); (focus (first | assumption | k_ne)))); assumption) | k_all) | (refine' UpdF.tail ?ua1 ?ub1; (case ua1 => first | assumption | k_ne); (case ub1 => (first | (refine' UpdF.head ?_; first | (intro p9 hp9; cases hp9; done) | (intro p9 hp9; (rcases List.mem_singleton.mp hp9 with rfl); (dsimp only); assumption) | ((repeat (refine' List.forall_mem_cons.mpr (And.intro ?_ ?_); (focus (first | assumption | k_ne)))); assumption) | k_all) | (refine' UpdF.tail ?ua0 ?ub0; (case ua0 => first | assumption | k_ne); (case ub0 => ((refine' UpdF.head ?_; first | (intro p9 hp9; cases hp9; done) | (intro p9 hp9; (rcases List.mem_singleton.mp hp9 with rfl); (dsimp only); assumption) | ((repeat (refine' List.forall_mem_cons.mpr (And.intro ?_ ?_); (focus (first | assumption | k_ne)))); assumption) | k_all))))))))))))))))))))))))))); (case k5 => k_asm); (case kK => first | exact rfl | assumption); (case kd => ktr_room); (case ku => ktr_units); (case ka => first | exact True.intro | assumption))); intro r9 nw9 h9 tk9 hr9 F9 N9; (k_dflt (obtain ⟨⟨d9, td9, e9, hd9, hd9'⟩, b9, c9, t19, t29, k9, e9'⟩ := hr9; subst e9; subst e9')); (try dsimp only at N9); (try dsimp only); (try k_sweep); (try k_fold))
  k_with "call ref" => ((with_reducible show wpAny _ _ (call (Value.ref 194) _) _ _ _); k_here; (k_dflt (refine' says_use (c_take _ _ _ _ _ _ _ _ _ _ _ _ _ _ ?hypU ?hyp0 ?hyp1) ?k1 ?k2 ?k3 ?k4 ?k5 ?kK ?kd ?ku ?ka ?_; (case k1 => k_asm); (case k2 => k_asm); (case k3 => k_asm); (case k4 => k_asm); (case hypU => (first | (refine' UpdF.head ?_; first | (intro p9 hp9; cases hp9; done) | (intro p9 hp9; (rcases List.mem_singleton.mp hp9 with rfl); (dsimp only); assumption) | ((repeat (refine' List.forall_mem_cons.mpr (And.intro ?_ ?_); (focus (first | assumption | k_ne)))); assumption) | k_all) | (refine' UpdF.tail ?ua7 ?ub7; (case ua7 => first | assumption | k_ne); (case ub7 => (first | (refine' UpdF.head ?_; first | (intro p9 hp9; cases hp9; done) | (intro p9 hp9; (rcases List.mem_singleton.mp hp9 with rfl); (dsimp only); assumption) | ((repeat (refine' List.forall_mem_cons.mpr (And.intro ?_ ?_); (focus (first | assumption | k_ne)))); assumption) | k_all) | (refine' UpdF.tail ?ua6 ?ub6; (case ua6 => first | assumption | k_ne); (case ub6 => (first | (refine' UpdF.head ?_; first | (intro p9 hp9; cases hp9; done) | (intro p9 hp9; (rcases List.mem_singleton.mp hp9 with rfl); (dsimp only); assumption) | ((repeat (refine' List.forall_mem_cons.mpr (And.intro ?_ ?_); (focus (first | assumption | k_ne)))); assumption) | k_all) | (refine' UpdF.tail ?ua5 ?ub5; (case ua5 => first | assumption | k_ne); (case ub5 => (first | (refine' UpdF.head ?_; first | (intro p9 hp9; cases hp9; done) | (intro p9 hp9; (rcases List.mem_singleton.mp hp9 with rfl); (dsimp only); assumption) | ((repeat (refine' List.forall_mem_cons.mpr (And.intro ?_ ?_); (focus (first | assumption | k_ne)))); assumption) | k_all) | (refine' UpdF.tail ?ua4 ?ub4; (case ua4 => first | assumption | k_ne); (case ub4 => (first | (refine' UpdF.head ?_; first | (intro p9 hp9; cases hp9; done) | (intro p9 hp9; (rcases List.mem_singleton.mp hp9 with rfl); (dsimp only); assumption) | ((repeat (refine' List.forall_mem_cons.mpr (And.intro ?_ ?_); (focus (first | assumption | k_ne)))); assumption) | k_all) | (refine' UpdF.tail ?ua3 ?ub3; (case ua3 => first | assumption | k_ne); (case ub3 => (first | (refine' UpdF.head ?_; first | (intro p9 hp9; cases hp9; done) | (intro p9 hp9; (rcases List.mem_singleton.mp hp9 with rfl); (dsimp only); assumption) | ((repeat (refine' List.forall_mem_cons.mpr (And.intro ?_ ?_); (focus (first | assumption | k_ne)))); assumption) | k_all) | (refine' UpdF.tail ?ua2 ?ub2; (case ua2 => first | assumption | k_ne); (case ub2 => (first | (refine' UpdF.head ?_; first | (intro p9 hp9; cases hp9; done) | (intro p9 hp9; (rcases List.mem_singleton.mp hp9 with rfl); (dsimp only); assumption) | ((repeat (refine' List.forall_mem_cons.mpr (And.intro ?_ ?_); (focus (first | assumption | k_ne)))); assumption) | k_all) | (refine' UpdF.tail ?ua1 ?ub1; (case ua1 => first | assumption | k_ne); (case ub1 => (first | (refine' UpdF.head ?_; first | (intro p9 hp9; cases hp9; done) | (intro p9 hp9; (rcases List.mem_singleton.mp hp9 with rfl); (dsimp only); assumption) | ((repeat (refine' List.forall_mem_cons.mpr (And.intro ?_ ?_); (focus (first | assumption | k_ne)))); assumption) | k_all) | (refine' UpdF.tail ?ua0 ?ub0; (case ua0 => first | assumption | k_ne); (case ub0 => ((refine' UpdF.head ?_; first | (intro p9 hp9; cases hp9; done) | (intro p9 hp9; (rcases List.mem_singleton.mp hp9 with rfl); (dsimp only); assumption) | ((repeat (refine' List.forall_mem_cons.mpr (And.intro ?_ ?_); (focus (first | assumption | k_ne)))); assumption) | k_all))))))))))))))))))))))))))); (case k5 => k_asm); (case kK => first | exact rfl | assumption); (case kd => ktr_room); (case ku => ktr_units); (case ka => first | exact True.intro | assumption); (case hyp0 => first | omega | decide | (simp; done) | (simp; omega)); (case hyp1 => first | omega | decide | (simp; done) | (simp; omega)))); intro r9 nw9 h9 tk9 hr9 F9 N9; (k_dflt (obtain ⟨⟨d9, td9, e9, hd9, hd9'⟩, b9, c9, t19, t29, k9, e9'⟩ := hr9; subst e9; subst e9')); (try dsimp only at N9); (try dsimp only); (try k_sweep); (try k_fold))
  k_with "call ref" => ((with_reducible show wpAny _ _ (call (Value.ref 187) _) _ _ _); k_here; (k_dflt (refine' says_use (c_pool _ _ _ _ _ _ _ _ _ _ ?hyp0 ?hyp1 ?hyp2 ?hyp3) ?k1 ?k2 ?k3 ?k4 ?k5 ?kK ?kd ?ku ?ka ?_; (case k1 => k_asm); (case k2 => k_asm); (case k3 => k_asm); (case k4 => k_asm); (case k5 => k_asm); (case kK => first | exact rfl | assumption); (case kd => ktr_room); (case ku => ktr_units); (case ka => first | exact True.intro | assumption); (case hyp0 => assumption); (case hyp1 => omega); (case hyp2 => omega); (case hyp3 => k_extra "kk5"))); intro r9 nw9 h9 tk9 hr9 F9 N9; k_dflt (obtain ⟨l9, b9, c9, t19, t29, e9, e9', hne9⟩ := pool_open hr9; subst e9; subst e9'; (try simp only [List.cons_append, List.nil_append, List.forall_mem_cons, List.forall_mem_nil, and_true] at hne9); (try (obtain ⟨hneA9, hneB9, hneC9⟩ := hne9))); (try dsimp only at N9); (try dsimp only); (try k_sweep); (try k_fold))
  k_steps
  all_goals (refine' law_end ?lF ?lN ?lM ?l1 ?l2 ?lS; (case lF => k_asm); (case lN => k_asm); (case lM => (intro p9 hp9; (repeat (first | exact hp9 | refine List.mem_cons_of_mem _ ?_)))); (case l1 => assumption); (case l2 => assumption); (case lS => rfl)))
end Mine
theorem PySem.Challenge.cw_nu0053_01_holds : PySem.Challenge.rw_nu0053_01.Holds := by
  exact Mine.holds
