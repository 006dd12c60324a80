import PyProof.Rows.All
import Wide.All
import OpenK.AllK
import Wide.FinOn
import Lean
import PySem.Challenge.RW_no0048_01
open PySem PySem.W PyProof.Rows
set_option Elab.async false
namespace Mine
open_top hd for PySem.Challenge.rw_no0048_01
end Mine
open Mine
namespace Mine
open PySem.Spec PySem.Calls

abbrev PG : Program := PySem.Challenge.rw_no0048_01.row.prog

/-! ## the entry into a def: the caller's ledger may hold more than the def is told of -/
section
variable {prog : Program} {w : World} {A₀ A : Around} {s : Shared} {base h₀ : Heap} {outer : List Env} {L : Addr} {m : Str → Option Value} {env : Env} {news news0 : List (Addr × Obj)} {K : Frag}
  {p : Program} {loose : List Str} {mean : ExcName → Option Value} {mg mb : Str → Option Value}
  {R : Result → Shared → Prop} {name qual : Str} {params : Arguments} {body : List Stmt} {scope : Scope} {dV kV doc pm cdv ct oc : Value} {an od : Option Addr} {osl : Array (Option Value)} {f : Addr} {args : Args} {binds : List (Str × Value)}

/-- what the hidden heap keeps of the caller's ledger -/
def Kept (g : Heap) (news news0 : List (Addr × Obj)) : Prop := ∀ p ∈ news, p.1 ∉ news0.map (·.1) → g.get? p.1 = some p.2

theorem kept_hide {h : Heap} (N : News h₀ L h news) : Kept (hideAll h (news0.map (·.1))) news news0 := fun p hp hn => hideAll_get _ (N p hp).1 hn

theorem enterR (B : Below A₀ base outer h₀) (F : Fr h₀ L s.heap m) (X₀ : K.In h₀) (N : News h₀ L s.heap news) (sub : ∀ p ∈ news0, p ∈ news) (T : Top p loose mean mg mb h₀) (hA : A.frames = some (env :: outer)) (hf : env.frame = some L) (hke : env.scope.kind = .function)
    (ho : K.lookup f = some ⟨oc, od, .func (fnOf name qual params body scope dV kV doc pm an cdv ct), osl⟩) (hcd : codeIn K cdv qual = true) (hroom : A.depth < recursionLimit)
    (hbind : BindsTo s (fnOf name qual params body scope dV kV doc pm an cdv ct) args binds) (hloc : ∀ y ∈ binds, scope.names.lookup y.1 = some .local)
    (h : ∀ g L' h₁, Fr h₀ L g m → Fr g L' h₁ (fun y => binds.reverse.lookup y) → News g L' h₁ news0 → Below A base (env :: outer) g → K.In g → Top p loose mean mg mb g →
      (∀ q ∈ news, q.1 < L') → @LT.lt Nat _ L L' → Kept g news news0 →
      wpAny (model prog w) (A.deeper (envOf qual scope L' f cdv)) (execs body (envOf qual scope L' f cdv))
        (fun fl s' => LeaveK h₀ L m g R (match fl with | .ret v => v | _ => .none) s')
        (fun e s' => wpAny (model prog w) (A.deeper (envOf qual scope L' f cdv)) (leaving (envOf qual scope L' f cdv) e) (fun _ s'' => R (.error e) s'') (fun e' s'' => R (.error e') s'') s')
        { s with heap := h₁, toks := s.toks + binds.length })
    (hco : scope.isCoroutine = false) (hgen : scope.isGenerator = false) (hk : scope.kind = .function)
    (hcell : ∀ x ∈ scope.names, x.2 ≠ .cell) : codeAny (model prog w) A (.call (.ref f) args) R s := by
  have N0 : News h₀ L s.heap news0 := fun q hq => N q (sub q hq)
  obtain ⟨FG, BG, st, lv⟩ := groundX (R := R) B F N0 hA hf hke
  refine codeAny_call_def (fd := fnX name qual params body scope [] dV kV doc pm an cdv ct) (body := body) (binds := binds) hroom ((X₀.keeps F.keep) _ _ ho) rfl (T.nolimit.keeps F.keep) (codeRec_of (X₀.keeps F.keep) hcd) rfl hbind hcell hloc (fun h₁ hns hk₁ => ?_) hco hgen hk
  exact wpAny_mono (h _ s.heap.objs.size h₁ FG ⟨hns, fun b o e => hk₁ b o (of_hideAll _ e), Nat.le_of_eq (hideAll_size _ _)⟩
    (fun q hq => ⟨hk₁ _ _ (N0 q hq).1, Nat.ne_of_lt (Heap.lt_size (N0 q hq).1), hideAll_none _ (List.mem_map_of_mem hq)⟩) BG (X₀.keeps st) (T.keeps st)
    (fun q hq => Heap.lt_size (N q hq).1) F.ns.lt (kept_hide N)) (fun fl s' hl => lv _ _ hl) fun _ _ y => y

theorem enterRC (B : Below A₀ base outer h₀) (F : Fr h₀ L s.heap m) (X₀ : K.In h₀) (N : News h₀ L s.heap news) (sub : ∀ p ∈ news0, p ∈ news) (T : Top p loose mean mg mb h₀) (hA : A.frames = some (env :: outer)) (hf : env.frame = some L) (hke : env.scope.kind = .function)
    (ho : K.lookup f = some ⟨oc, od, .func (fnOf name qual params body scope dV kV doc pm an cdv ct), osl⟩) (hcd : codeIn K cdv qual = true) (hroom : A.depth < recursionLimit)
    (hbind : BindsTo s (fnOf name qual params body scope dV kV doc pm an cdv ct) args binds) (hkind : (binds.all fun y => scope.names.lookup y.1 == some .local || scope.names.lookup y.1 == some .cell) = true)
    (hnd : ((cellsFrom 0 scope.names []).map (·.1)).Nodup)
    (h : ∀ g L' h₁ tk cells, Fr h₀ L g m → Fr g L' h₁ (bindL (envOfC qual scope L' f cdv).kindOf binds fun _ => none) → News g L' h₁ (cells ++ news0) →
      CellsAre (bindC (envOfC qual scope L' f cdv).kindOf binds fun _ => none) (cellsFrom (L' + 1) scope.names []) cells → Below A base (env :: outer) g → K.In g → Top p loose mean mg mb g → (∀ p ∈ news0, p.1 < L') →
      (∀ q ∈ news, q.1 < L') → @LT.lt Nat _ L L' → Kept g news news0 →
      wpAny (model prog w) (A.deeper (envOfC qual scope L' f cdv)) (execs body (envOfC qual scope L' f cdv))
        (fun fl s' => LeaveK h₀ L m g R (match fl with | .ret v => v | _ => .none) s')
        (fun e s' => wpAny (model prog w) (A.deeper (envOfC qual scope L' f cdv)) (leaving (envOfC qual scope L' f cdv) e) (fun _ s'' => R (.error e) s'') (fun e' s'' => R (.error e') s'') s')
        { s with heap := h₁, toks := tk })
    (hco : scope.isCoroutine = false) (hgen : scope.isGenerator = false) (hk : scope.kind = .function) : codeAny (model prog w) A (.call (.ref f) args) R s := by
  have N0 : News h₀ L s.heap news0 := fun q hq => N q (sub q hq)
  obtain ⟨FG, BG, st, lv⟩ := groundX (R := R) B F N0 hA hf hke
  refine codeAny_call_function hroom ((X₀.keeps F.keep) _ _ ho) rfl hco hgen rfl (codeRec_of (X₀.keeps F.keep) hcd) (hbind _ _ _ _ ?_)
  refine wpAny_newFunctionEnv_cells hk (kindsX hkind _) fun env' he s' x => ?_
  subst he
  refine ⟨(T.nolimit.keeps F.keep).keeps x.toInCall.keep, codeAny_func ?_⟩
  obtain ⟨h₁, tk, rfl, _⟩ := x.done
  have hk₁ := x.toInCall.keep
  obtain ⟨cells, NC, Y⟩ := Cl.news (h₀ := s.heap) (Nat.le_refl _) fun n c hm => ⟨x.cell n c (lookup_of_mem_nodup (cellsFrom_names scope.names 0 (s.heap.objs.size + 1) [] [] rfl ▸ hnd) hm), x.above n c hm⟩
  refine wpAny_mono (h _ s.heap.objs.size h₁ tk cells FG ⟨x.toInCall.ns, fun b o e => hk₁ b o (of_hideAll _ e), Nat.le_of_eq (hideAll_size _ _)⟩ (fun p hp => ?_) Y BG (X₀.keeps st) (T.keeps st) (fun p hp => Heap.lt_size (N0 p hp).1)
    (fun q hq => Heap.lt_size (N q hq).1) F.ns.lt (kept_hide N)) (fun fl s' hl => lv _ _ hl) fun _ _ y => y
  rcases List.mem_append.mp hp with hp | hp
  · refine ⟨(NC p hp).1, (NC p hp).2.1, ?_⟩
    cases q : (hideAll s.heap (news0.map (·.1))).get? p.1 with
    | none => rfl
    | some o => have := of_hideAll _ q; rw [(NC p hp).2.2] at this; cases this
  · exact ⟨hk₁ _ _ (N0 p hp).1, Nat.ne_of_lt (Heap.lt_size (N0 p hp).1), hideAll_none _ (List.mem_map_of_mem hp)⟩

/-- the way back: what the def made, and all that stood -/
theorem backR {g h h' : Heap} {L' : Addr} {m' : Str → Option Value} {led tl : List (Addr × Obj)} (N : News h₀ L h news) (sub : ∀ p ∈ news0, p ∈ news) (k : Kept g news news0) (F' : Fr g L' h' m') (kN : News h₀ L h' led)
    (h0 : ∀ p ∈ news0, p ∈ led) (htl : ∀ p ∈ tl, p ∈ led) : News h₀ L h' (tl ++ news) := by
  intro p hp
  rcases List.mem_append.mp hp with hp | hp
  · exact kN p (htl p hp)
  · by_cases hm : p.1 ∈ news0.map (·.1)
    · obtain ⟨q, hq, e⟩ := List.mem_map.mp hm
      have h1 := (N q (sub q hq)).1
      have h2 := (N p hp).1
      rw [e, h2] at h1
      have e2 : q = p := Prod.ext e (Option.some.inj h1).symm
      exact kN p (h0 p (e2 ▸ hq))
    · exact ⟨F'.keep _ _ (k p hp hm), (N p hp).2⟩
end

/-! ## small rules -/
abbrev tupOf (vs : List Value) : Obj := { cls := .type "tuple", data := .seq vs.toArray }

theorem newTuple_L {M : Model} {A : Around} {E : Value → Shared → Prop} {s : Shared} {h₀ : Heap} {L : Addr} {m : Str → Option Value} {news : List (Addr × Obj)} {vs : List Value} {Q : Value → Shared → Prop}
    (F : Fr h₀ L s.heap m) (N : News h₀ L s.heap news)
    (h : ∀ D h', Fr h₀ L h' m → News h₀ L h' ((D, tupOf vs) :: news) → (∀ p ∈ news, p.1 < D) → @LT.lt Nat _ L D → Q (.ref D) { s with heap := h' }) (hz : vs.length ≤ sizeLine) : wpAny M A (newTuple vs) Q E s :=
  newTuple_N F N (fun h' F' N' => h _ h' F' N' (fun p hp => Heap.lt_size (N p hp).1) F.ns.lt) hz

theorem newList_L {M : Model} {A : Around} {E : Value → Shared → Prop} {s : Shared} {h₀ : Heap} {L : Addr} {m : Str → Option Value} {news : List (Addr × Obj)} {vs : List Value} {Q : Value → Shared → Prop}
    (F : Fr h₀ L s.heap m) (N : News h₀ L s.heap news)
    (h : ∀ D h', Fr h₀ L h' m → News h₀ L h' ((D, listOf vs.toArray 0) :: news) → (∀ p ∈ news, p.1 < D) → @LT.lt Nat _ L D → Q (.ref D) { s with heap := h' }) (hz : vs.length ≤ sizeLine) : wpAny M A (newList vs) Q E s :=
  newList_N F N (fun h' F' N' => h _ h' F' N' (fun p hp => Heap.lt_size (N p hp).1) F.ns.lt) hz
theorem list_copyL {prog : Program} {w : World} {A : Around} {E : Value → Shared → Prop} {s : Shared} {h₀ : Heap} {L l : Addr} {m : Str → Option Value} {news : List (Addr × Obj)} {items : Array Value} {n : Nat} {Q : Value → Shared → Prop}
    (F : Fr h₀ L s.heap m) (N : News h₀ L s.heap news) (hm : (l, listOf items n) ∈ news)
    (h : ∀ D c h', Fr h₀ L h' m → News h₀ L h' ((D, listOf items c) :: news) → (∀ q ∈ news, q.1 < D) → @LT.lt Nat _ L D → Q (.ref D) { s with heap := h' }) (hsz : items.size ≤ sizeLine) :
    wpAny (model prog w) A (call (.type "list") [.ref l]) Q E s := by
  obtain ⟨o, ho, hc, n, hd⟩ := N.isList hm
  exact call_list_seq (hsz := hsz) l (.inl rfl) ho hc hd fun h' c' hk hD => h _ c' h' (F.keeps hk) (news_pushed F N hk hD rfl) (fun q hq => Heap.lt_size (N q hq).1) F.ns.lt

theorem newDict_L {prog : Program} {w : World} {A : Around} {E : Value → Shared → Prop} {s : Shared} {h₀ : Heap} {L : Addr} {m : Str → Option Value} {news : List (Addr × Obj)} {env : Env} {pos : Pos} {Q : Value → Shared → Prop} (F : Fr h₀ L s.heap m) (N : News h₀ L s.heap news) (hbig : h₀.NoLimit)
    (k : ∀ d h' o, Fr h₀ L h' m → News h₀ L h' ((d, o) :: news) → (∀ p ∈ news, p.1 < d) → @LT.lt Nat _ L d → (d == sysModules) = false → o.IsDictOf (strKind prog w) [] → PyProof.V.FlatPairs PyData.str [] [] → Q (.ref d) { s with heap := h' }) :
    wpAny (model prog w) A (eval (.Dict [] [] pos) env) Q E s :=
  Dict_empty_made2 F N (modules_low hbig) fun h' o F' N' lo a b _ _ _ => k _ h' o F' N' (fun p hp => Heap.lt_size (N p hp).1) F.ns.lt lo a b

theorem get_T {prog : Program} {w : World} {K : Type} [DecidableEq K] {knd : KeyKind prog w K} {A : Around} {E : Value → Shared → Prop} {s : Shared} {h₀ : Heap} {L d : Addr} {news : List (Addr × Obj)} {o : Obj} {kvs : List (K × Value)} {k : K} {key v : Value}
   {Q : Value → Shared → Prop} (N : News h₀ L s.heap news) (hp : (d, o) ∈ news) (hd : o.IsDictOf knd kvs) (lo : (d == sysModules) = false) (hkey : knd.is k key = true) (hl : (valueAt kvs k).getD .none = v) (h : Q v { s with toks := s.toks + 1 }) :
    wpAny (model prog w) A (call (.builtin "dict.get") [.ref d, key]) Q E s :=
  kdg_get1 N hp hd lo hkey (valueAt kvs k) rfl (by rw [hl]; exact h)

theorem pop0 {prog : Program} {w : World} {A : Around} {E : Value → Shared → Prop} {s : Shared} {h₀ : Heap} {L D : Addr} {m : Str → Option Value} {news news' : List (Addr × Obj)} {n : Nat} {u : Tok} {vs : List Value} {ns : List Int} {Q : Value → Shared → Prop}
    (F : Fr h₀ L s.heap m) (N : News h₀ L s.heap news) (hI : IntsAre vs ns) (hpos : 0 < (ns.length : Int)) (hn : ns.length ≤ 24) (U : Upd D (listOf vs.toArray n) (listOf vs.tail.toArray (n + 1)) news news')
    (h : ∀ h' i t, Fr h₀ L h' m → News h₀ L h' news' → IntsAre vs.tail ns.tail → ns.tail.length ≤ 24 → Q (.int i t) { s with heap := h' }) :
    wpAny (model prog w) A (call (.builtin "list.pop") [.ref D, .int 0 u]) Q E s := by
  cases hI with
  | nil => exact absurd hpos (by simp)
  | cons i t hI =>
    have hl := hI.length
    refine kl_popAt (p := []) F N (by rfl) (k := 0) ?_ (by rfl) U ?_ fun h' F' N' => h h' i t F' N' hI ?_
    · unfold seqIndex?
      simp
    · simp only [List.length_cons] at hn ⊢
      rw [PySem.sizeLine_eq]
      omega
    · simp only [List.length_cons, List.tail_cons] at hn ⊢
      omega

/-- a time, or none -/
def toV : Option (Int × Tok) → Value
  | none => .none
  | some (t, k) => .int t k

/-! ## what a def promises -/
abbrev Ret (h₀ : Heap) (L : Addr) (m : Str → Option Value) (news : List (Addr × Obj)) (s : Shared) (Q : Value → Shared → Prop) (Post : List (Addr × Obj) → Value → Prop) : Prop :=
  ∀ (r : Value) (tl : List (Addr × Obj)) (h' : Heap) (tk' : Nat), Fr h₀ L h' m → News h₀ L h' (tl ++ news) → (∀ p ∈ tl, @LT.lt Nat _ L p.1) → (∀ p ∈ tl, ∀ q ∈ news, q.1 < p.1) → Post tl r → Q r { s with heap := h', toks := tk' }

def CallsTo (w : World) (loose : List Str) (mean : ExcName → Option Value) (mg mb : Str → Option Value) (f : Addr) (args : List Value) (news0 : List (Addr × Obj)) (c : Nat) (Post : List (Addr × Obj) → Value → Prop) : Prop :=
  ∀ (dp un : Nat) (gd : Option (List Code)) (cn : Str) (cs : Scope) (a : Addr) (ccd : Value) (cl : List (Str × Addr)) (outer : List Env) (A₀ : Around) (base h₀ : Heap) (L : Addr) (m : Str → Option Value) (s : Shared) (Q E : Value → Shared → Prop) (news : List (Addr × Obj)),
    Below A₀ base outer h₀ → Fr h₀ L s.heap m → (hd.heap_39 w.params).In h₀ → News h₀ L s.heap news → (∀ p ∈ news0, p ∈ news) → Top hd.view_39 loose mean mg mb h₀ → cs.kind = .function → dp + c < recursionLimit → un + 8 * c < cLine →
    Ret h₀ L m news s Q Post → wpAny (model PySem.Challenge.rw_no0048_01.row.prog w) (ktrTop dp un gd cn cs L a ccd cl outer) (call (.ref f) args) Q E s

theorem CallsTo.use {w : World} {loose : List Str} {mean : ExcName → Option Value} {mg mb : Str → Option Value} {f : Addr} {args : List Value} {news0 : List (Addr × Obj)} {c : Nat} {Post : List (Addr × Obj) → Value → Prop}
    {dp un : Nat} {gd : Option (List Code)} {cn : Str} {cs : Scope} {a : Addr} {ccd : Value} {cl : List (Str × Addr)} {outer : List Env} {A₀ : Around} {base h₀ : Heap} {L : Addr} {m : Str → Option Value} {s : Shared} {Q E : Value → Shared → Prop} {news : List (Addr × Obj)}
    (C : CallsTo w loose mean mg mb f args news0 c Post) (B : Below A₀ base outer h₀) (F : Fr h₀ L s.heap m) (X : (hd.heap_39 w.params).In h₀) (N : News h₀ L s.heap news) (T : Top hd.view_39 loose mean mg mb h₀) (sub : ∀ p ∈ news0, p ∈ news)
    (hk : cs.kind = .function) (hd : dp + c < recursionLimit) (hu : un + 8 * c < cLine) (ret : Ret h₀ L m news s Q Post) :
    wpAny (model PySem.Challenge.rw_no0048_01.row.prog w) (ktrTop dp un gd cn cs L a ccd cl outer) (call (.ref f) args) Q E s := C _ _ _ _ _ _ _ _ _ _ _ _ _ _ _ _ _ _ B F X N sub T hk hd hu ret

theorem CallsTo.use1 {w : World} {loose : List Str} {mean : ExcName → Option Value} {mg mb : Str → Option Value} {f : Addr} {args : List Value} {d : Addr} {o : Obj} {c : Nat} {Post : List (Addr × Obj) → Value → Prop}
    {dp un : Nat} {gd : Option (List Code)} {cn : Str} {cs : Scope} {a : Addr} {ccd : Value} {cl : List (Str × Addr)} {outer : List Env} {A₀ : Around} {base h₀ : Heap} {L : Addr} {m : Str → Option Value} {s : Shared} {Q E : Value → Shared → Prop} {news : List (Addr × Obj)}
    (C : CallsTo w loose mean mg mb f args [(d, o)] c Post) (B : Below A₀ base outer h₀) (F : Fr h₀ L s.heap m) (X : (hd.heap_39 w.params).In h₀) (N : News h₀ L s.heap news) (T : Top hd.view_39 loose mean mg mb h₀) (hm : (d, o) ∈ news)
    (hk : cs.kind = .function) (hd : dp + c < recursionLimit) (hu : un + 8 * c < cLine) (ret : Ret h₀ L m news s Q Post) :
    wpAny (model PySem.Challenge.rw_no0048_01.row.prog w) (ktrTop dp un gd cn cs L a ccd cl outer) (call (.ref f) args) Q E s := C.use B F X N T (fun p hp => by rw [List.mem_singleton.mp hp]; exact hm) hk hd hu ret

/-- none, or a pair of a time and a name -/
def IsPair (e : Option (Int × Str)) (tl : List (Addr × Obj)) (r : Value) : Prop := match e with
  | none => tl = [] ∧ r = .none
  | some (t, sp) => ∃ x k1 k2, tl = [(x, tupOf [.int t k1, .str sp k2])] ∧ r = .ref x

section
variable {h₀ g h' : Heap} {L L' : Addr} {m m' : Str → Option Value} {news news0 led : List (Addr × Obj)} {s : Shared} {Q : Value → Shared → Prop} {tk' : Nat}
theorem end_any {Post : List (Addr × Obj) → Value → Prop} {r : Value} (hret : Ret h₀ L m news s Q Post) (N : News h₀ L s.heap news) (sub : ∀ p ∈ news0, p ∈ news) (k : Kept g news news0) (F' : Fr g L' h' m') (kF : Fr h₀ L h' m) (kN : News h₀ L h' led)
    (h0 : ∀ p ∈ news0, p ∈ led) (P : Post [] r) : Q r { s with heap := h', toks := tk' } :=
  hret r [] h' tk' kF (backR N sub k F' kN h0 (fun _ h => nomatch h)) (fun _ h => nomatch h) (fun _ h => nomatch h) P
theorem end_pair {e : Option (Int × Str)} {D : Addr} {t : Int} {k1 k2 : Tok} {sp : Str} (hret : Ret h₀ L m news s Q (IsPair e)) (N : News h₀ L s.heap news) (sub : ∀ p ∈ news0, p ∈ news) (k : Kept g news news0) (F' : Fr g L' h' m') (kF : Fr h₀ L h' m) (kN : News h₀ L h' led)
    (hlt : ∀ q ∈ news, q.1 < L') (hLL : @LT.lt Nat _ L L') (hm : (D, tupOf [.int t k1, .str sp k2]) ∈ led) (hD : @LT.lt Nat _ L' D) (h0 : ∀ p ∈ news0, p ∈ led) (he : e = some (t, sp)) : Q (.ref D) { s with heap := h', toks := tk' } := by
  subst he
  refine hret (.ref D) [(D, tupOf [.int t k1, .str sp k2])] h' tk' kF (backR N sub k F' kN h0 fun p hp => ?_) (fun p hp => ?_) (fun p hp q hq => ?_) ⟨D, k1, k2, rfl, rfl⟩
  · rw [List.mem_singleton.mp hp]; exact hm
  · rw [List.mem_singleton.mp hp]; exact Nat.lt_trans hLL hD
  · rw [List.mem_singleton.mp hp]; exact Nat.lt_trans (hlt q hq) hD
end

/-! ## the box: a list of ints and a seed -/
def BoxOb (l : Addr) (ob ol : Obj) : Prop := ∃ (k : Int) (t : Tok) (nb nl : Nat) (vs : List Value) (ns : List Int), ob = listOf #[.ref l, .int k t] nb ∧ ol = listOf vs.toArray nl ∧ IntsAre vs ns ∧ ns.length ≤ 24 ∧ 0 ≤ k ∧ k < 2147483647

def Led2 (h₀ : Heap) (L : Addr) (h' : Heap) (b l : Addr) (ob ob' ol ol' : Obj) (tl news : List (Addr × Obj)) : Prop := ∀ news1 news2, Upd b ob ob' news news1 → Upd l ol ol' news1 news2 → News h₀ L h' (tl ++ news2)
theorem led_in {h₀ h' : Heap} {L b l : Addr} {ob ob' ol ol' : Obj} {tl news news1 news2 : List (Addr × Obj)} {P : Prop} (hN : Led2 h₀ L h' b l ob ob' ol ol' tl news) (U1 : Upd b ob ob' news news1) (U2 : Upd l ol ol' news1 news2) (k : News h₀ L h' (tl ++ news2) → P) : P := k (hN _ _ U1 U2)

theorem Upd.mem {d : Addr} {o o' : Obj} {news news1 : List (Addr × Obj)} (U : Upd d o o' news news1) {p : Addr × Obj} (hp : p ∈ news1) : p = (d, o') ∨ (p ∈ news ∧ p.1 ≠ d) := by
  obtain ⟨pre, post, rfl, rfl, a, b⟩ := U.split
  rcases List.mem_append.mp hp with hp | hp
  · exact .inr ⟨List.mem_append_left _ hp, a p hp⟩
  · rcases List.mem_cons.mp hp with rfl | hp
    · exact .inl rfl
    · exact .inr ⟨List.mem_append_right _ (.tail _ hp), b p hp⟩

theorem led_back {h₀ g h h' : Heap} {L L' b l : Addr} {m' : Str → Option Value} {ob ob' ol ol' : Obj} {news tl led : List (Addr × Obj)} (N : News h₀ L h news) (k : Kept g news [(b, ob), (l, ol)]) (F' : Fr g L' h' m') (kN : News h₀ L h' led)
    (hb : (b, ob') ∈ led) (hl : (l, ol') ∈ led) (htl : ∀ p ∈ tl, p ∈ led) : Led2 h₀ L h' b l ob ob' ol ol' tl news := by
  intro news1 news2 U1 U2 p hp
  rcases List.mem_append.mp hp with hp | hp
  · exact kN p (htl p hp)
  rcases Upd.mem U2 hp with rfl | ⟨hp, h2⟩
  · exact kN _ hl
  · rcases Upd.mem U1 hp with rfl | ⟨hp, h1⟩
    · exact kN _ hb
    · exact ⟨F'.keep _ _ (k p hp (by simp only [List.map_cons, List.map_nil, List.mem_cons, List.not_mem_nil, or_false, not_or]; exact ⟨h1, h2⟩)), (N p hp).2⟩

/-- a def that draws from the box -/
def Draws (w : World) (loose : List Str) (mean : ExcName → Option Value) (mg mb : Str → Option Value) (f : Addr) (args : List Value) (b l : Addr) (ob ol : Obj) (c : Nat) (Post : List (Addr × Obj) → Value → Prop) : Prop :=
  ∀ (dp un : Nat) (gd : Option (List Code)) (cn : Str) (cs : Scope) (a : Addr) (ccd : Value) (cl : List (Str × Addr)) (outer : List Env) (A₀ : Around) (base h₀ : Heap) (L : Addr) (m : Str → Option Value) (s : Shared) (Q E : Value → Shared → Prop) (news : List (Addr × Obj)),
    Below A₀ base outer h₀ → Fr h₀ L s.heap m → (hd.heap_39 w.params).In h₀ → News h₀ L s.heap news → (∀ p ∈ [(b, ob), (l, ol)], p ∈ news) → @Ne Nat b l → BoxOb l ob ol → Top hd.view_39 loose mean mg mb h₀ → cs.kind = .function → dp + c < recursionLimit → un + 8 * c < cLine →
    (∀ (r : Value) (ob' ol' : Obj) (tl : List (Addr × Obj)) (h' : Heap) (tk' : Nat), Fr h₀ L h' m → Led2 h₀ L h' b l ob ob' ol ol' tl news → BoxOb l ob' ol' → (∀ p ∈ tl, @LT.lt Nat _ L p.1) → (∀ p ∈ tl, ∀ q ∈ news, q.1 < p.1) → Post tl r → Q r { s with heap := h', toks := tk' }) →
    wpAny (model PySem.Challenge.rw_no0048_01.row.prog w) (ktrTop dp un gd cn cs L a ccd cl outer) (call (.ref f) args) Q E s
theorem Draws.use {w : World} {loose : List Str} {mean : ExcName → Option Value} {mg mb : Str → Option Value} {f : Addr} {args : List Value} {b l : Addr} {ob ol : Obj} {c : Nat} {Post : List (Addr × Obj) → Value → Prop}
    {dp un : Nat} {gd : Option (List Code)} {cn : Str} {cs : Scope} {a : Addr} {ccd : Value} {cl : List (Str × Addr)} {outer : List Env} {A₀ : Around} {base h₀ : Heap} {L : Addr} {m : Str → Option Value} {s : Shared} {Q E : Value → Shared → Prop} {news : List (Addr × Obj)}
    (C : Draws w loose mean mg mb f args b l ob ol c Post) (B : Below A₀ base outer h₀) (F : Fr h₀ L s.heap m) (X : (hd.heap_39 w.params).In h₀) (N : News h₀ L s.heap news) (T : Top hd.view_39 loose mean mg mb h₀) (hb : (b, ob) ∈ news) (hl : (l, ol) ∈ news) (hbl : @Ne Nat b l) (hB : BoxOb l ob ol)
    (hk : cs.kind = .function) (hd : dp + c < recursionLimit) (hu : un + 8 * c < cLine)
    (ret : ∀ (r : Value) (ob' ol' : Obj) (tl : List (Addr × Obj)) (h' : Heap) (tk' : Nat), Fr h₀ L h' m → Led2 h₀ L h' b l ob ob' ol ol' tl news → BoxOb l ob' ol' → (∀ p ∈ tl, @LT.lt Nat _ L p.1) → (∀ p ∈ tl, ∀ q ∈ news, q.1 < p.1) → Post tl r → Q r { s with heap := h', toks := tk' }) :
    wpAny (model PySem.Challenge.rw_no0048_01.row.prog w) (ktrTop dp un gd cn cs L a ccd cl outer) (call (.ref f) args) Q E s :=
  C _ _ _ _ _ _ _ _ _ _ _ _ _ _ _ _ _ _ B F X N (fun p hp => by
    rcases List.mem_cons.mp hp with rfl | hp
    · exact hb
    · rw [List.mem_singleton.mp hp]; exact hl) hbl hB T hk hd hu ret

/-- what a draw gives -/
def IsDraw (wd : Int) (tl : List (Addr × Obj)) (r : Value) : Prop := tl = [] ∧ ∃ i t, r = .int i t ∧ 0 ≤ i ∧ i < wd

/-! ## a dict of times by space -/
inductive Slot (n : Str) : List (Str × Value) → Option (Int × Tok) → Prop
  | gone : Slot n [] none
  | nil : Slot n [(n, .none)] none
  | time (t : Int) (k : Tok) (h0 : 1000 ≤ t) (h1 : t ≤ 3900) : Slot n [(n, .int t k)] (some (t, k))
def TimesOf (kvs : List (Str × Value)) (gi gh ga : Option (Int × Tok)) : Prop :=
  ∃ ki kh ka, kvs = ki ++ (kh ++ ka) ∧ Slot (Str.ofString "initial") ki gi ∧ Slot (Str.ofString "handshake") kh gh ∧ Slot (Str.ofString "application") ka ga
section
variable {v v1 v2 : Value}
theorem stored_nil {k : Str} : stored ([] : List (Str × Value)) k v = [(k, v)] := rfl
theorem stored_ih : stored [(Str.ofString "initial", v1)] (Str.ofString "handshake") v = [(Str.ofString "initial", v1), (Str.ofString "handshake", v)] := by with_unfolding_all rfl
theorem stored_ia : stored [(Str.ofString "initial", v1)] (Str.ofString "application") v = [(Str.ofString "initial", v1), (Str.ofString "application", v)] := by with_unfolding_all rfl
theorem stored_ha : stored [(Str.ofString "handshake", v1)] (Str.ofString "application") v = [(Str.ofString "handshake", v1), (Str.ofString "application", v)] := by with_unfolding_all rfl
theorem stored_iha : stored [(Str.ofString "initial", v1), (Str.ofString "handshake", v2)] (Str.ofString "application") v = [(Str.ofString "initial", v1), (Str.ofString "handshake", v2), (Str.ofString "application", v)] := by with_unfolding_all rfl
end
def IsTimes (w : World) (tl : List (Addr × Obj)) (r : Value) : Prop :=
  ∃ d o kvs gi gh ga, tl = [(d, o)] ∧ r = .ref d ∧ o.IsDictOf (strKind PySem.Challenge.rw_no0048_01.row.prog w) kvs ∧ (d == sysModules) = false ∧ TimesOf kvs gi gh ga

/-! ## the two readings: what is told, as plain functions -/
def pick (acc : Option (Int × Str)) (g : Option Int) (sp : Str) : Option (Int × Str) := match g, acc with
  | none, acc => acc
  | some t, none => some (t, sp)
  | some t, some (t0, s0) => if t < t0 then some (t, sp) else some (t0, s0)
def early (gi gh ga : Option Int) : Option (Int × Str) := pick (pick (pick none gi "initial") gh "handshake") ga "application"
def anyT (gi gh ga : Option Int) : Bool := gi.isSome || gh.isSome || ga.isSome
/-- the int of a time -/
abbrev tm (g : Option (Int × Tok)) : Option Int := g.map (·.1)
/-- the probe's period -/
def period (b d c : Int) : Int := (b + d) * 2 ^ c.toNat
/-- what a new dict of times says of the three names -/
def At (kvs : List (Str × Value)) (n : Str) (e : Option Int) : Prop := ∃ g : Option (Int × Tok), (valueAt kvs n).getD .none = toV g ∧ tm g = e
def Says (w : World) (ei eh ea : Option Int) (tl : List (Addr × Obj)) (r : Value) : Prop :=
  ∃ d o kvs, tl = [(d, o)] ∧ r = .ref d ∧ o.IsDictOf (strKind PySem.Challenge.rw_no0048_01.row.prog w) kvs ∧ (d == sysModules) = false ∧
    At kvs (Str.ofString "initial") ei ∧ At kvs (Str.ofString "handshake") eh ∧ At kvs (Str.ofString "application") ea
theorem end_says {w : World} {h₀ g h' : Heap} {L L' d : Addr} {m m' : Str → Option Value} {o : Obj} {news news0 led : List (Addr × Obj)} {s : Shared} {Q : Value → Shared → Prop} {tk' : Nat} {kvs : List (Str × Value)} {ei eh ea : Option Int}
    (hret : Ret h₀ L m news s Q (Says w ei eh ea)) (N : News h₀ L s.heap news) (sub : ∀ p ∈ news0, p ∈ news) (hK : Kept g news news0) (F' : Fr g L' h' m') (kF : Fr h₀ L h' m) (kN : News h₀ L h' led) (hlt : ∀ q ∈ news, q.1 < L') (hLL : @LT.lt Nat _ L L')
    (hm : (d, o) ∈ led) (hLd : @LT.lt Nat _ L' d) (h0 : ∀ p ∈ news0, p ∈ led) (lo : (d == sysModules) = false) (hd : o.IsDictOf (strKind PySem.Challenge.rw_no0048_01.row.prog w) kvs)
    (hi : At kvs (Str.ofString "initial") ei) (hh : At kvs (Str.ofString "handshake") eh) (ha : At kvs (Str.ofString "application") ea) : Q (.ref d) { s with heap := h', toks := tk' } := by
  refine hret (.ref d) [(d, o)] h' tk' kF (backR N sub hK F' kN h0 fun p hp => ?_) (fun p hp => ?_) (fun p hp q hq => ?_) ⟨d, o, kvs, rfl, rfl, hd, lo, hi, hh, ha⟩
  · rw [List.mem_singleton.mp hp]; exact hm
  · rw [List.mem_singleton.mp hp]; exact Nat.lt_trans hLL hLd
  · rw [List.mem_singleton.mp hp]; exact Nat.lt_trans (hlt q hq) hLd
/-- the application's probe is due when the handshake is confirmed -/
def dueA (conf : Bool) (ga : Option Int) (x : Int) : Option Int := if conf then ga.map (· + x) else none
/-- what probe_due tells -/
def PD (gi gh ga : Option Int) (b dl c : Int) (conf val keys : Bool) (now : Int) : Option (Int × Str) :=
  if anyT gi gh ga then early (gi.map (· + period b 0 c)) (gh.map (· + period b 0 c)) (dueA conf ga (period b dl c))
  else if val then none else some (now + period b 0 c, if keys then "handshake" else "initial")
theorem isPair_none {e : Option (Int × Str)} (h : e = none) : IsPair e [] .none := by subst h; exact ⟨rfl, rfl⟩
section
variable {gi gh ga ei eh ea : Option Int} {b dl c now : Int} {conf val keys : Bool} {x : Option (Int × Str)}
theorem pd_1 (h : anyT gi gh ga = true) (e : early ei eh ea = x) (hi : ei = gi.map (· + period b 0 c)) (hh : eh = gh.map (· + period b 0 c)) (ha : ea = dueA conf ga (period b dl c)) : PD gi gh ga b dl c conf val keys now = x := by
  subst hi hh ha
  unfold PD
  rw [if_pos h]
  exact e
theorem pd_2 (h : anyT gi gh ga = false) (hv : val = true) : PD gi gh ga b dl c conf val keys now = none := by
  unfold PD
  rw [if_neg (by rw [h]; decide), if_pos hv]
theorem pd_3 (h : anyT gi gh ga = false) (hv : val = false) (hk : keys = true) : PD gi gh ga b dl c conf val keys now = some (now + period b 0 c, Str.ofString "handshake") := by
  unfold PD
  rw [if_neg (by rw [h]; decide), if_neg (by rw [hv]; decide), if_pos hk]
theorem pd_4 (h : anyT gi gh ga = false) (hv : val = false) (hk : keys = false) : PD gi gh ga b dl c conf val keys now = some (now + period b 0 c, Str.ofString "initial") := by
  unfold PD
  rw [if_neg (by rw [h]; decide), if_neg (by rw [hv]; decide), if_neg (by rw [hk]; decide)]
end
theorem due_t {conf : Bool} {t x : Int} {k k' : Tok} (h : conf = true) : tm (some (t + x, k')) = dueA conf (tm (some (t, k))) x := by subst h; rfl
theorem due_f {conf : Bool} {x : Int} {g : Option Int} (h : conf = false) : tm none = dueA conf g x := by subst h; rfl
theorem due_g {conf : Bool} {x : Int} {g : Option Int} (h : ¬conf = true) : tm none = dueA conf g x := due_f (by simpa using h)
theorem due_n {conf : Bool} {x : Int} : tm none = dueA conf (tm none) x := by cases conf <;> rfl
end Mine


/-! ## more promises -/
namespace Mine
open PySem.Spec PySem.Calls
theorem get_T2 {prog : Program} {w : World} {K : Type} [DecidableEq K] {knd : KeyKind prog w K} {A : Around} {E : Value → Shared → Prop} {s : Shared} {h₀ : Heap} {L d : Addr} {news : List (Addr × Obj)} {o : Obj} {kvs : List (K × Value)} {k : K} {key : Value} {g : Option (Int × Tok)}
   {Q : Value → Shared → Prop} (N : News h₀ L s.heap news) (hp : (d, o) ∈ news) (hd : o.IsDictOf knd kvs) (lo : (d == sysModules) = false) (hkey : knd.is k key = true) (hl : (valueAt kvs k).getD .none = toV g)
   (h0 : g = none → Q .none { s with toks := s.toks + 1 }) (h1 : ∀ t u, g = some (t, u) → Q (.int t u) { s with toks := s.toks + 1 }) :
    wpAny (model prog w) A (call (.builtin "dict.get") [.ref d, key]) Q E s := by
  refine get_T N hp hd lo hkey hl ?_
  cases g with
  | none => exact h0 rfl
  | some p => exact h1 p.1 p.2 rfl
theorem pick_some {acc : Option (Int × Str)} {t : Int} {n : Str} (h : pick acc (some t) n = none) : False := by
  cases acc with
  | none => cases h
  | some p =>
    simp only [pick] at h
    split at h <;> cases h
theorem end_row {h₀ g h' : Heap} {L L' : Addr} {m m' : Str → Option Value} {news news0 led rows : List (Addr × Obj)} {s : Shared} {Q : Value → Shared → Prop} {tk' : Nat} {e : Option (Int × Str)} {D : Addr} {t : Int} {k1 k2 : Tok} {sp : Str} (hm : (D, tupOf [.int t k1, .str sp k2]) ∈ rows) (hret : Ret h₀ L m news s Q (IsPair e)) (N : News h₀ L s.heap news) (sub : ∀ p ∈ news0, p ∈ news) (k : Kept g news news0) (F' : Fr g L' h' m') (kF : Fr h₀ L h' m) (kN : News h₀ L h' led)
    (hlt : ∀ q ∈ news, q.1 < L') (hLL : @LT.lt Nat _ L L') (hsub : ∀ p ∈ rows, p ∈ led) (hgt : ∀ p ∈ rows, @LT.lt Nat _ L' p.1) (h0 : ∀ p ∈ news0, p ∈ led) (he : e = some (t, sp)) : Q (.ref D) { s with heap := h', toks := tk' } :=
  end_pair hret N sub k F' kF kN hlt hLL (hsub _ hm) (hgt _ hm) h0 he
theorem period_of {x b d c : Int} (h : x = (b + d) * 2 ^ (rangeKs 0 (c - 0).toNat).length) : x = period b d c := by
  rw [h, rangeKs_length, Int.sub_zero]
  rfl
theorem period_of0 {x b c : Int} (h : x = b * 2 ^ (rangeKs 0 (c - 0).toNat).length) : x = period b 0 c := by
  rw [h, rangeKs_length, Int.sub_zero]
  unfold period
  rw [Int.add_zero]
theorem pd_e {gi gh ga : Option Int} {b dl c now : Int} {conf val keys : Bool} (h : anyT gi gh ga = true) (hi : gi = none) (hh : gh = none) (hc : conf = false) : PD gi gh ga b dl c conf val keys now = none := by
  subst hi hh hc
  unfold PD
  rw [if_pos h]
  rfl
/-- none, or a triple of a time, a name and a kind -/
def IsTriple (e : Option (Int × Str × Str)) (tl : List (Addr × Obj)) (r : Value) : Prop := match e with
  | none => tl = [] ∧ r = .none
  | some (t, sp, kd) => ∃ x k1 k2 k3, tl = [(x, tupOf [.int t k1, .str sp k2, .str kd k3])] ∧ r = .ref x
theorem isTriple_none {e : Option (Int × Str × Str)} (h : e = none) : IsTriple e [] .none := by subst h; exact ⟨rfl, rfl⟩
/-- what next_timer tells -/
def NT (el told : Option (Int × Str)) (bl : Bool) : Option (Int × Str × Str) := match el, told with
  | some (t, sp), _ => some (t, sp, Str.ofString "loss")
  | none, some (t, sp) => if bl then none else some (t, sp, Str.ofString "probe")
  | none, none => none
section
variable {h₀ g h' : Heap} {L L' : Addr} {m m' : Str → Option Value} {news news0 led : List (Addr × Obj)} {s : Shared} {Q : Value → Shared → Prop} {tk' : Nat}
theorem end_triple {e : Option (Int × Str × Str)} {D : Addr} {t : Int} {k1 k2 k3 : Tok} {sp kd : Str} (hret : Ret h₀ L m news s Q (IsTriple e)) (N : News h₀ L s.heap news) (sub : ∀ p ∈ news0, p ∈ news) (k : Kept g news news0) (F' : Fr g L' h' m') (kF : Fr h₀ L h' m) (kN : News h₀ L h' led)
    (hlt : ∀ q ∈ news, q.1 < L') (hLL : @LT.lt Nat _ L L') (hm : (D, tupOf [.int t k1, .str sp k2, .str kd k3]) ∈ led) (hD : @LT.lt Nat _ L' D) (h0 : ∀ p ∈ news0, p ∈ led) (he : e = some (t, sp, kd)) : Q (.ref D) { s with heap := h', toks := tk' } := by
  subst he
  refine hret (.ref D) [(D, tupOf [.int t k1, .str sp k2, .str kd k3])] h' tk' kF (backR N sub k F' kN h0 fun p hp => ?_) (fun p hp => ?_) (fun p hp q hq => ?_) ⟨D, k1, k2, k3, rfl, rfl⟩
  · rw [List.mem_singleton.mp hp]; exact hm
  · rw [List.mem_singleton.mp hp]; exact Nat.lt_trans hLL hD
  · rw [List.mem_singleton.mp hp]; exact Nat.lt_trans (hlt q hq) hD
end
section
variable {el : Option (Int × Str)} {bl : Bool} {t : Int} {sp : Str}
theorem nt_loss {told : Option (Int × Str)} (h : el = some (t, sp)) : NT el told bl = some (t, sp, Str.ofString "loss") := by subst h; rfl
theorem nt_none (h : el = none) : NT el none bl = none := by subst h; rfl
theorem nt_block (h : el = none) (hb : bl = true) : NT el (some (t, sp)) bl = none := by subst h hb; rfl
theorem nt_probe (h : el = none) (hb : bl = false) : NT el (some (t, sp)) bl = some (t, sp, Str.ofString "probe") := by subst h hb; rfl
end
end Mine


/-! ## list comprehensions over a tuple or the keys of a dict -/
namespace Mine
open PySem.Spec PySem.Calls LCg LCt
section
variable {prog : Program} {w : World} {A : Around} {E : Value → Shared → Prop} {s : Shared} {h₀ : Heap} {L : Addr} {m : Str → Option Value} {env : Env}

/-- what a comprehension asks of its source -/
structure SrcW (prog : Program) (w : World) (A : Around) (h₀ : Heap) (L : Addr) (m : Str → Option Value) (P : Nat → Value → Prop) (n : Nat) (S : List (Addr × Obj) → Prop) (news : List (Addr × Obj)) (xv : Value) (s₁ : Shared) : Prop where
  F : Fr h₀ L s₁.heap m
  N : News h₀ L s₁.heap news
  stands : S news
  few : n ≤ sizeLine
  go : ∃ (fp : List Addr) (St : Nat → Heap → Prop) (it : Obj), (∀ (Q E : Value → Shared → Prop), Q (.ref s₁.heap.objs.size) { s₁ with heap := s₁.heap.push it } → wpAny (model prog w) A (pyIter xv) Q E s₁) ∧
    Walks prog w A s₁.heap.objs.size fp [s₁.heap.objs.size] n P St ∧ (∀ i h, St i h → ∃ o, h.get? s₁.heap.objs.size = some o) ∧
    (∀ i h h' o nw, St i h → h.get? s₁.heap.objs.size = some o → h'.get? s₁.heap.objs.size = some o → (∀ b o, h₀.get? b = some o → h'.get? b = some o) → News h₀ L h' nw → S nw → St i h') ∧
    St 0 (s₁.heap.push it) ∧ ∀ b ∈ fp, b ≤ s₁.heap.objs.size

def SrcX (prog : Program) (w : World) (A : Around) (h₀ : Heap) (L : Addr) (m : Str → Option Value) (env : Env) (ct elt : Expr) (x : Str) (scope : Scope) (cl : List (Str × Addr)) (Fin : Shared → List Value → List (Addr × Obj) → Prop) (xv : Value) (s₁ : Shared) : Prop :=
  ∃ P n S news, SrcW prog w A h₀ L m P n S news xv s₁ ∧ ∀ g : Heap, CompRestT prog w A h₀ L m env ct elt x scope cl { s₁ with heap := g } S P (Fin { s₁ with heap := g }) n 0 [] news
def SrcXU (prog : Program) (w : World) (A : Around) (h₀ : Heap) (L : Addr) (m : Str → Option Value) (env : Env) (elt : Expr) (x : Str) (scope : Scope) (cl : List (Str × Addr)) (Fin : Shared → List Value → List (Addr × Obj) → Prop) (xv : Value) (s₁ : Shared) : Prop :=
  ∃ P n S news, SrcW prog w A h₀ L m P n S news xv s₁ ∧ ∀ g : Heap, CompRest prog w A h₀ L m env elt x scope cl { s₁ with heap := g } S P (Fin { s₁ with heap := g }) n 0 [] news

theorem fin_post {Q : Value → Shared → Prop} {s₂ : Shared} {D C : Addr} {h : Heap} {tk : Nat} {m' : Str → Option Value} {ys : List Value} {news' : List (Addr × Obj)} (F' : Fr h₀ L h m) (N' : News h₀ L h ((D, lst ys) :: news')) (o1 : Off1 D news') (hn : h.Ns C m') (hC₀ : h₀.get? C = none) (hCL : C ≠ L) (hCD : C ≠ D) (offC : ∀ p ∈ news', p.1 ≠ C)
    (fin : FinE h₀ L m s₂ Q ys news') : ∃ m'', h.Ns C m'' ∧ ∀ h'', Heap.SameBut C h h'' → Q (.ref D) { s₂ with heap := h'', toks := tk } := by
  refine ⟨m', hn, fun h'' hs => fin D h'' tk (F'.change hs hCL hC₀) (fun p hp => ?_) o1⟩
  have z := N' p hp
  refine ⟨hs.extBut _ _ ?_ z.1, z.2⟩
  rcases List.mem_cons.mp hp with rfl | hp
  · exact Ne.symm hCD
  · exact offC p hp

theorem comp_X {ct elt iter : Expr} {x : Str} {px : Pos} {scope : Scope} {cl : List (Str × Addr)} {pos : Pos} {Q : Value → Shared → Prop} (_F₀ : Fr h₀ L s.heap m)
    (hclos : closureFor scope env = pure cl) (hcell : ∀ y ∈ scope.names, y.2 ≠ .cell) (hkind : scope.kind = .function)
    (hnames : ∀ y ∈ scope.names, y.2 = .local → scope.names.lookup y.1 = some .local) (hx : scope.names.lookup x = some .local)
    (h : wpAny (model prog w) A (eval iter env) (SrcX prog w A h₀ L m env ct elt x scope cl (fun s₂ => FinE h₀ L m s₂ Q)) E s)
    (hs : ∀ x, foldedSetIterable iter env x = pure x := by intro _; rfl) :
    wpAny (model prog w) A (eval (.ListComp elt [⟨.Name x px, iter, [ct], 0⟩] scope pos) env) Q E s := by
  rw [eval_ListComp]
  refine wpAny_comprehension_free (use := none) rfl hs hclos hkind hnames (wpAny_mono h (fun xv s₁ h₁ => ?_) fun _ _ e => e)
  obtain ⟨P, n, S, news, ⟨F, N, hS, hsz, fp, St, it, hit, W, hIo, hSt, hst, hfp⟩, R⟩ := h₁
  have up : ∀ b o, s₁.heap.get? b = some o → (s₁.heap.push it).get? b = some o := fun b o e => Heap.get?_push_of_some _ e
  refine hit _ _ (block_T W hsz hIo hSt hcell hkind hx hst (fun b hb => ?_) (F.keeps up) (N.grown up) (Nat.ne_of_lt F.ns.lt) (next_is_new F) (fun p hp => Nat.ne_of_lt (Heap.lt_size (N p hp).1)) hS (R _)
    fun D C h tk m' ys news' F' N' o1 hn hC₀ _ hCL _ hCD offC fin => fin_post F' N' o1 hn hC₀ hCL hCD offC fin)
  show b < (s₁.heap.push _).objs.size
  rw [Heap.size_push]
  exact Nat.lt_succ_of_le (hfp b hb)

theorem comp_XU {elt iter : Expr} {x : Str} {px : Pos} {scope : Scope} {cl : List (Str × Addr)} {pos : Pos} {Q : Value → Shared → Prop} (_F₀ : Fr h₀ L s.heap m)
    (hclos : closureFor scope env = pure cl) (hcell : ∀ y ∈ scope.names, y.2 ≠ .cell) (hkind : scope.kind = .function)
    (hnames : ∀ y ∈ scope.names, y.2 = .local → scope.names.lookup y.1 = some .local) (hx : scope.names.lookup x = some .local)
    (h : wpAny (model prog w) A (eval iter env) (SrcXU prog w A h₀ L m env elt x scope cl (fun s₂ => FinE h₀ L m s₂ Q)) E s)
    (hs : ∀ x, foldedSetIterable iter env x = pure x := by intro _; rfl) :
    wpAny (model prog w) A (eval (.ListComp elt [⟨.Name x px, iter, [], 0⟩] scope pos) env) Q E s := by
  rw [eval_ListComp]
  refine wpAny_comprehension_free (use := none) rfl hs hclos hkind hnames (wpAny_mono h (fun xv s₁ h₁ => ?_) fun _ _ e => e)
  obtain ⟨P, n, S, news, ⟨F, N, hS, hsz, fp, St, it, hit, W, hIo, hSt, hst, hfp⟩, R⟩ := h₁
  have up : ∀ b o, s₁.heap.get? b = some o → (s₁.heap.push it).get? b = some o := fun b o e => Heap.get?_push_of_some _ e
  refine hit _ _ (block_U W hsz hIo hSt hcell hkind hx hst (fun b hb => ?_) (F.keeps up) (N.grown up) (Nat.ne_of_lt F.ns.lt) (next_is_new F) (fun p hp => Nat.ne_of_lt (Heap.lt_size (N p hp).1)) hS (R _)
    fun D C h tk m' ys news' F' N' o1 hn hC₀ _ hCL _ hCD offC fin => fin_post F' N' o1 hn hC₀ hCL hCD offC fin)
  show b < (s₁.heap.push _).objs.size
  rw [Heap.size_push]
  exact Nat.lt_succ_of_le (hfp b hb)

/-- a tuple that stands wherever S holds -/
theorem SrcW.tup {ax : Addr} {its : Array Value} {S : List (Addr × Obj) → Prop} {news : List (Addr × Obj)} {s₁ : Shared} (hh : A.handled = none) (F : Fr h₀ L s₁.heap m) (N : News h₀ L s₁.heap news) (hS : S news) (hsz : its.size ≤ sizeLine)
    (ht : ∀ h' nw, (∀ b o, h₀.get? b = some o → h'.get? b = some o) → News h₀ L h' nw → S nw → h'.IsTuple ax its) : SrcW prog w A h₀ L m (fun i v => its[i]? = some v) its.size S news (.ref ax) s₁ := by
  have hl := ht _ _ F.keep N hS
  have hlt : ax < s₁.heap.objs.size := by obtain ⟨_, e, _⟩ := hl; exact Heap.lt_size e
  refine ⟨F, N, hS, hsz, [s₁.heap.objs.size, ax], _, _, fun Q E hQ => wpAny_pyIter_tuple hl hQ, Walks.tuple hh s₁.heap.objs.size ax (Nat.ne_of_lt hlt) its, fun i h st => ?_, fun i h h' o nw st e e' k N' S' => ⟨?_, ht _ _ k N' S'⟩, ⟨⟨_, Heap.get?_push_size _ rfl, rfl, rfl⟩, hl.at fun o e => Heap.get?_push_of_some _ e⟩, fun b hb => ?_⟩
  · obtain ⟨o, e, _⟩ := st.1
    exact ⟨o, e⟩
  · obtain ⟨o', q, r⟩ := st.1
    rw [e] at q
    cases q
    exact ⟨o, e', r⟩
  · rcases List.mem_cons.mp hb with rfl | hb
    · exact Nat.le_refl _
    · rw [List.mem_singleton.mp hb]
      exact Nat.le_of_lt hlt

/-- the keys of a dict of the ledger -/
theorem SrcW.keys {d : Addr} {o : Obj} {kvs : List (Str × Value)} {news : List (Addr × Obj)} {s₁ : Shared} (hh : A.handled = none) (F : Fr h₀ L s₁.heap m) (N : News h₀ L s₁.heap news) (hm : (d, o) ∈ news) (hd : o.IsDictOf (strKind prog w) kvs) (lo : (d == sysModules) = false) (hsz : kvs.length ≤ 3) :
    SrcW prog w A h₀ L m (fun i v => ∃ t, (kvs.map fun kv => Value.str kv.1 t).toArray[i]? = some v) kvs.length (fun nw => (d, o) ∈ nw) news (.ref d) s₁ := by
  obtain ⟨es, ep, hex, hdat, hk, hp, hn⟩ := hd
  have at_ : ∀ h' nw, News h₀ L h' nw → (d, o) ∈ nw → h'.DictAt (strKind prog w) d kvs ep := fun h' nw N' hm' => ⟨o, es, (N' _ hm').1, hex, hdat, hk, hp, hn⟩
  have hl := at_ _ _ N hm
  have hlt : d < s₁.heap.objs.size := Heap.lt_size (N _ hm).1
  have W := Walks.dictKeys (knd := strKind prog w) hh s₁.heap.objs.size d (Nat.ne_of_lt hlt) kvs ep
  refine ⟨F, N, hm, (by rw [PySem.sizeLine_eq]; omega), [s₁.heap.objs.size, d], _, _, fun Q E hQ => wpAny_pyIter_dict lo hl hQ, W.weaken ?_, fun i h st => ?_, fun i h h' o' nw st e e' k N' S' => ⟨?_, at_ _ _ N' S'⟩, ⟨⟨_, Heap.get?_push_size _ rfl, rfl, rfl⟩, hl.at' fun o e => Heap.get?_push_of_some _ e⟩, fun b hb => ?_⟩
  · rintro i v ⟨k, x, hx, hkv⟩
    obtain ⟨t, rfl⟩ := Value.isStrOf_shape hkv
    exact ⟨t, by simp [hx]⟩
  · obtain ⟨o, e, _⟩ := st.1
    exact ⟨o, e⟩
  · obtain ⟨o', q, r⟩ := st.1
    rw [e] at q
    cases q
    exact ⟨_, e', r⟩
  · rcases List.mem_cons.mp hb with rfl | hb
    · exact Nat.le_refl _
    · rw [List.mem_singleton.mp hb]
      exact Nat.le_of_lt hlt

theorem SrcXU.tupK {K : Frag} {elt : Expr} {x : Str} {scope : Scope} {cl : List (Str × Addr)} {Fin : Shared → List Value → List (Addr × Obj) → Prop} {ax : Addr} {lo : Obj} {vs : List Value} {n : Nat} {news : List (Addr × Obj)} {s₁ : Shared}
    (hh : A.handled = none) (F : Fr h₀ L s₁.heap m) (N : News h₀ L s₁.heap news) (X : K.In h₀) (hk : K.lookup ax = some lo) (hc : lo.cls = .type "tuple") (hd : lo.data = .seq vs.toArray n) (hsz : vs.toArray.size ≤ sizeLine)
    (h : ∀ g, CompRest prog w A h₀ L m env elt x scope cl { s₁ with heap := g } (fun _ => True) (fun i v => vs.toArray[i]? = some v) (Fin { s₁ with heap := g }) vs.toArray.size 0 [] news) : SrcXU prog w A h₀ L m env elt x scope cl Fin (.ref ax) s₁ :=
  ⟨_, _, _, _, SrcW.tup (S := fun _ => True) hh F N trivial hsz (fun _ _ k _ _ => ⟨lo, k _ _ (X _ _ hk), hc, n, hd⟩), h⟩
theorem SrcX.tupN {ct elt : Expr} {x : Str} {scope : Scope} {cl : List (Str × Addr)} {Fin : Shared → List Value → List (Addr × Obj) → Prop} {ax : Addr} {vs : List Value} {news : List (Addr × Obj)} {s₁ : Shared}
    (hh : A.handled = none) (F : Fr h₀ L s₁.heap m) (N : News h₀ L s₁.heap news) (hm : (ax, tupOf vs) ∈ news) (hsz : vs.toArray.size ≤ sizeLine)
    (h : ∀ g, CompRestT prog w A h₀ L m env ct elt x scope cl { s₁ with heap := g } (fun nw => (ax, tupOf vs) ∈ nw) (fun i v => vs.toArray[i]? = some v) (Fin { s₁ with heap := g }) vs.toArray.size 0 [] news) : SrcX prog w A h₀ L m env ct elt x scope cl Fin (.ref ax) s₁ :=
  ⟨_, _, _, _, SrcW.tup (S := fun nw => (ax, tupOf vs) ∈ nw) hh F N hm hsz (fun _ _ _ N' S' => ⟨_, (N' _ S').1, rfl, _, rfl⟩), h⟩
theorem SrcX.keys {ct elt : Expr} {x : Str} {scope : Scope} {cl : List (Str × Addr)} {Fin : Shared → List Value → List (Addr × Obj) → Prop} {d : Addr} {o : Obj} {kvs : List (Str × Value)} {news : List (Addr × Obj)} {s₁ : Shared}
    (hh : A.handled = none) (F : Fr h₀ L s₁.heap m) (N : News h₀ L s₁.heap news) (hm : (d, o) ∈ news) (hd : o.IsDictOf (strKind prog w) kvs) (lo : (d == sysModules) = false) (hsz : kvs.length ≤ 3)
    (h : ∀ g, CompRestT prog w A h₀ L m env ct elt x scope cl { s₁ with heap := g } (fun nw => (d, o) ∈ nw) (fun i v => ∃ t, (kvs.map fun kv => Value.str kv.1 t).toArray[i]? = some v) (Fin { s₁ with heap := g }) kvs.length 0 [] news) : SrcX prog w A h₀ L m env ct elt x scope cl Fin (.ref d) s₁ :=
  ⟨_, _, _, _, SrcW.keys hh F N hm hd lo hsz, h⟩

/-! ### the keys of a dict that is no written one -/
inductive NamesAre : List Value → List Str → Prop
  | nil : NamesAre [] []
  | cons (n : Str) (t : Tok) {vs : List Value} {ns : List Str} : NamesAre vs ns → NamesAre (.str n t :: vs) (n :: ns)
theorem NamesAre.snoc {n : Str} {t : Tok} : ∀ {vs : List Value} {ns : List Str}, NamesAre vs ns → NamesAre (vs ++ [.str n t]) (ns ++ [n])
  | _, _, .nil => .cons n t .nil
  | _, _, .cons n' t' h => .cons n' t' h.snoc

abbrev keyP (kvs : List (Str × Value)) (i : Nat) (v : Value) : Prop := ∃ t, (kvs.map fun kv => Value.str kv.1 t).toArray[i]? = some v

theorem rest_keys {ct elt : Expr} {x : Str} {scope : Scope} {cl : List (Str × Addr)} {s₁ : Shared} {S : List (Addr × Obj) → Prop} {Fin : List Value → List (Addr × Obj) → Prop} {kvs : List (Str × Value)} {news : List (Addr × Obj)} (inc : Str × Value → Bool)
    (turn : ∀ (n : Str) (v : Value) (t : Tok) (I : Addr) (oI : Obj) (C : Addr) (oC : Obj) (D : Addr) (m₂ : Str → Option Value) (h : Heap) (tk : Nat) (ys : List Value) (E' : Value → Shared → Prop), (n, v) ∈ kvs → NsObj oC m₂ → m₂ x = some (.str n t) → Fr h₀ L h m →
      News h₀ L h ((I, oI) :: (C, oC) :: (D, lst ys) :: news) → Off3 I C D news → ((@Ne Nat I C) ∧ (@Ne Nat I D) ∧ (@Ne Nat C D)) →
      wpAny (model prog w) A (isTrue ct (compEnvC scope cl C env) (eval ct (compEnvC scope cl C env))) (fun ok s' => if ok = true then
        wpAny (model prog w) A (eval elt (compEnvC scope cl C env)) (CompEnd h₀ L m { s₁ with heap := h, toks := tk } I oI C oC D (lst ys) S (fun y news' => news' = news ∧ inc (n, v) = true ∧ ∃ t', y = .str n t')) E' s'
        else CompEnd h₀ L m { s₁ with heap := h, toks := tk } I oI C oC D (lst ys) S (fun _ news' => news' = news ∧ inc (n, v) = false) Value.none s') E' { s₁ with heap := h, toks := tk })
    (fin : ∀ ys, NamesAre ys ((kvs.filter inc).map (·.1)) → Fin ys news) : CompRestT prog w A h₀ L m env ct elt x scope cl s₁ S (keyP kvs) Fin kvs.length 0 [] news := by
  have all : ∀ k i ys, i + k = kvs.length → NamesAre ys (((kvs.take i).filter inc).map (·.1)) → CompRestT prog w A h₀ L m env ct elt x scope cl s₁ S (keyP kvs) Fin k i ys news := by
    intro k
    induction k with
    | zero =>
      intro i ys hi hy
      refine CompRestT.zero (fin ys ?_)
      have e : kvs.take i = kvs := List.take_of_length_le (by omega)
      rwa [e] at hy
    | succ k ih =>
      intro i ys hi hy
      refine CompRestT.succ fun v I oI C oC D m₂ h tk E' hv hC hx F N off ne => ?_
      obtain ⟨t, ht⟩ := hv
      have hlt : i < kvs.length := by omega
      have hi' : kvs[i]? = some kvs[i] := List.getElem?_eq_getElem hlt
      have hv' : v = .str (kvs[i]).1 t := by
        have : (kvs.map fun kv => Value.str kv.1 t)[i]? = some v := by simpa using ht
        rw [List.getElem?_map, hi'] at this
        exact (Option.some.inj this).symm
      subst hv'
      have hmem : ((kvs[i]).1, (kvs[i]).2) ∈ kvs := List.getElem_mem hlt
      have etake : kvs.take (i + 1) = kvs.take i ++ [kvs[i]] := List.take_succ_eq_append_getElem hlt
      refine wpAny_mono (turn (kvs[i]).1 (kvs[i]).2 t I oI C oC D m₂ h tk ys E' hmem hC hx F N off ne) (fun ok s' hs => ?_) fun _ _ e => e
      cases ok with
      | true =>
        simp only [if_true] at hs ⊢
        refine wpAny_mono hs (fun y s'' hc => ?_) fun _ _ e => e
        obtain ⟨h', tk', news', e, F', N', off', hS', rfl, hinc, t', rfl⟩ := hc
        refine ⟨h', tk', news', e, F', N', off', hS', ih (i + 1) _ (by omega) ?_⟩
        rw [etake, List.filter_append, List.map_append]
        have : [kvs[i]].filter inc = [kvs[i]] := by simp [List.filter, hinc]
        rw [this]
        exact hy.snoc
      | false =>
        simp only [Bool.false_eq_true, if_false] at hs ⊢
        obtain ⟨h', tk', news', e, F', N', off', hS', rfl, hinc⟩ := hs
        refine ⟨h', tk', news', e, F', N', off', hS', ih (i + 1) _ (by omega) ?_⟩
        rw [etake, List.filter_append, List.map_append]
        have : [kvs[i]].filter inc = [] := by simp [List.filter, hinc]
        rw [this]
        simpa using hy
  exact all kvs.length 0 [] (by omega) (by simpa using NamesAre.nil)

/-! ### a list of names against the empty list -/
theorem names_read {h : Heap} : ∀ {vs : List Value} {ns : List Str}, NamesAre vs ns → ReadsAll h vs (ns.map PyData.str) []
  | _, _, .nil => .nil
  | _, _, .cons n t r => by
    have := ReadsAll.cons (Reads.str (h := h) n t) (names_read (h := h) r)
    simpa using this
theorem names_flat : ∀ ns : List Str, (∀ n ∈ ns, PyData.canLay0 (.str n) = true) → PyData.canLayAll0 (ns.map PyData.str) = true ∧ PyData.depthAll (ns.map PyData.str) ≤ 1
  | [], _ => by simp [PyData.canLayAll0, PyData.depthAll]
  | n :: r, hn => by
    have ih := names_flat r fun k hk => hn k (.tail _ hk)
    have h1 := hn n (.head _)
    simp only [List.map_cons, PyData.canLayAll0, PyData.depthAll, PyData.depth, h1, ih.1]
    refine ⟨rfl, ?_⟩
    have := ih.2
    omega
theorem ne_empty {D l : Addr} {vs : List Value} {ns : List Str} {k : Nat} {news : List (Addr × Obj)} {Q : Value → Shared → Prop} (N : News h₀ L s.heap news) (hm : (D, ({ cls := .type "list", data := .seq vs.toArray k } : Obj)) ∈ news) (hl : (l, ({ cls := .type "list", data := .seq ([] : List Value).toArray 0 } : Obj)) ∈ news)
    (hn : NamesAre vs ns) (hg : ∀ n ∈ ns, PyData.canLay0 (.str n) = true) (hu : A.units + 64 < cLine) (h : Q (.bool (!ns.isEmpty)) s) : wpAny (model prog w) A (compareOp .NotEq (.ref D) (.ref l)) Q E s := by
  have fl := names_flat ns hg
  refine ne_dataH (reads_list_at (N.get hm) rfl rfl (by simpa using names_read hn)) (reads_list_at (N.get hl) rfl rfl (by simpa using ReadsAll.nil)) ?_ rfl hu ?_
  · unfold SeqAt.shaped
    rw [Bool.and_eq_true]
    refine ⟨by simpa [PyData.canLay0] using fl.1, decide_eq_true ?_⟩
    have := fl.2
    simp only [PyData.depth]
    omega
  · have e : PyData.eqv (.list (ns.map PyData.str)) (.list []) = ns.isEmpty := by
      cases ns <;> simp [PyData.eqv, PyData.eqvAll]
    rw [e]
    exact h

theorem item_T {K : Type} [DecidableEq K] {knd : KeyKind prog w K} {news : List (Addr × Obj)} {d : Addr} {o : Obj} {kvs : List (K × Value)} {k : K} {key : Value} {t : Int} {tk : Tok} {value slice : PySem.Expr} {Q : Value → Shared → Prop} (N : News h₀ L s.heap news) (hp : (d, o) ∈ news) (hd : o.IsDictOf knd kvs) (hkey : knd.is k key = true)
    (hl : (valueAt kvs k).getD .none = .int t tk) (h : Q (.int t tk) { s with toks := s.toks + 1 })
    (hs : subscripted slice false (.ref d) key = operate [.ref d, key] (getItem (.ref d) key) := by with_unfolding_all rfl) (hg : ∀ r, letTemporaryGo value (.ref d) r = pure () := by intro _; with_unfolding_all rfl) :
    wpAny (model prog w) A (subscriptTail value slice (.ref d) key) Q E s := by
  refine kda_item N hp hd hkey ?_ h hs hg
  cases hv : valueAt kvs k with
  | none => rw [hv] at hl; cases hl
  | some v => rw [hv] at hl; cases hl; rfl

theorem valueAt_nodup {kvs : List (Str × Value)} {n : Str} {v : Value} (hn : (kvs.map (·.1)).Nodup) (hm : (n, v) ∈ kvs) : valueAt kvs n = some v := by
  induction kvs with
  | nil => exact nomatch hm
  | cons p r ih =>
    simp only [List.map_cons, List.nodup_cons] at hn
    unfold valueAt
    rcases List.mem_cons.mp hm with rfl | hm
    · simp [List.find?]
    · have hne : p.1 ≠ n := fun e => hn.1 (e ▸ List.mem_map.mpr ⟨(n, v), hm, rfl⟩)
      have := ih hn.2 hm
      unfold valueAt at this
      simpa [List.find?, hne] using this
theorem valueAt_mem {kvs : List (Str × Value)} {n : Str} {v : Value} {o : Obj} (hd : o.IsDictOf (strKind prog w) kvs) (hm : (n, v) ∈ kvs) : valueAt kvs n = some v := by
  obtain ⟨_, _, _, _, _, _, hn⟩ := hd
  exact valueAt_nodup hn hm
end

/-! ### what a dict of times tells -/
def inc1 (kv : Str × Value) : Bool := match kv.2 with
  | .none => false
  | _ => true
section
variable {kvs : List (Str × Value)} {gi gh ga : Option (Int × Tok)}
theorem times_get (hT : TimesOf kvs gi gh ga) : (valueAt kvs (Str.ofString "initial")).getD .none = toV gi ∧ (valueAt kvs (Str.ofString "handshake")).getD .none = toV gh ∧ (valueAt kvs (Str.ofString "application")).getD .none = toV ga := by
  obtain ⟨ki, kh, ka, rfl, hi, hh, ha⟩ := hT
  cases hi <;> cases hh <;> cases ha <;> exact ⟨by with_unfolding_all rfl, by with_unfolding_all rfl, by with_unfolding_all rfl⟩
theorem slot_len {n : Str} {k : List (Str × Value)} {g : Option (Int × Tok)} (h : Slot n k g) : k.length ≤ 1 := by cases h <;> simp
theorem times_len (hT : TimesOf kvs gi gh ga) : kvs.length ≤ 3 := by
  obtain ⟨ki, kh, ka, rfl, hi, hh, ha⟩ := hT
  have := slot_len hi; have := slot_len hh; have := slot_len ha
  simp only [List.length_append]
  omega
theorem slot_mem {n n' : Str} {v : Value} {k : List (Str × Value)} {g : Option (Int × Tok)} (h : Slot n k g) (hm : (n', v) ∈ k) : n' = n ∧ v = toV g ∧ (g = none ∨ ∃ t u, g = some (t, u) ∧ 1000 ≤ t ∧ t ≤ 3900) := by
  cases h with
  | gone => exact nomatch hm
  | nil => cases List.mem_singleton.mp hm; exact ⟨rfl, rfl, .inl rfl⟩
  | time t u h0 h1 => cases List.mem_singleton.mp hm; exact ⟨rfl, rfl, .inr ⟨t, u, rfl, h0, h1⟩⟩
theorem times_mem (hT : TimesOf kvs gi gh ga) {n : Str} {v : Value} (hm : (n, v) ∈ kvs) : (n = Str.ofString "initial" ∧ v = toV gi ∧ (gi = none ∨ ∃ t u, gi = some (t, u) ∧ 1000 ≤ t ∧ t ≤ 3900)) ∨ (n = Str.ofString "handshake" ∧ v = toV gh ∧ (gh = none ∨ ∃ t u, gh = some (t, u) ∧ 1000 ≤ t ∧ t ≤ 3900)) ∨
    (n = Str.ofString "application" ∧ v = toV ga ∧ (ga = none ∨ ∃ t u, ga = some (t, u) ∧ 1000 ≤ t ∧ t ≤ 3900)) := by
  obtain ⟨ki, kh, ka, rfl, hi, hh, ha⟩ := hT
  rcases List.mem_append.mp hm with hm | hm
  · exact .inl (slot_mem hi hm)
  · rcases List.mem_append.mp hm with hm | hm
    · exact .inr (.inl (slot_mem hh hm))
    · exact .inr (.inr (slot_mem ha hm))
theorem times_val (hT : TimesOf kvs gi gh ga) {n : Str} {v : Value} (hm : (n, v) ∈ kvs) : v = .none ∨ ∃ t u, v = .int t u := by
  have two : ∀ g : Option (Int × Tok), v = toV g → v = .none ∨ ∃ t u, v = .int t u := by
    intro g h
    cases g with
    | none => exact .inl h
    | some p => exact .inr ⟨p.1, p.2, h⟩
  rcases times_mem hT hm with h | h | h
  · exact two _ h.2.1
  · exact two _ h.2.1
  · exact two _ h.2.1
theorem slot_any {n : Str} {k : List (Str × Value)} {g : Option (Int × Tok)} (h : Slot n k g) : (k.filter inc1).isEmpty = !(tm g).isSome := by cases h <;> rfl
theorem times_any (hT : TimesOf kvs gi gh ga) : (!((kvs.filter inc1).map (·.1)).isEmpty) = anyT (tm gi) (tm gh) (tm ga) := by
  obtain ⟨ki, kh, ka, rfl, hi, hh, ha⟩ := hT
  have h1 := slot_any hi; have h2 := slot_any hh; have h3 := slot_any ha
  have e : ∀ l : List (Str × Value), (l.map (·.1)).isEmpty = l.isEmpty := fun l => by cases l <;> rfl
  have e2 : ∀ a b : List (Str × Value), (a ++ b).isEmpty = (a.isEmpty && b.isEmpty) := fun a b => by cases a <;> rfl
  rw [e, List.filter_append, List.filter_append, e2, e2, h1, h2, h3]
  unfold anyT
  cases (tm gi).isSome <;> cases (tm gh).isSome <;> cases (tm ga).isSome <;> rfl
theorem times_lay (hT : TimesOf kvs gi gh ga) {inc : Str × Value → Bool} : ∀ n ∈ (kvs.filter inc).map (·.1), PyData.canLay0 (.str n) = true := by
  intro n hn
  obtain ⟨⟨n', v⟩, hm, rfl⟩ := List.mem_map.mp hn
  have hm' := (List.mem_filter.mp hm).1
  rcases times_mem hT hm' with h | h | h <;> (dsimp only; rw [h.1]; decide +kernel)
end
end Mine


/-! ## letters in place of splits: a pair, a triple or none -/
namespace Mine
open PySem.Spec PySem.Calls
def PairAt (e : Option (Int × Str)) (x : Addr) (ox : Obj) (r : Value) : Prop := match e with
  | none => r = .none
  | some (t, sp) => ∃ k1 k2, r = .ref x ∧ ox = tupOf [.int t k1, .str sp k2]
def TripleAt (e : Option (Int × Str × Str)) (x : Addr) (ox : Obj) (r : Value) : Prop := match e with
  | none => r = .none
  | some (t, sp, kd) => ∃ k1 k2 k3, r = .ref x ∧ ox = tupOf [.int t k1, .str sp k2, .str kd k3]
section
variable {h₀ h' : Heap} {L d : Addr} {od : Obj} {news tl : List (Addr × Obj)} {r : Value}
theorem pair_letter {e : Option (Int × Str)} (P : IsPair e tl r) (hd : (d, od) ∈ news) (N : News h₀ L h' (tl ++ news)) (hO : ∀ p ∈ tl, ∀ q ∈ news, q.1 < p.1) :
    ∃ x ox, News h₀ L h' ((x, ox) :: news) ∧ PairAt e x ox r ∧ (@Eq Nat x d ∨ ∀ q ∈ news, q.1 < x) := by
  cases e with
  | none =>
    obtain ⟨rfl, rfl⟩ := P
    refine ⟨d, od, fun p hp => ?_, rfl, .inl rfl⟩
    rcases List.mem_cons.mp hp with rfl | hp
    · exact N _ hd
    · exact N _ hp
  | some p =>
    obtain ⟨x, k1, k2, rfl, rfl⟩ := P
    exact ⟨x, _, N, ⟨k1, k2, rfl, rfl⟩, .inr (hO _ (List.mem_singleton.mpr rfl))⟩
theorem triple_letter {e : Option (Int × Str × Str)} (P : IsTriple e tl r) (hd : (d, od) ∈ news) (N : News h₀ L h' (tl ++ news)) (hO : ∀ p ∈ tl, ∀ q ∈ news, q.1 < p.1) :
    ∃ x ox, News h₀ L h' ((x, ox) :: news) ∧ TripleAt e x ox r ∧ (@Eq Nat x d ∨ ∀ q ∈ news, q.1 < x) := by
  cases e with
  | none =>
    obtain ⟨rfl, rfl⟩ := P
    refine ⟨d, od, fun p hp => ?_, rfl, .inl rfl⟩
    rcases List.mem_cons.mp hp with rfl | hp
    · exact N _ hd
    · exact N _ hp
  | some p =>
    obtain ⟨x, k1, k2, k3, rfl, rfl⟩ := P
    exact ⟨x, _, N, ⟨k1, k2, k3, rfl, rfl⟩, .inr (hO _ (List.mem_singleton.mpr rfl))⟩
end
section
variable {prog : Program} {w : World} {A : Around} {E : Value → Shared → Prop} {s : Shared} {h₀ : Heap} {L x1 x2 : Addr} {o1 o2 : Obj} {news : List (Addr × Obj)} {r1 r2 : Value} {Q : Value → Shared → Prop}
theorem ne_pair {e : Option (Int × Str)} (N : News h₀ L s.heap news) (m1 : (x1, o1) ∈ news) (m2 : (x2, o2) ∈ news) (P1 : PairAt e x1 o1 r1) (P2 : PairAt e x2 o2 r2) (hg : ∀ t sp, e = some (t, sp) → PyData.canLay0 (.str sp) = true) (hu : A.units + 64 < cLine)
    (h : Q (.bool false) s) : wpAny (model prog w) A (compareOp .NotEq r1 r2) Q E s := by
  cases e with
  | none =>
    have e1 : r1 = .none := P1
    have e2 : r2 = .none := P2
    subst e1 e2
    exact EqNone.ne_none_none h
  | some p =>
    obtain ⟨t, sp⟩ := p
    obtain ⟨k1, k2, rfl, rfl⟩ := P1
    obtain ⟨j1, j2, rfl, rfl⟩ := P2
    have g := hg t sp rfl
    have sh : SeqAt.shaped (.tuple [.int t, .str sp]) = true := by
      unfold SeqAt.shaped
      simp [PyData.canLay0, PyData.canLayAll0, PyData.depth, PyData.depthAll] at g ⊢
      exact g
    refine ne_dataH (reads_tuple_at (N.get m1) rfl rfl (.cons (.int t k1) (.cons (.str sp k2) .nil))) (reads_tuple_at (N.get m2) rfl rfl (.cons (.int t j1) (.cons (.str sp j2) .nil))) sh sh hu ?_
    have e : PyData.eqv (.tuple [.int t, .str sp]) (.tuple [.int t, .str sp]) = true := by simp [PyData.eqv, PyData.eqvAll]
    rw [e]
    exact h
theorem ne_triple {e : Option (Int × Str × Str)} (N : News h₀ L s.heap news) (m1 : (x1, o1) ∈ news) (m2 : (x2, o2) ∈ news) (P1 : TripleAt e x1 o1 r1) (P2 : TripleAt e x2 o2 r2) (hg : ∀ t sp kd, e = some (t, sp, kd) → PyData.canLay0 (.str sp) = true ∧ PyData.canLay0 (.str kd) = true) (hu : A.units + 64 < cLine)
    (h : Q (.bool false) s) : wpAny (model prog w) A (compareOp .NotEq r1 r2) Q E s := by
  cases e with
  | none =>
    have e1 : r1 = .none := P1
    have e2 : r2 = .none := P2
    subst e1 e2
    exact EqNone.ne_none_none h
  | some p =>
    obtain ⟨t, sp, kd⟩ := p
    obtain ⟨k1, k2, k3, rfl, rfl⟩ := P1
    obtain ⟨j1, j2, j3, rfl, rfl⟩ := P2
    have g := hg t sp kd rfl
    have sh : SeqAt.shaped (.tuple [.int t, .str sp, .str kd]) = true := by
      unfold SeqAt.shaped
      simp [PyData.canLay0, PyData.canLayAll0, PyData.depth, PyData.depthAll] at g ⊢
      exact g
    refine ne_dataH (reads_tuple_at (N.get m1) rfl rfl (.cons (.int t k1) (.cons (.str sp k2) (.cons (.str kd k3) .nil)))) (reads_tuple_at (N.get m2) rfl rfl (.cons (.int t j1) (.cons (.str sp j2) (.cons (.str kd j3) .nil)))) sh sh hu ?_
    have e : PyData.eqv (.tuple [.int t, .str sp, .str kd]) (.tuple [.int t, .str sp, .str kd]) = true := by simp [PyData.eqv, PyData.eqvAll]
    rw [e]
    exact h
end

/-! ## the names that are told can be laid -/
def GoodP (e : Option (Int × Str)) : Prop := ∀ t sp, e = some (t, sp) → PyData.canLay0 (.str sp) = true
theorem good_pick {acc : Option (Int × Str)} {g : Option Int} {n : Str} (ha : GoodP acc) (hn : PyData.canLay0 (.str n) = true) : GoodP (pick acc g n) := by
  intro t sp h
  cases g with
  | none => exact ha t sp h
  | some v =>
    cases acc with
    | none => cases h; exact hn
    | some p =>
      simp only [pick] at h
      split at h
      · cases h; exact hn
      · cases h; exact ha _ _ rfl
theorem good_early {gi gh ga : Option Int} : GoodP (early gi gh ga) :=
  good_pick (good_pick (good_pick (fun _ _ h => nomatch h) (by decide +kernel)) (by decide +kernel)) (by decide +kernel)
theorem good_PD {gi gh ga : Option Int} {b dl c now : Int} {conf val keys : Bool} : GoodP (PD gi gh ga b dl c conf val keys now) := by
  unfold PD
  split
  · exact good_early
  · split
    · exact fun _ _ h => nomatch h
    · intro t sp h
      cases h
      cases keys
      · exact (by decide +kernel : PyData.canLay0 (.str "initial") = true)
      · exact (by decide +kernel : PyData.canLay0 (.str "handshake") = true)
theorem good_NT {el told : Option (Int × Str)} {bl : Bool} (h1 : GoodP el) (h2 : GoodP told) : ∀ t sp kd, NT el told bl = some (t, sp, kd) → PyData.canLay0 (.str sp) = true ∧ PyData.canLay0 (.str kd) = true := by
  intro t sp kd h
  cases el with
  | some p =>
    cases h
    exact ⟨h1 _ _ rfl, by decide +kernel⟩
  | none =>
    cases told with
    | none => cases h
    | some p =>
      cases bl with
      | true => cases h
      | false =>
        cases h
        exact ⟨h2 _ _ rfl, by decide +kernel⟩
theorem not_t {c : Bool} (h : (!c) = true) : c = false := by cases c <;> first | rfl | cases h
theorem not_f {c : Bool} (h : (!c) = false) : c = true := by cases c <;> first | rfl | cases h
theorem not_nt {c : Bool} (h : ¬(!c) = true) : c = true := by cases c <;> first | rfl | exact absurd rfl h
end Mine


/-! ## the law's own: letters and joins -/
namespace Mine
open PySem.Spec PySem.Calls
section
variable {h₀ h' : Heap} {L d : Addr} {od : Obj} {news tl : List (Addr × Obj)} {r : Value}
theorem pair_letterD {e : Option (Int × Str)} (P : IsPair e tl r) (hd : (d, od) ∈ news) (N : News h₀ L h' (tl ++ news)) (hO : ∀ p ∈ tl, ∀ q ∈ news, q.1 < p.1) :
    ∃ x ox, News h₀ L h' ((x, ox) :: news) ∧ PairAt e x ox r ∧ @LE.le Nat _ d x := by
  obtain ⟨x, ox, N', P', hx⟩ := pair_letter P hd N hO
  exact ⟨x, ox, N', P', hx.elim (fun e => Nat.le_of_eq e.symm) fun h => Nat.le_of_lt (h _ hd)⟩
theorem triple_letterD {e : Option (Int × Str × Str)} (P : IsTriple e tl r) (hd : (d, od) ∈ news) (N : News h₀ L h' (tl ++ news)) (hO : ∀ p ∈ tl, ∀ q ∈ news, q.1 < p.1) :
    ∃ x ox, News h₀ L h' ((x, ox) :: news) ∧ TripleAt e x ox r ∧ @LE.le Nat _ d x := by
  obtain ⟨x, ox, N', P', hx⟩ := triple_letter P hd N hO
  exact ⟨x, ox, N', P', hx.elim (fun e => Nat.le_of_eq e.symm) fun h => Nat.le_of_lt (h _ hd)⟩
end

theorem CallsTo.weaken {w : World} {loose : List Str} {mean : ExcName → Option Value} {mg mb : Str → Option Value} {f : Addr} {args : List Value} {news0 news1 : List (Addr × Obj)} {c : Nat} {Post : List (Addr × Obj) → Value → Prop}
    (C : CallsTo w loose mean mg mb f args news0 c Post) (h : ∀ p ∈ news0, p ∈ news1) : CallsTo w loose mean mg mb f args news1 c Post :=
  fun _ _ _ _ _ _ _ _ _ _ _ _ _ _ _ _ _ _ B F X N sub T hk hd hu ret => C _ _ _ _ _ _ _ _ _ _ _ _ _ _ _ _ _ _ B F X N (fun p hp => sub p (h p hp)) T hk hd hu ret

/-- a marker: the first way of a join -/
inductive Joining : Prop
  | mk : Joining

section
variable {M : Model} {A : Around} {E : Value → Shared → Prop} {s : Shared} {h₀ : Heap} {L d : Addr} {m : Str → Option Value} {news : List (Addr × Obj)}
def JoinP (h₀ : Heap) (L : Addr) (m : Str → Option Value) (news : List (Addr × Obj)) (s : Shared) (d : Addr) (e : Option (Int × Str)) (r : Value) (s' : Shared) : Prop :=
  ∃ x ox h' tk', s' = { s with heap := h', toks := tk' } ∧ Fr h₀ L h' m ∧ News h₀ L h' ((x, ox) :: news) ∧ PairAt e x ox r ∧ @LE.le Nat _ d x
def JoinT (h₀ : Heap) (L : Addr) (m : Str → Option Value) (news : List (Addr × Obj)) (s : Shared) (d : Addr) (n : Str) (e : Option (Int × Str × Str)) (fl : Flow) (s' : Shared) : Prop :=
  ∃ r x ox h' tk', fl = .next ∧ s' = { s with heap := h', toks := tk' } ∧ Fr h₀ L h' (fun y => if y = n then some r else m y) ∧ News h₀ L h' ((x, ox) :: news) ∧ TripleAt e x ox r ∧ @LE.le Nat _ d x
theorem join_P {t : Sem Value} {Q : Value → Shared → Prop} {e : Option (Int × Str)} {od : Obj} (F : Fr h₀ L s.heap m) (N : News h₀ L s.heap news) (hd : (d, od) ∈ news)
    (h1 : Joining → wpAny M A t (JoinP h₀ L m news s d e) E s)
    (h2 : ∀ r x ox h' tk', Fr h₀ L h' m → News h₀ L h' ((x, ox) :: news) → PairAt e x ox r → @LE.le Nat _ d x → Q r { s with heap := h', toks := tk' }) : wpAny M A t Q E s :=
  wpAny_mono (h1 .mk) (fun r s' h => by
    obtain ⟨x, ox, h', tk', rfl, F', N', P, hx⟩ := h
    exact h2 r x ox h' tk' F' N' P hx) fun _ _ h => h
theorem join_T {t : Sem Flow} {Q : Flow → Shared → Prop} {e : Option (Int × Str × Str)} {n : Str} {od : Obj} (F : Fr h₀ L s.heap m) (N : News h₀ L s.heap news) (hd : (d, od) ∈ news)
    (h1 : Joining → wpAny M A t (JoinT h₀ L m news s d n e) E s)
    (h2 : ∀ r x ox h' tk', Fr h₀ L h' (fun y => if y = n then some r else m y) → News h₀ L h' ((x, ox) :: news) → TripleAt e x ox r → @LE.le Nat _ d x → Q .next { s with heap := h', toks := tk' }) : wpAny M A t Q E s :=
  wpAny_mono (h1 .mk) (fun fl s' h => by
    obtain ⟨r, x, ox, h', tk', rfl, rfl, F', N', P, hx⟩ := h
    exact h2 r x ox h' tk' F' N' P hx) fun _ _ h => h
variable {h' : Heap} {tk' : Nat} {led rows : List (Addr × Obj)} {od : Obj}
theorem joinP_none {e : Option (Int × Str)} (he : e = none) (F' : Fr h₀ L h' m) (N' : News h₀ L h' led) (hd : (d, od) ∈ news) (sub : ∀ p ∈ news, p ∈ led) : JoinP h₀ L m news s d e .none { s with heap := h', toks := tk' } := by
  subst he
  refine ⟨d, od, h', tk', rfl, F', fun p hp => ?_, rfl, Nat.le_refl _⟩
  rcases List.mem_cons.mp hp with rfl | hp
  · exact N' _ (sub _ hd)
  · exact N' _ (sub _ hp)
theorem joinP_row {e : Option (Int × Str)} {D : Addr} {t : Int} {k1 k2 : Tok} {sp : Str} (hm : (D, tupOf [.int t k1, .str sp k2]) ∈ rows) (he : e = some (t, sp)) (F' : Fr h₀ L h' m) (N' : News h₀ L h' led) (sub : ∀ p ∈ news, p ∈ led)
    (hsub : ∀ p ∈ rows, p ∈ led) (hgt : ∀ p ∈ rows, @LE.le Nat _ d p.1) : JoinP h₀ L m news s d e (.ref D) { s with heap := h', toks := tk' } := by
  subst he
  refine ⟨D, _, h', tk', rfl, F', fun p hp => ?_, ⟨k1, k2, rfl, rfl⟩, hgt _ hm⟩
  rcases List.mem_cons.mp hp with rfl | hp
  · exact N' _ (hsub _ hm)
  · exact N' _ (sub _ hp)
theorem joinT_none {n : Str} {e : Option (Int × Str × Str)} (he : e = none) (F' : Fr h₀ L h' (fun y => if y = n then some Value.none else m y)) (N' : News h₀ L h' led) (hd : (d, od) ∈ news) (sub : ∀ p ∈ news, p ∈ led) : JoinT h₀ L m news s d n e .next { s with heap := h', toks := tk' } := by
  subst he
  refine ⟨.none, d, od, h', tk', rfl, rfl, F', fun p hp => ?_, rfl, Nat.le_refl _⟩
  rcases List.mem_cons.mp hp with rfl | hp
  · exact N' _ (sub _ hd)
  · exact N' _ (sub _ hp)
theorem joinT_some {n : Str} {e : Option (Int × Str × Str)} {D : Addr} {t : Int} {k1 k2 k3 : Tok} {sp kd : Str} (F' : Fr h₀ L h' (fun y => if y = n then some (Value.ref D) else m y)) (N' : News h₀ L h' led) (hm : (D, tupOf [.int t k1, .str sp k2, .str kd k3]) ∈ led) (he : e = some (t, sp, kd)) (sub : ∀ p ∈ news, p ∈ led)
    (hgt : @LE.le Nat _ d D) : JoinT h₀ L m news s d n e .next { s with heap := h', toks := tk' } := by
  subst he
  refine ⟨.ref D, D, _, h', tk', rfl, rfl, F', fun p hp => ?_, ⟨k1, k2, k3, rfl, rfl⟩, hgt⟩
  rcases List.mem_cons.mp hp with rfl | hp
  · exact N' _ hm
  · exact N' _ (sub _ hp)
end

theorem period_succ {b d c : Int} (h : 0 ≤ c) : period b d (c + 1) = 2 * period b d c := by
  unfold period
  have e : (c + 1).toNat = c.toNat + 1 := by omega
  rw [e, Int.pow_succ, ← Int.mul_assoc, Int.mul_comm]
theorem period_zero {b : Int} : period b 0 0 = b := by
  unfold period
  rw [Int.add_zero]
  show b * 2 ^ 0 = b
  rw [Int.pow_zero, Int.mul_one]
theorem period_pos {b d c : Int} (h : 0 < b + d) : 0 < period b d c := Int.mul_pos h (Int.pow_pos (by decide))

section
variable {prog : Program} {w : World} {A : Around} {E : Value → Shared → Prop} {s : Shared} {h₀ : Heap} {L : Addr}
theorem eq_empty {D l : Addr} {vs : List Value} {ns : List Str} {k : Nat} {news : List (Addr × Obj)} {Q : Value → Shared → Prop} (N : News h₀ L s.heap news) (hm : (D, ({ cls := .type "list", data := .seq vs.toArray k } : Obj)) ∈ news) (hl : (l, ({ cls := .type "list", data := .seq ([] : List Value).toArray 0 } : Obj)) ∈ news)
    (hn : NamesAre vs ns) (hg : ∀ n ∈ ns, PyData.canLay0 (.str n) = true) (hu : A.units + 64 < cLine) (h : Q (.bool ns.isEmpty) s) : wpAny (model prog w) A (compareOp .Eq (.ref D) (.ref l)) Q E s := by
  have fl := names_flat ns hg
  refine eq_dataH (reads_list_at (N.get hm) rfl rfl (by simpa using names_read hn)) (reads_list_at (N.get hl) rfl rfl (by simpa using ReadsAll.nil)) ?_ rfl hu ?_
  · unfold SeqAt.shaped
    rw [Bool.and_eq_true]
    refine ⟨by simpa [PyData.canLay0] using fl.1, decide_eq_true ?_⟩
    have := fl.2
    simp only [PyData.depth]
    omega
  · have e : PyData.eqv (.list (ns.map PyData.str)) (.list []) = ns.isEmpty := by
      cases ns <;> simp [PyData.eqv, PyData.eqvAll]
    rw [e]
    exact h
end
section
variable {el told : Option (Int × Str)} {bl : Bool} {t : Int} {sp : Str}
theorem nt_none2 (h : el = none) (h2 : told = none) : NT el told bl = none := by subst h h2; rfl
theorem nt_block2 (h : el = none) (hb : bl = true) : NT el told bl = none := by subst h hb; cases told <;> rfl
theorem nt_probe2 (h : el = none) (hb : bl = false) (h2 : told = some (t, sp)) : NT el told bl = some (t, sp, Str.ofString "probe") := by subst h hb h2; rfl
theorem pair_cases {e : Option (Int × Str)} {x : Addr} {ox : Obj} {r : Value} {C : Prop} (P : PairAt e x ox r) (h0 : e = none → r = .none → C) (h1 : ∀ t sp k1 k2, e = some (t, sp) → r = .ref x → ox = tupOf [.int t k1, .str sp k2] → C) : C := by
  cases e with
  | none => exact h0 rfl P
  | some p =>
    obtain ⟨t, sp⟩ := p
    obtain ⟨k1, k2, e1, e2⟩ := P
    exact h1 t sp k1 k2 rfl e1 e2
end
end Mine


/-! ## the law's own text, and its tails -/
namespace Mine
open PySem.Spec PySem.Calls
def lawParts : List Stmt × Scope := match PySem.Challenge.rw_no0048_01.row.prog.main.body.getLast? with
  | some (.FunctionDef _ _ body _ _ _ scope _ _ _) => (body, scope)
  | _ => ([], { kind := .function, names := [], isGenerator := false, isCoroutine := false })
def lawBody : List Stmt := lawParts.1
def lawScope : Scope := lawParts.2
def pickL {α : Type} : List Bool → List α → List α
  | true :: r, a :: l => a :: pickL r l
  | false :: r, _ :: l => pickL r l
  | _, _ => []
theorem pickL_mem {α : Type} {p : α} : ∀ {is : List Bool} {l : List α}, p ∈ pickL is l → p ∈ l
  | true :: r, a :: l, h => by
    rcases List.mem_cons.mp h with rfl | h
    · exact .head _
    · exact .tail _ (pickL_mem h)
  | false :: r, a :: l, h => .tail _ (pickL_mem (is := r) h)
  | true :: r, [], h => nomatch h
  | false :: r, [], h => nomatch h
  | [], _, h => nomatch h
theorem thin {h₀ h : Heap} {L : Addr} {news : List (Addr × Obj)} (is : List Bool) (N : News h₀ L h news) : News h₀ L h (pickL is news) := fun p hp => N p (pickL_mem hp)
theorem at_some {kvs : List (Str × Value)} {n : Str} {x : Int} (h : At kvs n (some x)) : ∃ k, (valueAt kvs n).getD .none = .int x k := by
  obtain ⟨g, hg, e⟩ := h
  cases g with
  | none => cases e
  | some p =>
    obtain ⟨y, k⟩ := p
    have : y = x := Option.some.inj e
    subst this
    exact ⟨k, hg⟩
theorem item_At {prog : Program} {w : World} {A : Around} {E : Value → Shared → Prop} {s : Shared} {h₀ : Heap} {L : Addr} {knd : KeyKind prog w Str} {news : List (Addr × Obj)} {d : Addr} {o : Obj} {kvs : List (Str × Value)} {k : Str} {key : Value} {t : Int} {value slice : PySem.Expr} {Q : Value → Shared → Prop} (N : News h₀ L s.heap news) (hp : (d, o) ∈ news) (hd : o.IsDictOf knd kvs) (hkey : knd.is k key = true)
    (hA : At kvs k (some t)) (h : ∀ tk, Q (.int t tk) { s with toks := s.toks + 1 })
    (hs : subscripted slice false (.ref d) key = operate [.ref d, key] (getItem (.ref d) key) := by with_unfolding_all rfl) (hg : ∀ r, letTemporaryGo value (.ref d) r = pure () := by intro _; with_unfolding_all rfl) :
    wpAny (model prog w) A (subscriptTail value slice (.ref d) key) Q E s := by
  obtain ⟨tk, ht⟩ := at_some hA
  exact item_T N hp hd hkey ht (h tk) hs hg
theorem none_empty {kvs : List (Str × Value)} : ((kvs.filter fun _ => false).map (·.1)).isEmpty = true := by simp
theorem lenOf {vs : List Int} (h : ¬ (63 : Int) < (vs.length : Int)) : vs.length ≤ 63 := by omega
theorem ret_true {Q : Flow → Shared → Prop} {s : Shared} {b : Bool} (h : Q (.ret (.bool true)) s) (e : b = true) : Q (.ret (.bool b)) s := by subst e; exact h
/-- what the law's frame is told of, at a statement -/
structure LawAt (w : World) (loose : List Str) (mean : ExcName → Option Value) (mg mb : Str → Option Value) (base h₀ : Heap) (L : Addr) (h : Heap) (m : Str → Option Value) (news : List (Addr × Obj)) : Prop where
  B : Below callerA base [] h₀
  F : Fr h₀ L h m
  X : (hd.heap_39 w.params).In h₀
  N : News h₀ L h news
  T : Top hd.view_39 loose mean mg mb h₀
abbrev lawWp (w : World) (L fa : Addr) (cd : Value) (n : Nat) (Q : Flow → Shared → Prop) (E : Value → Shared → Prop) (s : Shared) : Prop :=
  wpAny (model PySem.Challenge.rw_no0048_01.row.prog w) (callerA.deeper (envOfC (Str.ofString "law") lawScope L fa cd)) (execs (lawBody.drop n) (envOfC (Str.ofString "law") lawScope L fa cd)) Q E s
end Mine
namespace Mine
theorem news_sub {h₀ h : Heap} {L : Addr} {news news0 : List (Addr × Obj)} (N : News h₀ L h news) (sub : ∀ p ∈ news0, p ∈ news) : News h₀ L h news0 := fun p hp => N p (sub p hp)
end Mine
namespace Mine
theorem ne_self_int {a : Int} : ¬ ((a != a) = true) := by simp
theorem ne_self_bool {a : Bool} : ¬ ((a != a) = true) := by cases a <;> decide
end Mine


/-! ## the contracts' use, in the order in which a word shows the premises -/
namespace Mine
section
variable {w : World} {loose : List Str} {mean : ExcName → Option Value} {mg mb : Str → Option Value} {f : Addr} {args : List Value} {c : Nat} {Post : List (Addr × Obj) → Value → Prop}
    {dp un : Nat} {gd : Option (List Code)} {cn : Str} {cs : Scope} {a : Addr} {ccd : Value} {cl : List (Str × Addr)} {outer : List Env} {A₀ : Around} {base h₀ : Heap} {L : Addr} {m : Str → Option Value} {s : Shared} {Q E : Value → Shared → Prop} {news : List (Addr × Obj)}
theorem use1A {d : Addr} {o : Obj} (B : Below A₀ base outer h₀) (F : Fr h₀ L s.heap m) (X : (hd.heap_39 w.params).In h₀) (N : News h₀ L s.heap news) (T : Top hd.view_39 loose mean mg mb h₀) (hm : (d, o) ∈ news) (C : CallsTo w loose mean mg mb f args [(d, o)] c Post)
    (hk : cs.kind = .function) (hd : dp + c < recursionLimit) (hu : un + 8 * c < cLine) (ret : Ret h₀ L m news s Q Post) :
    wpAny (model PySem.Challenge.rw_no0048_01.row.prog w) (ktrTop dp un gd cn cs L a ccd cl outer) (call (.ref f) args) Q E s := C.use1 B F X N T hm hk hd hu ret
theorem use2A {d d' : Addr} {o o' : Obj} (B : Below A₀ base outer h₀) (F : Fr h₀ L s.heap m) (X : (hd.heap_39 w.params).In h₀) (N : News h₀ L s.heap news) (T : Top hd.view_39 loose mean mg mb h₀) (hm : (d, o) ∈ news) (hm' : (d', o') ∈ news) (C : CallsTo w loose mean mg mb f args [(d, o), (d', o')] c Post)
    (hk : cs.kind = .function) (hd : dp + c < recursionLimit) (hu : un + 8 * c < cLine) (ret : Ret h₀ L m news s Q Post) :
    wpAny (model PySem.Challenge.rw_no0048_01.row.prog w) (ktrTop dp un gd cn cs L a ccd cl outer) (call (.ref f) args) Q E s :=
  C.use B F X N T (List.forall_mem_cons.mpr ⟨hm, List.forall_mem_cons.mpr ⟨hm', List.forall_mem_nil _⟩⟩) hk hd hu ret
theorem drawA {b l : Addr} {ob ol : Obj} (C : Draws w loose mean mg mb f args b l ob ol c Post) (B : Below A₀ base outer h₀) (F : Fr h₀ L s.heap m) (X : (hd.heap_39 w.params).In h₀) (N : News h₀ L s.heap news) (T : Top hd.view_39 loose mean mg mb h₀) (hB : BoxOb l ob ol) (hb : (b, ob) ∈ news) (hl : (l, ol) ∈ news) (hbl : @Ne Nat b l)
    (hk : cs.kind = .function) (hd : dp + c < recursionLimit) (hu : un + 8 * c < cLine)
    (ret : ∀ (r : Value) (ob' ol' : Obj) (tl : List (Addr × Obj)) (h' : Heap) (tk' : Nat), Fr h₀ L h' m → Led2 h₀ L h' b l ob ob' ol ol' tl news → BoxOb l ob' ol' → (∀ p ∈ tl, @LT.lt Nat _ L p.1) → (∀ p ∈ tl, ∀ q ∈ news, q.1 < p.1) → Post tl r → Q r { s with heap := h', toks := tk' }) :
    wpAny (model PySem.Challenge.rw_no0048_01.row.prog w) (ktrTop dp un gd cn cs L a ccd cl outer) (call (.ref f) args) Q E s := C.use B F X N T hb hl hbl hB hk hd hu ret
end
section
variable {prog : Program} {w : World} {A : Around} {E : Value → Shared → Prop} {s : Shared} {h₀ : Heap} {L x1 x2 : Addr} {o1 o2 : Obj} {news : List (Addr × Obj)} {r1 r2 : Value} {Q : Value → Shared → Prop}
theorem ne_pairA {e : Option (Int × Str)} (P1 : PairAt e x1 o1 r1) (P2 : PairAt e x2 o2 r2) (N : News h₀ L s.heap news) (m1 : (x1, o1) ∈ news) (m2 : (x2, o2) ∈ news) (hg : ∀ t sp, e = some (t, sp) → PyData.canLay0 (.str sp) = true) (hu : A.units + 64 < cLine)
    (h : Q (.bool false) s) : wpAny (model prog w) A (compareOp .NotEq r1 r2) Q E s := ne_pair N m1 m2 P1 P2 hg hu h
theorem ne_tripleA {e : Option (Int × Str × Str)} (P1 : TripleAt e x1 o1 r1) (P2 : TripleAt e x2 o2 r2) (N : News h₀ L s.heap news) (m1 : (x1, o1) ∈ news) (m2 : (x2, o2) ∈ news) (hg : ∀ t sp kd, e = some (t, sp, kd) → PyData.canLay0 (.str sp) = true ∧ PyData.canLay0 (.str kd) = true) (hu : A.units + 64 < cLine)
    (h : Q (.bool false) s) : wpAny (model prog w) A (compareOp .NotEq r1 r2) Q E s := ne_triple N m1 m2 P1 P2 hg hu h
end
end Mine

local macro_rules | `(tactic| k_mem) => `(tactic| ((repeat (first | (with_reducible apply List.mem_cons_self; done) | with_reducible apply List.mem_cons_of_mem)); done))
local macro_rules | `(tactic| lcg_src) => `(tactic| (show _ ∈ _; k_mem))
local macro_rules | `(tactic| walk_at $s:str) => `(tactic| k_extra $s)

section
namespace Mine
section
variable {w : World} {loose : List Str} {mean : ExcName → Option Value} {mg mb : Str → Option Value}
theorem draw_fits {i wd : Int} (hw : 0 < wd) : 0 ≤ i.fmod wd ∧ i.fmod wd < wd := ⟨Int.fmod_nonneg_of_pos i hw, Int.fmod_lt_of_pos i hw⟩
set_option maxRecDepth 100000 in
set_option maxHeartbeats 8000000 in
theorem take_ok {b l : Addr} {ob ol : Obj} {wd : Int} {tw : Tok} (hw : 0 < wd) (hw2 : wd ≤ 40) :
    Draws w loose mean mg mb 69 [.ref b, .int wd tw] b l ob ol 1 (IsDraw wd) := by
  unfold Draws
  w_top off
  k_with_none
  k_with "UnrEndW" => (k_dflt ktu_end)
  k_with "InvEndN" => (k_dflt kst_close)
  k_with "callWith" => (((with_reducible show wpAny _ _ (callWith _ (Value.builtin _) (_ :: _) _ _) _ _ _); refine callWith_method1 ?_))
  k_with "ite" => ((k_here; k_openite; first | refine ite_pos (by with_reducible assumption) ?_ | refine ite_neg (by with_reducible assumption) ?_ | refine ite_isFalse (by with_reducible assumption) ?_ | (refine split_dec ?_ ?_ <;> intro _) | (refine split_bool ?_ ?_ <;> intro _)))
  k_with "call builtin:list.pop" => ((k_here; k_dflt (refine pop0 (by k_asm) (by k_asm) (by assumption) (by assumption) (by assumption) (by k_upd) ?_); intro h' i' t' F' N' hI' hn'; (try k_sweep)))
  k_with "call builtin:dict.get" => ((k_here; k_dflt (refine get_T (knd := PySem.strKind _ _) (by k_asm) (by k_mem) (by k_asm) (by k_asm) (strKind_is _ _ _ _) (by assumption) ?_)))
  k_with "getMethod ref" => ((k_here; (with_reducible show wpAny _ _ (getMethod (Value.ref _) (Str.ofString "get") _) _ _ _); k_dflt (refine kdg_method (knd := PySem.strKind _ _) (by k_asm) (by k_mem) (by k_asm) ?_)))
  k_with "newTuple" => ((k_here; k_dflt (refine newTuple_L (by k_asm) (by k_asm) ?_ (by kmk_size)); intro D' h' F' N' l1 l2; (try k_lt l1); (try dsimp only [envOf] at l2); (try dsimp only [envOfC] at l2); (try k_lt2 l2); (try k_sweep)))
  k_with "newList" => ((k_here; k_dflt (refine newList_L (by k_asm) (by k_asm) ?_ (by kmk_size)); intro D' h' F' N' l1 l2; (try k_lt l1); (try dsimp only [envOf] at l2); (try dsimp only [envOfC] at l2); (try k_lt2 l2); (try k_sweep)))
  k_with "call type:list" => ((k_here; (with_reducible show wpAny _ _ (call (Value.type _) [Value.ref _]) _ _ _); k_dflt (refine list_copyL (by k_asm) (by k_asm) (by k_mem) ?_ (by ((rename IntsAre _ _ => hI9); (have q9 := IntsAre.length hI9); simp only [List.size_toArray]; rw [PySem.sizeLine_eq]; omega))); intro D' c' h' F' N' l1 l2; (try k_lt l1); (try dsimp only [envOf] at l2); (try dsimp only [envOfC] at l2); (try k_lt2 l2); (try k_sweep)))
  k_with "eval Dict nil nil" => ((k_here; k_dflt (refine newDict_L (by k_asm) (by k_asm) (TopRead.nolimit (by k_asm)) ?_); intro d' h' o' F' N' l1 l2 lo' hs' fs'; (try k_lt l1); (try dsimp only [envOf] at l2); (try dsimp only [envOfC] at l2); (try k_lt2 l2); (try k_sweep)))
  k_with "exec For Name Name cons nil" => ((k_here; (rename Fr _ _ _ _ => lF'); (with_unfolding_all refine For_turnsG lF' (by exact rfl) ?_)))
  k_with "eval ListComp" => ((k_here; (first | (lct_look; k_dflt (refine comp_X (_F₀ := by k_asm) (by with_unfolding_all rfl) (by decide) (by rfl) (by decide) (by rfl) ?_)) | (lcf_look; k_dflt (refine comp_XU (_F₀ := by k_asm) (by with_unfolding_all rfl) (by decide) (by rfl) (by decide) (by rfl) ?_)))))
  k_with "subscriptTail" => ((k_here; (with_reducible show wpAny _ _ (subscriptTail _ _ (Value.ref _) (Value.str _ _)) _ _ _); k_dflt (first | refine item_T (knd := PySem.strKind _ _) (by k_asm) (by k_mem) (by k_asm) (strKind_is _ _ _ _) (by assumption) ?_ | refine kda_item (knd := PySem.strKind _ _) (by k_asm) (by k_mem) (by k_asm) (strKind_is _ _ _ _) (by assumption) ?_)))
  k_with "SrcXU" => ((k_here; k_dflt (refine SrcXU.tupK (by rfl) (by k_asm) (by k_asm) (by k_asm) (by k_is) (by exact rfl) (by exact rfl) (by exact Nat.le_of_ble_eq_true rfl) ?_); intro g'; lcg_lit))
  k_with "SrcX" => ((k_here; k_dflt (first | (refine SrcX.tupN (by rfl) (by k_asm) (by k_asm) (by k_mem) (by exact Nat.le_of_ble_eq_true rfl) ?_) | (refine SrcX.keys (by rfl) (by k_asm) (by k_asm) (by k_mem) (by assumption) (by assumption) (by first | exact times_len (by assumption) | exact Nat.le_of_ble_eq_true rfl) ?_)); intro g'; (try lct_lit)))
  k_with "CompRestT" => ((with_unfolding_all (refine LCt.CompRestT.succ ?_; intro v' I' oI' C' oC' D' m' h' tk' E' hv' hC' hx' F' N' off' ne'; (obtain ⟨t9', hv9'⟩ := hv'; lcg_open hv9'); (have offc' := off'); (try simp only [LCg.Off3, and_true] at off'))))
  k_with "MINE enter" => ((refine enterR (by k_asm) (by k_asm) (by k_asm) (by k_asm) (by assumption) (by k_asm) (by exact rfl) (by exact rfl) (by assumption) (by k_is) (by k_is) (by ktr_room) (by exact BindsTo.of_eq rfl) (by exact locs rfl) ?_ (by exact rfl) (by exact rfl) (by exact rfl) (by decide); intro g' L' h' FG' F' N' B' X' T' hlt' hLL' hkept'; (try dsimp only); (try k_lift B'); (try k_fold)))
  k_with "MINE sub" => (exact SubL.mem (by k_subL))
  k_with "MINE early" => ((first | rfl | ((simp only [early, pick, tm, Option.map]; (repeat ((first | rw [if_pos (by omega)] | rw [if_neg (by omega)]); (try simp only [pick])))); done)))
  k_with "MINE slot" => (first | exact Slot.gone | exact Slot.nil | exact Slot.time _ _ (by omega) (by omega))
  k_with "MINE times" => (((try simp only [stored_nil, stored_ih, stored_ia, stored_ha, stored_iha]); first | exact ⟨[], [], [], rfl, by walk_at "MINE slot", by walk_at "MINE slot", by walk_at "MINE slot"⟩ | exact ⟨[_], [], [], rfl, by walk_at "MINE slot", by walk_at "MINE slot", by walk_at "MINE slot"⟩ | exact ⟨[], [_], [], rfl, by walk_at "MINE slot", by walk_at "MINE slot", by walk_at "MINE slot"⟩ | exact ⟨[], [], [_], rfl, by walk_at "MINE slot", by walk_at "MINE slot", by walk_at "MINE slot"⟩ | exact ⟨[_], [_], [], rfl, by walk_at "MINE slot", by walk_at "MINE slot", by walk_at "MINE slot"⟩ | exact ⟨[_], [], [_], rfl, by walk_at "MINE slot", by walk_at "MINE slot", by walk_at "MINE slot"⟩ | exact ⟨[], [_], [_], rfl, by walk_at "MINE slot", by walk_at "MINE slot", by walk_at "MINE slot"⟩ | exact ⟨[_], [_], [_], rfl, by walk_at "MINE slot", by walk_at "MINE slot", by walk_at "MINE slot"⟩))
  k_with "MINE enterC" => ((refine enterRC (by k_asm) (by k_asm) (by k_asm) (by k_asm) (by assumption) (by k_asm) (by exact rfl) (by exact rfl) (by assumption) (by k_is) (by k_is) (by ktr_room) (by exact BindsTo.of_eq rfl) (by exact rfl) (by decide +kernel) ?_ (by exact rfl) (by exact rfl) (by exact rfl); intro g' L' h' tk' cells' FG' F' N' Y' B' X' T' l1 hlt' hLL' hkept'; (try k_lt l1); k_cells Y'; (try simp only [List.cons_append, List.nil_append] at N'); (try dsimp only); (try k_lift B'); (try k_fold)))
  k_with "MINE due" => (first | rfl | exact due_t (by assumption) | exact due_f (by assumption) | exact due_g (by assumption) | exact due_n | exact due_f (not_t (by assumption)) | exact due_t (not_f (by assumption)) | exact due_t (not_nt (by assumption)))
  k_with "MINE at" => (((try simp only [stored_nil, stored_ih, stored_ia, stored_ha, stored_iha]); first | exact ⟨none, by with_unfolding_all rfl, by walk_at "MINE due"⟩ | exact ⟨some (_, _), by with_unfolding_all rfl, by walk_at "MINE due"⟩))
  k_with "MINE gts" => ((repeat (first | exact List.forall_mem_nil _ | refine List.forall_mem_cons.mpr ⟨by ((try dsimp only); (try dsimp only [envOf]); (try dsimp only [envOfC]); omega), ?_⟩)))
  k_with "MINE due2" => (first | exact due_t (k' := 0) (by assumption) | exact due_f (by assumption) | exact due_g (by assumption) | exact due_n | exact due_f (not_t (by assumption)) | exact due_t (not_f (by assumption)) | exact due_t (not_nt (by assumption)))
  k_with "MINE periods" => ((rename pick _ _ _ = _ => hE9; (repeat ((rename _ = (_ : Int) * 2 ^ (rangeKs _ _).length => q9); (try rw [period_of q9] at hE9); clear q9))))
  k_with "MINE now" => ((repeat ((rename _ = (_ : Int) * 2 ^ (rangeKs _ _).length => q9); (first | rw [period_of0 q9] | rw [period_of q9] | skip); clear q9)))
  k_fill
  intro dp un gd cn cs a ccd cl outer A₀ base h₀ L m s Q E news B F X N hsub hbl hB T hk hdp hun hret
  obtain ⟨k, t, nb, nl, vs, ns, rfl, rfl, hI, hn, h0, h1⟩ := hB
  refine wpAny_call ?_
  k_dflt walk_at "MINE enter"
  k_steps
  all_goals refine hret _ _ _ [] _ _ (by assumption) (led_back N (by assumption) (by assumption) (by assumption) (by k_mem) (by k_mem) (fun _ h => nomatch h)) ?_ (fun _ h => nomatch h) (fun _ h => nomatch h) ⟨rfl, _, _, rfl, draw_fits hw⟩
  · exact ⟨k, t, _, _, _, _, rfl, rfl, by assumption, by assumption, h0, h1⟩
  · exact ⟨_, _, _, _, vs, ns, rfl, rfl, hI, hn, draw_fits (by decide)⟩
end
end Mine
end
section
namespace Mine
section
variable {w : World} {loose : List Str} {mean : ExcName → Option Value} {mg mb : Str → Option Value}
def IsBox (tl : List (Addr × Obj)) (r : Value) : Prop := ∃ b l ob ol, tl = [(b, ob), (l, ol)] ∧ r = .ref b ∧ @LT.lt Nat _ l b ∧ BoxOb l ob ol
theorem end_box {h₀ g h' : Heap} {L L' b l : Addr} {m m' : Str → Option Value} {news news0 led : List (Addr × Obj)} {s : Shared} {Q : Value → Shared → Prop} {tk' : Nat} {k : Int} {t : Tok} {nb nl : Nat} {vs : List Value} {ns : List Int}
    (hret : Ret h₀ L m news s Q IsBox) (N : News h₀ L s.heap news) (sub : ∀ p ∈ news0, p ∈ news) (hK : Kept g news news0) (F' : Fr g L' h' m') (kF : Fr h₀ L h' m) (kN : News h₀ L h' led)
    (hlt : ∀ q ∈ news, q.1 < L') (hLL : @LT.lt Nat _ L L') (hb : (b, listOf #[.ref l, .int k t] nb) ∈ led) (hl : (l, listOf vs.toArray nl) ∈ led) (hLl : @LT.lt Nat _ L' l) (hlb : @LT.lt Nat _ l b) (h0 : ∀ p ∈ news0, p ∈ led)
    (hI : IntsAre vs ns) (hn : ns.length ≤ 24) (hk0 : 0 ≤ k) (hk1 : k < 2147483647) : Q (.ref b) { s with heap := h', toks := tk' } := by
  have two : ∀ p ∈ [(b, listOf #[.ref l, .int k t] nb), (l, listOf vs.toArray nl)], p ∈ led ∧ @LT.lt Nat _ L' p.1 := by
    intro p hp
    rcases List.mem_cons.mp hp with rfl | hp
    · exact ⟨hb, Nat.lt_trans hLl hlb⟩
    · rw [List.mem_singleton.mp hp]; exact ⟨hl, hLl⟩
  exact hret (.ref b) [(b, listOf #[.ref l, .int k t] nb), (l, listOf vs.toArray nl)] h' tk' kF (backR N sub hK F' kN h0 fun p hp => (two p hp).1) (fun p hp => Nat.lt_trans hLL (two p hp).2) (fun p hp q hq => Nat.lt_trans (hlt q hq) (two p hp).2)
    ⟨b, l, _, _, rfl, rfl, hlb, k, t, nb, nl, vs, ns, rfl, rfl, hI, hn, hk0, hk1⟩
set_option maxRecDepth 100000 in
set_option maxHeartbeats 8000000 in
theorem box_ok {ls : Addr} {vs : List Value} {ns : List Int} {t0 : Tok} {dp un : Nat} {gd : Option (List Code)} {cn : Str} {cs : Scope} {a : Addr} {ccd : Value} {cl : List (Str × Addr)} {outer : List Env} {A₀ : Around} {base h₀ : Heap} {L : Addr} {m : Str → Option Value} {s : Shared} {Q E : Value → Shared → Prop} {news : List (Addr × Obj)}
    (hls : base.IsList ls vs.toArray) (hI : IntsAre vs ns) (hn : ns.length ≤ 63)
    (B : Below A₀ base outer h₀) (F : Fr h₀ L s.heap m) (X : (hd.heap_39 w.params).In h₀) (N : News h₀ L s.heap news) (T : Top hd.view_39 loose mean mg mb h₀)
    (hk : cs.kind = .function) (hdp : dp + 1 < recursionLimit) (hun : un + 8 * 1 < cLine) (hret : Ret h₀ L m news s Q IsBox) :
    wpAny (model PySem.Challenge.rw_no0048_01.row.prog w) (ktrTop dp un gd cn cs L a ccd cl outer) (call (.ref 76) [.ref ls, .int 59 t0]) Q E s := by
  revert X
  w_top off
  k_with_none
  k_with "UnrEndW" => (k_dflt ktu_end)
  k_with "InvEndN" => (k_dflt kst_close)
  k_with "callWith" => (((with_reducible show wpAny _ _ (callWith _ (Value.builtin _) (_ :: _) _ _) _ _ _); refine callWith_method1 ?_))
  k_with "ite" => ((k_here; k_openite; first | refine ite_pos (by with_reducible assumption) ?_ | refine ite_neg (by with_reducible assumption) ?_ | refine ite_isFalse (by with_reducible assumption) ?_ | (refine split_dec ?_ ?_ <;> intro _) | (refine split_bool ?_ ?_ <;> intro _)))
  k_with "call builtin:list.pop" => ((k_here; k_dflt (refine pop0 (by k_asm) (by k_asm) (by assumption) (by assumption) (by assumption) (by k_upd) ?_); intro h' i' t' F' N' hI' hn'; (try k_sweep)))
  k_with "call builtin:dict.get" => ((k_here; k_dflt (refine get_T (knd := PySem.strKind _ _) (by k_asm) (by k_mem) (by k_asm) (by k_asm) (strKind_is _ _ _ _) (by assumption) ?_)))
  k_with "getMethod ref" => ((k_here; (with_reducible show wpAny _ _ (getMethod (Value.ref _) (Str.ofString "get") _) _ _ _); k_dflt (refine kdg_method (knd := PySem.strKind _ _) (by k_asm) (by k_mem) (by k_asm) ?_)))
  k_with "newTuple" => ((k_here; k_dflt (refine newTuple_L (by k_asm) (by k_asm) ?_ (by kmk_size)); intro D' h' F' N' l1 l2; (try k_lt l1); (try dsimp only [envOf] at l2); (try dsimp only [envOfC] at l2); (try k_lt2 l2); (try k_sweep)))
  k_with "newList" => ((k_here; k_dflt (refine newList_L (by k_asm) (by k_asm) ?_ (by kmk_size)); intro D' h' F' N' l1 l2; (try k_lt l1); (try dsimp only [envOf] at l2); (try dsimp only [envOfC] at l2); (try k_lt2 l2); (try k_sweep)))
  k_with "call type:list" => ((k_here; (with_reducible show wpAny _ _ (call (Value.type _) [Value.ref _]) _ _ _); k_dflt (refine list_copyL (by k_asm) (by k_asm) (by k_mem) ?_ (by ((rename IntsAre _ _ => hI9); (have q9 := IntsAre.length hI9); simp only [List.size_toArray]; rw [PySem.sizeLine_eq]; omega))); intro D' c' h' F' N' l1 l2; (try k_lt l1); (try dsimp only [envOf] at l2); (try dsimp only [envOfC] at l2); (try k_lt2 l2); (try k_sweep)))
  k_with "eval Dict nil nil" => ((k_here; k_dflt (refine newDict_L (by k_asm) (by k_asm) (TopRead.nolimit (by k_asm)) ?_); intro d' h' o' F' N' l1 l2 lo' hs' fs'; (try k_lt l1); (try dsimp only [envOf] at l2); (try dsimp only [envOfC] at l2); (try k_lt2 l2); (try k_sweep)))
  k_with "exec For Name Name cons nil" => ((k_here; (rename Fr _ _ _ _ => lF'); (with_unfolding_all refine For_turnsG lF' (by exact rfl) ?_)))
  k_with "eval ListComp" => ((k_here; (first | (lct_look; k_dflt (refine comp_X (_F₀ := by k_asm) (by with_unfolding_all rfl) (by decide) (by rfl) (by decide) (by rfl) ?_)) | (lcf_look; k_dflt (refine comp_XU (_F₀ := by k_asm) (by with_unfolding_all rfl) (by decide) (by rfl) (by decide) (by rfl) ?_)))))
  k_with "subscriptTail" => ((k_here; (with_reducible show wpAny _ _ (subscriptTail _ _ (Value.ref _) (Value.str _ _)) _ _ _); k_dflt (first | refine item_T (knd := PySem.strKind _ _) (by k_asm) (by k_mem) (by k_asm) (strKind_is _ _ _ _) (by assumption) ?_ | refine kda_item (knd := PySem.strKind _ _) (by k_asm) (by k_mem) (by k_asm) (strKind_is _ _ _ _) (by assumption) ?_)))
  k_with "SrcXU" => ((k_here; k_dflt (refine SrcXU.tupK (by rfl) (by k_asm) (by k_asm) (by k_asm) (by k_is) (by exact rfl) (by exact rfl) (by exact Nat.le_of_ble_eq_true rfl) ?_); intro g'; lcg_lit))
  k_with "SrcX" => ((k_here; k_dflt (first | (refine SrcX.tupN (by rfl) (by k_asm) (by k_asm) (by k_mem) (by exact Nat.le_of_ble_eq_true rfl) ?_) | (refine SrcX.keys (by rfl) (by k_asm) (by k_asm) (by k_mem) (by assumption) (by assumption) (by first | exact times_len (by assumption) | exact Nat.le_of_ble_eq_true rfl) ?_)); intro g'; (try lct_lit)))
  k_with "CompRestT" => ((with_unfolding_all (refine LCt.CompRestT.succ ?_; intro v' I' oI' C' oC' D' m' h' tk' E' hv' hC' hx' F' N' off' ne'; (obtain ⟨t9', hv9'⟩ := hv'; lcg_open hv9'); (have offc' := off'); (try simp only [LCg.Off3, and_true] at off'))))
  k_with "MINE enter" => ((refine enterR (by k_asm) (by k_asm) (by k_asm) (by k_asm) (by assumption) (by k_asm) (by exact rfl) (by exact rfl) (by assumption) (by k_is) (by k_is) (by ktr_room) (by exact BindsTo.of_eq rfl) (by exact locs rfl) ?_ (by exact rfl) (by exact rfl) (by exact rfl) (by decide); intro g' L' h' FG' F' N' B' X' T' hlt' hLL' hkept'; (try dsimp only); (try k_lift B'); (try k_fold)))
  k_with "MINE sub" => (exact SubL.mem (by k_subL))
  k_with "MINE early" => ((first | rfl | ((simp only [early, pick, tm, Option.map]; (repeat ((first | rw [if_pos (by omega)] | rw [if_neg (by omega)]); (try simp only [pick])))); done)))
  k_with "MINE slot" => (first | exact Slot.gone | exact Slot.nil | exact Slot.time _ _ (by omega) (by omega))
  k_with "MINE times" => (((try simp only [stored_nil, stored_ih, stored_ia, stored_ha, stored_iha]); first | exact ⟨[], [], [], rfl, by walk_at "MINE slot", by walk_at "MINE slot", by walk_at "MINE slot"⟩ | exact ⟨[_], [], [], rfl, by walk_at "MINE slot", by walk_at "MINE slot", by walk_at "MINE slot"⟩ | exact ⟨[], [_], [], rfl, by walk_at "MINE slot", by walk_at "MINE slot", by walk_at "MINE slot"⟩ | exact ⟨[], [], [_], rfl, by walk_at "MINE slot", by walk_at "MINE slot", by walk_at "MINE slot"⟩ | exact ⟨[_], [_], [], rfl, by walk_at "MINE slot", by walk_at "MINE slot", by walk_at "MINE slot"⟩ | exact ⟨[_], [], [_], rfl, by walk_at "MINE slot", by walk_at "MINE slot", by walk_at "MINE slot"⟩ | exact ⟨[], [_], [_], rfl, by walk_at "MINE slot", by walk_at "MINE slot", by walk_at "MINE slot"⟩ | exact ⟨[_], [_], [_], rfl, by walk_at "MINE slot", by walk_at "MINE slot", by walk_at "MINE slot"⟩))
  k_with "MINE enterC" => ((refine enterRC (by k_asm) (by k_asm) (by k_asm) (by k_asm) (by assumption) (by k_asm) (by exact rfl) (by exact rfl) (by assumption) (by k_is) (by k_is) (by ktr_room) (by exact BindsTo.of_eq rfl) (by exact rfl) (by decide +kernel) ?_ (by exact rfl) (by exact rfl) (by exact rfl); intro g' L' h' tk' cells' FG' F' N' Y' B' X' T' l1 hlt' hLL' hkept'; (try k_lt l1); k_cells Y'; (try simp only [List.cons_append, List.nil_append] at N'); (try dsimp only); (try k_lift B'); (try k_fold)))
  k_with "MINE due" => (first | rfl | exact due_t (by assumption) | exact due_f (by assumption) | exact due_g (by assumption) | exact due_n | exact due_f (not_t (by assumption)) | exact due_t (not_f (by assumption)) | exact due_t (not_nt (by assumption)))
  k_with "MINE at" => (((try simp only [stored_nil, stored_ih, stored_ia, stored_ha, stored_iha]); first | exact ⟨none, by with_unfolding_all rfl, by walk_at "MINE due"⟩ | exact ⟨some (_, _), by with_unfolding_all rfl, by walk_at "MINE due"⟩))
  k_with "MINE gts" => ((repeat (first | exact List.forall_mem_nil _ | refine List.forall_mem_cons.mpr ⟨by ((try dsimp only); (try dsimp only [envOf]); (try dsimp only [envOfC]); omega), ?_⟩)))
  k_with "MINE due2" => (first | exact due_t (k' := 0) (by assumption) | exact due_f (by assumption) | exact due_g (by assumption) | exact due_n | exact due_f (not_t (by assumption)) | exact due_t (not_f (by assumption)) | exact due_t (not_nt (by assumption)))
  k_with "MINE periods" => ((rename pick _ _ _ = _ => hE9; (repeat ((rename _ = (_ : Int) * 2 ^ (rangeKs _ _).length => q9); (try rw [period_of q9] at hE9); clear q9))))
  k_with "MINE now" => ((repeat ((rename _ = (_ : Int) * 2 ^ (rangeKs _ _).length => q9); (first | rw [period_of0 q9] | rw [period_of q9] | skip); clear q9)))
  k_fill
  intro X
  k_with "pyIter ref" => k_state (fun pre p => 0 ≤ p ∧ p < 2147483647) "seed_here"
  have hsub : ∀ p ∈ ([] : List (Addr × Obj)), p ∈ news := fun _ h => nomatch h
  refine wpAny_call ?_
  k_dflt walk_at "MINE enter"
  k_steps
  all_goals exact end_box hret N hsub (by assumption) (by assumption) (by assumption) (by assumption) (by assumption) (by assumption) (by k_mem) (by k_mem) (by assumption) (by omega) (fun _ h => nomatch h) (by assumption) (by omega) (by assumption) (by assumption)
end
end Mine
end
section
namespace Mine
section
variable {w : World} {loose : List Str} {mean : ExcName → Option Value} {mg mb : Str → Option Value}
set_option maxRecDepth 100000 in
set_option maxHeartbeats 8000000 in
theorem earliest_ok {d : Addr} {o : Obj} {kvs : List (Str × Value)} {gi gh ga : Option (Int × Tok)}
    (lo : (d == sysModules) = false) (hd : o.IsDictOf (strKind PySem.Challenge.rw_no0048_01.row.prog w) kvs)
    (hi : (valueAt kvs (Str.ofString "initial")).getD .none = toV gi) (hh : (valueAt kvs (Str.ofString "handshake")).getD .none = toV gh) (ha : (valueAt kvs (Str.ofString "application")).getD .none = toV ga) :
    CallsTo w loose mean mg mb 29 [.ref d] [(d, o)] 1 (IsPair (early (tm gi) (tm gh) (tm ga))) := by
  unfold CallsTo
  w_top off
  k_with_none
  k_with "UnrEndW" => (k_dflt ktu_end)
  k_with "InvEndN" => (k_dflt kst_close)
  k_with "callWith" => (((with_reducible show wpAny _ _ (callWith _ (Value.builtin _) (_ :: _) _ _) _ _ _); refine callWith_method1 ?_))
  k_with "ite" => ((k_here; k_openite; first | refine ite_pos (by with_reducible assumption) ?_ | refine ite_neg (by with_reducible assumption) ?_ | refine ite_isFalse (by with_reducible assumption) ?_ | (refine split_dec ?_ ?_ <;> intro _) | (refine split_bool ?_ ?_ <;> intro _)))
  k_with "call builtin:list.pop" => ((k_here; k_dflt (refine pop0 (by k_asm) (by k_asm) (by assumption) (by assumption) (by assumption) (by k_upd) ?_); intro h' i' t' F' N' hI' hn'; (try k_sweep)))
  k_with "call builtin:dict.get" => ((k_here; k_dflt (refine get_T (knd := PySem.strKind _ _) (by k_asm) (by k_mem) (by k_asm) (by k_asm) (strKind_is _ _ _ _) (by assumption) ?_)))
  k_with "getMethod ref" => ((k_here; (with_reducible show wpAny _ _ (getMethod (Value.ref _) (Str.ofString "get") _) _ _ _); k_dflt (refine kdg_method (knd := PySem.strKind _ _) (by k_asm) (by k_mem) (by k_asm) ?_)))
  k_with "newTuple" => ((k_here; k_dflt (refine newTuple_L (by k_asm) (by k_asm) ?_ (by kmk_size)); intro D' h' F' N' l1 l2; (try k_lt l1); (try dsimp only [envOf] at l2); (try dsimp only [envOfC] at l2); (try k_lt2 l2); (try k_sweep)))
  k_with "newList" => ((k_here; k_dflt (refine newList_L (by k_asm) (by k_asm) ?_ (by kmk_size)); intro D' h' F' N' l1 l2; (try k_lt l1); (try dsimp only [envOf] at l2); (try dsimp only [envOfC] at l2); (try k_lt2 l2); (try k_sweep)))
  k_with "call type:list" => ((k_here; (with_reducible show wpAny _ _ (call (Value.type _) [Value.ref _]) _ _ _); k_dflt (refine list_copyL (by k_asm) (by k_asm) (by k_mem) ?_ (by ((rename IntsAre _ _ => hI9); (have q9 := IntsAre.length hI9); simp only [List.size_toArray]; rw [PySem.sizeLine_eq]; omega))); intro D' c' h' F' N' l1 l2; (try k_lt l1); (try dsimp only [envOf] at l2); (try dsimp only [envOfC] at l2); (try k_lt2 l2); (try k_sweep)))
  k_with "eval Dict nil nil" => ((k_here; k_dflt (refine newDict_L (by k_asm) (by k_asm) (TopRead.nolimit (by k_asm)) ?_); intro d' h' o' F' N' l1 l2 lo' hs' fs'; (try k_lt l1); (try dsimp only [envOf] at l2); (try dsimp only [envOfC] at l2); (try k_lt2 l2); (try k_sweep)))
  k_with "exec For Name Name cons nil" => ((k_here; (rename Fr _ _ _ _ => lF'); (with_unfolding_all refine For_turnsG lF' (by exact rfl) ?_)))
  k_with "eval ListComp" => ((k_here; (first | (lct_look; k_dflt (refine comp_X (_F₀ := by k_asm) (by with_unfolding_all rfl) (by decide) (by rfl) (by decide) (by rfl) ?_)) | (lcf_look; k_dflt (refine comp_XU (_F₀ := by k_asm) (by with_unfolding_all rfl) (by decide) (by rfl) (by decide) (by rfl) ?_)))))
  k_with "subscriptTail" => ((k_here; (with_reducible show wpAny _ _ (subscriptTail _ _ (Value.ref _) (Value.str _ _)) _ _ _); k_dflt (first | refine item_T (knd := PySem.strKind _ _) (by k_asm) (by k_mem) (by k_asm) (strKind_is _ _ _ _) (by assumption) ?_ | refine kda_item (knd := PySem.strKind _ _) (by k_asm) (by k_mem) (by k_asm) (strKind_is _ _ _ _) (by assumption) ?_)))
  k_with "SrcXU" => ((k_here; k_dflt (refine SrcXU.tupK (by rfl) (by k_asm) (by k_asm) (by k_asm) (by k_is) (by exact rfl) (by exact rfl) (by exact Nat.le_of_ble_eq_true rfl) ?_); intro g'; lcg_lit))
  k_with "SrcX" => ((k_here; k_dflt (first | (refine SrcX.tupN (by rfl) (by k_asm) (by k_asm) (by k_mem) (by exact Nat.le_of_ble_eq_true rfl) ?_) | (refine SrcX.keys (by rfl) (by k_asm) (by k_asm) (by k_mem) (by assumption) (by assumption) (by first | exact times_len (by assumption) | exact Nat.le_of_ble_eq_true rfl) ?_)); intro g'; (try lct_lit)))
  k_with "CompRestT" => ((with_unfolding_all (refine LCt.CompRestT.succ ?_; intro v' I' oI' C' oC' D' m' h' tk' E' hv' hC' hx' F' N' off' ne'; (obtain ⟨t9', hv9'⟩ := hv'; lcg_open hv9'); (have offc' := off'); (try simp only [LCg.Off3, and_true] at off'))))
  k_with "MINE enter" => ((refine enterR (by k_asm) (by k_asm) (by k_asm) (by k_asm) (by assumption) (by k_asm) (by exact rfl) (by exact rfl) (by assumption) (by k_is) (by k_is) (by ktr_room) (by exact BindsTo.of_eq rfl) (by exact locs rfl) ?_ (by exact rfl) (by exact rfl) (by exact rfl) (by decide); intro g' L' h' FG' F' N' B' X' T' hlt' hLL' hkept'; (try dsimp only); (try k_lift B'); (try k_fold)))
  k_with "MINE sub" => (exact SubL.mem (by k_subL))
  k_with "MINE early" => ((first | rfl | ((simp only [early, pick, tm, Option.map]; (repeat ((first | rw [if_pos (by omega)] | rw [if_neg (by omega)]); (try simp only [pick])))); done)))
  k_with "MINE slot" => (first | exact Slot.gone | exact Slot.nil | exact Slot.time _ _ (by omega) (by omega))
  k_with "MINE times" => (((try simp only [stored_nil, stored_ih, stored_ia, stored_ha, stored_iha]); first | exact ⟨[], [], [], rfl, by walk_at "MINE slot", by walk_at "MINE slot", by walk_at "MINE slot"⟩ | exact ⟨[_], [], [], rfl, by walk_at "MINE slot", by walk_at "MINE slot", by walk_at "MINE slot"⟩ | exact ⟨[], [_], [], rfl, by walk_at "MINE slot", by walk_at "MINE slot", by walk_at "MINE slot"⟩ | exact ⟨[], [], [_], rfl, by walk_at "MINE slot", by walk_at "MINE slot", by walk_at "MINE slot"⟩ | exact ⟨[_], [_], [], rfl, by walk_at "MINE slot", by walk_at "MINE slot", by walk_at "MINE slot"⟩ | exact ⟨[_], [], [_], rfl, by walk_at "MINE slot", by walk_at "MINE slot", by walk_at "MINE slot"⟩ | exact ⟨[], [_], [_], rfl, by walk_at "MINE slot", by walk_at "MINE slot", by walk_at "MINE slot"⟩ | exact ⟨[_], [_], [_], rfl, by walk_at "MINE slot", by walk_at "MINE slot", by walk_at "MINE slot"⟩))
  k_with "MINE enterC" => ((refine enterRC (by k_asm) (by k_asm) (by k_asm) (by k_asm) (by assumption) (by k_asm) (by exact rfl) (by exact rfl) (by assumption) (by k_is) (by k_is) (by ktr_room) (by exact BindsTo.of_eq rfl) (by exact rfl) (by decide +kernel) ?_ (by exact rfl) (by exact rfl) (by exact rfl); intro g' L' h' tk' cells' FG' F' N' Y' B' X' T' l1 hlt' hLL' hkept'; (try k_lt l1); k_cells Y'; (try simp only [List.cons_append, List.nil_append] at N'); (try dsimp only); (try k_lift B'); (try k_fold)))
  k_with "MINE due" => (first | rfl | exact due_t (by assumption) | exact due_f (by assumption) | exact due_g (by assumption) | exact due_n | exact due_f (not_t (by assumption)) | exact due_t (not_f (by assumption)) | exact due_t (not_nt (by assumption)))
  k_with "MINE at" => (((try simp only [stored_nil, stored_ih, stored_ia, stored_ha, stored_iha]); first | exact ⟨none, by with_unfolding_all rfl, by walk_at "MINE due"⟩ | exact ⟨some (_, _), by with_unfolding_all rfl, by walk_at "MINE due"⟩))
  k_with "MINE gts" => ((repeat (first | exact List.forall_mem_nil _ | refine List.forall_mem_cons.mpr ⟨by ((try dsimp only); (try dsimp only [envOf]); (try dsimp only [envOfC]); omega), ?_⟩)))
  k_with "MINE due2" => (first | exact due_t (k' := 0) (by assumption) | exact due_f (by assumption) | exact due_g (by assumption) | exact due_n | exact due_f (not_t (by assumption)) | exact due_t (not_f (by assumption)) | exact due_t (not_nt (by assumption)))
  k_with "MINE periods" => ((rename pick _ _ _ = _ => hE9; (repeat ((rename _ = (_ : Int) * 2 ^ (rangeKs _ _).length => q9); (try rw [period_of q9] at hE9); clear q9))))
  k_with "MINE now" => ((repeat ((rename _ = (_ : Int) * 2 ^ (rangeKs _ _).length => q9); (first | rw [period_of0 q9] | rw [period_of q9] | skip); clear q9)))
  k_with "call builtin:dict.get" => ((k_here; k_dflt (refine get_T2 (knd := PySem.strKind _ _) (by k_asm) (by k_mem) (by k_asm) (by k_asm) (strKind_is _ _ _ _) (by assumption) ?_ ?_) <;> (first | (intro e9; subst e9) | (intro t9 u9 e9; subst e9))))
  k_fill
  intro dp un gd cn cs a ccd cl outer A₀ base h₀ L m s Q E news B F X N hsub T hk hdp hun hret
  refine wpAny_call ?_
  k_dflt walk_at "MINE enter"
  k_steps
  all_goals (first
      | exact end_any hret N hsub (by assumption) (by assumption) (by assumption) (by assumption) (by walk_at "MINE sub") (by first | exact ⟨rfl, rfl⟩ | exact ⟨rfl, _, rfl⟩)
      | exact end_pair hret N hsub (by assumption) (by assumption) (by assumption) (by assumption) (by assumption) (by assumption) (by k_mem) (by (try dsimp only [envOf]); (try dsimp only [envOfC]); omega) (by walk_at "MINE sub") (by walk_at "MINE early"))
end
end Mine
end
section
namespace Mine
section
variable {w : World} {loose : List Str} {mean : ExcName → Option Value} {mg mb : Str → Option Value}
set_option maxRecDepth 100000 in
set_option maxHeartbeats 8000000 in
theorem anything_ok {d : Addr} {o : Obj} {kvs : List (Str × Value)} {gi gh ga : Option (Int × Tok)}
    (lo : (d == sysModules) = false) (hd : o.IsDictOf (strKind PySem.Challenge.rw_no0048_01.row.prog w) kvs)
    (hi : (valueAt kvs (Str.ofString "initial")).getD .none = toV gi) (hh : (valueAt kvs (Str.ofString "handshake")).getD .none = toV gh) (ha : (valueAt kvs (Str.ofString "application")).getD .none = toV ga) :
    CallsTo w loose mean mg mb 41 [.ref d] [(d, o)] 2 (fun tl r => tl = [] ∧ r = .bool (anyT (tm gi) (tm gh) (tm ga))) := by
  unfold CallsTo
  w_top off
  k_with_none
  k_with "UnrEndW" => (k_dflt ktu_end)
  k_with "InvEndN" => (k_dflt kst_close)
  k_with "callWith" => (((with_reducible show wpAny _ _ (callWith _ (Value.builtin _) (_ :: _) _ _) _ _ _); refine callWith_method1 ?_))
  k_with "ite" => ((k_here; k_openite; first | refine ite_pos (by with_reducible assumption) ?_ | refine ite_neg (by with_reducible assumption) ?_ | refine ite_isFalse (by with_reducible assumption) ?_ | (refine split_dec ?_ ?_ <;> intro _) | (refine split_bool ?_ ?_ <;> intro _)))
  k_with "call builtin:list.pop" => ((k_here; k_dflt (refine pop0 (by k_asm) (by k_asm) (by assumption) (by assumption) (by assumption) (by k_upd) ?_); intro h' i' t' F' N' hI' hn'; (try k_sweep)))
  k_with "call builtin:dict.get" => ((k_here; k_dflt (refine get_T (knd := PySem.strKind _ _) (by k_asm) (by k_mem) (by k_asm) (by k_asm) (strKind_is _ _ _ _) (by assumption) ?_)))
  k_with "getMethod ref" => ((k_here; (with_reducible show wpAny _ _ (getMethod (Value.ref _) (Str.ofString "get") _) _ _ _); k_dflt (refine kdg_method (knd := PySem.strKind _ _) (by k_asm) (by k_mem) (by k_asm) ?_)))
  k_with "newTuple" => ((k_here; k_dflt (refine newTuple_L (by k_asm) (by k_asm) ?_ (by kmk_size)); intro D' h' F' N' l1 l2; (try k_lt l1); (try dsimp only [envOf] at l2); (try dsimp only [envOfC] at l2); (try k_lt2 l2); (try k_sweep)))
  k_with "newList" => ((k_here; k_dflt (refine newList_L (by k_asm) (by k_asm) ?_ (by kmk_size)); intro D' h' F' N' l1 l2; (try k_lt l1); (try dsimp only [envOf] at l2); (try dsimp only [envOfC] at l2); (try k_lt2 l2); (try k_sweep)))
  k_with "call type:list" => ((k_here; (with_reducible show wpAny _ _ (call (Value.type _) [Value.ref _]) _ _ _); k_dflt (refine list_copyL (by k_asm) (by k_asm) (by k_mem) ?_ (by ((rename IntsAre _ _ => hI9); (have q9 := IntsAre.length hI9); simp only [List.size_toArray]; rw [PySem.sizeLine_eq]; omega))); intro D' c' h' F' N' l1 l2; (try k_lt l1); (try dsimp only [envOf] at l2); (try dsimp only [envOfC] at l2); (try k_lt2 l2); (try k_sweep)))
  k_with "eval Dict nil nil" => ((k_here; k_dflt (refine newDict_L (by k_asm) (by k_asm) (TopRead.nolimit (by k_asm)) ?_); intro d' h' o' F' N' l1 l2 lo' hs' fs'; (try k_lt l1); (try dsimp only [envOf] at l2); (try dsimp only [envOfC] at l2); (try k_lt2 l2); (try k_sweep)))
  k_with "exec For Name Name cons nil" => ((k_here; (rename Fr _ _ _ _ => lF'); (with_unfolding_all refine For_turnsG lF' (by exact rfl) ?_)))
  k_with "eval ListComp" => ((k_here; (first | (lct_look; k_dflt (refine comp_X (_F₀ := by k_asm) (by with_unfolding_all rfl) (by decide) (by rfl) (by decide) (by rfl) ?_)) | (lcf_look; k_dflt (refine comp_XU (_F₀ := by k_asm) (by with_unfolding_all rfl) (by decide) (by rfl) (by decide) (by rfl) ?_)))))
  k_with "subscriptTail" => ((k_here; (with_reducible show wpAny _ _ (subscriptTail _ _ (Value.ref _) (Value.str _ _)) _ _ _); k_dflt (first | refine item_T (knd := PySem.strKind _ _) (by k_asm) (by k_mem) (by k_asm) (strKind_is _ _ _ _) (by assumption) ?_ | refine kda_item (knd := PySem.strKind _ _) (by k_asm) (by k_mem) (by k_asm) (strKind_is _ _ _ _) (by assumption) ?_)))
  k_with "SrcXU" => ((k_here; k_dflt (refine SrcXU.tupK (by rfl) (by k_asm) (by k_asm) (by k_asm) (by k_is) (by exact rfl) (by exact rfl) (by exact Nat.le_of_ble_eq_true rfl) ?_); intro g'; lcg_lit))
  k_with "SrcX" => ((k_here; k_dflt (first | (refine SrcX.tupN (by rfl) (by k_asm) (by k_asm) (by k_mem) (by exact Nat.le_of_ble_eq_true rfl) ?_) | (refine SrcX.keys (by rfl) (by k_asm) (by k_asm) (by k_mem) (by assumption) (by assumption) (by first | exact times_len (by assumption) | exact Nat.le_of_ble_eq_true rfl) ?_)); intro g'; (try lct_lit)))
  k_with "CompRestT" => ((with_unfolding_all (refine LCt.CompRestT.succ ?_; intro v' I' oI' C' oC' D' m' h' tk' E' hv' hC' hx' F' N' off' ne'; (obtain ⟨t9', hv9'⟩ := hv'; lcg_open hv9'); (have offc' := off'); (try simp only [LCg.Off3, and_true] at off'))))
  k_with "MINE enter" => ((refine enterR (by k_asm) (by k_asm) (by k_asm) (by k_asm) (by assumption) (by k_asm) (by exact rfl) (by exact rfl) (by assumption) (by k_is) (by k_is) (by ktr_room) (by exact BindsTo.of_eq rfl) (by exact locs rfl) ?_ (by exact rfl) (by exact rfl) (by exact rfl) (by decide); intro g' L' h' FG' F' N' B' X' T' hlt' hLL' hkept'; (try dsimp only); (try k_lift B'); (try k_fold)))
  k_with "MINE sub" => (exact SubL.mem (by k_subL))
  k_with "MINE early" => ((first | rfl | ((simp only [early, pick, tm, Option.map]; (repeat ((first | rw [if_pos (by omega)] | rw [if_neg (by omega)]); (try simp only [pick])))); done)))
  k_with "MINE slot" => (first | exact Slot.gone | exact Slot.nil | exact Slot.time _ _ (by omega) (by omega))
  k_with "MINE times" => (((try simp only [stored_nil, stored_ih, stored_ia, stored_ha, stored_iha]); first | exact ⟨[], [], [], rfl, by walk_at "MINE slot", by walk_at "MINE slot", by walk_at "MINE slot"⟩ | exact ⟨[_], [], [], rfl, by walk_at "MINE slot", by walk_at "MINE slot", by walk_at "MINE slot"⟩ | exact ⟨[], [_], [], rfl, by walk_at "MINE slot", by walk_at "MINE slot", by walk_at "MINE slot"⟩ | exact ⟨[], [], [_], rfl, by walk_at "MINE slot", by walk_at "MINE slot", by walk_at "MINE slot"⟩ | exact ⟨[_], [_], [], rfl, by walk_at "MINE slot", by walk_at "MINE slot", by walk_at "MINE slot"⟩ | exact ⟨[_], [], [_], rfl, by walk_at "MINE slot", by walk_at "MINE slot", by walk_at "MINE slot"⟩ | exact ⟨[], [_], [_], rfl, by walk_at "MINE slot", by walk_at "MINE slot", by walk_at "MINE slot"⟩ | exact ⟨[_], [_], [_], rfl, by walk_at "MINE slot", by walk_at "MINE slot", by walk_at "MINE slot"⟩))
  k_with "MINE enterC" => ((refine enterRC (by k_asm) (by k_asm) (by k_asm) (by k_asm) (by assumption) (by k_asm) (by exact rfl) (by exact rfl) (by assumption) (by k_is) (by k_is) (by ktr_room) (by exact BindsTo.of_eq rfl) (by exact rfl) (by decide +kernel) ?_ (by exact rfl) (by exact rfl) (by exact rfl); intro g' L' h' tk' cells' FG' F' N' Y' B' X' T' l1 hlt' hLL' hkept'; (try k_lt l1); k_cells Y'; (try simp only [List.cons_append, List.nil_append] at N'); (try dsimp only); (try k_lift B'); (try k_fold)))
  k_with "MINE due" => (first | rfl | exact due_t (by assumption) | exact due_f (by assumption) | exact due_g (by assumption) | exact due_n | exact due_f (not_t (by assumption)) | exact due_t (not_f (by assumption)) | exact due_t (not_nt (by assumption)))
  k_with "MINE at" => (((try simp only [stored_nil, stored_ih, stored_ia, stored_ha, stored_iha]); first | exact ⟨none, by with_unfolding_all rfl, by walk_at "MINE due"⟩ | exact ⟨some (_, _), by with_unfolding_all rfl, by walk_at "MINE due"⟩))
  k_with "MINE gts" => ((repeat (first | exact List.forall_mem_nil _ | refine List.forall_mem_cons.mpr ⟨by ((try dsimp only); (try dsimp only [envOf]); (try dsimp only [envOfC]); omega), ?_⟩)))
  k_with "MINE due2" => (first | exact due_t (k' := 0) (by assumption) | exact due_f (by assumption) | exact due_g (by assumption) | exact due_n | exact due_f (not_t (by assumption)) | exact due_t (not_f (by assumption)) | exact due_t (not_nt (by assumption)))
  k_with "MINE periods" => ((rename pick _ _ _ = _ => hE9; (repeat ((rename _ = (_ : Int) * 2 ^ (rangeKs _ _).length => q9); (try rw [period_of q9] at hE9); clear q9))))
  k_with "MINE now" => ((repeat ((rename _ = (_ : Int) * 2 ^ (rangeKs _ _).length => q9); (first | rw [period_of0 q9] | rw [period_of q9] | skip); clear q9)))
  k_with "call builtin:dict.get" => ((k_here; k_dflt (refine get_T2 (knd := PySem.strKind _ _) (by k_asm) (by k_mem) (by k_asm) (by k_asm) (strKind_is _ _ _ _) (by assumption) ?_ ?_) <;> (first | (intro e9; subst e9) | (intro t9 u9 e9; subst e9))))
  k_fill
  intro dp un gd cn cs a ccd cl outer A₀ base h₀ L m s Q E news B F X N hsub T hk hdp hun hret
  refine wpAny_call ?_
  k_dflt walk_at "MINE enterC"
  k_steps
  all_goals (first
      | exact end_any hret N hsub (by assumption) (by assumption) (by assumption) (by assumption) (by walk_at "MINE sub") (by first | exact ⟨rfl, rfl⟩ | exact ⟨rfl, _, rfl⟩)
      | exact end_pair hret N hsub (by assumption) (by assumption) (by assumption) (by assumption) (by assumption) (by assumption) (by k_mem) (by (try dsimp only [envOf]); (try dsimp only [envOfC]); omega) (by walk_at "MINE sub") (by walk_at "MINE early"))
end
end Mine
end
section
namespace Mine
section
variable {w : World} {loose : List Str} {mean : ExcName → Option Value} {mg mb : Str → Option Value}
def IsInt (x : Int) (tl : List (Addr × Obj)) (r : Value) : Prop := tl = [] ∧ ∃ t, r = .int x t
set_option maxRecDepth 100000 in
set_option maxHeartbeats 8000000 in
theorem period_ok {b d c : Int} {tb td tc : Tok} (hb0 : 0 ≤ b) (hb1 : b ≤ 10000) (hd0 : 0 ≤ d) (hd1 : d ≤ 10000) (hc0 : 0 ≤ c) (hc1 : c ≤ 4) :
    CallsTo w loose mean mg mb 22 [.int b tb, .int d td, .int c tc] [] 1 (IsInt (period b d c)) := by
  unfold CallsTo
  w_top off
  k_with_none
  k_with "UnrEndW" => (k_dflt ktu_end)
  k_with "InvEndN" => (k_dflt kst_close)
  k_with "callWith" => (((with_reducible show wpAny _ _ (callWith _ (Value.builtin _) (_ :: _) _ _) _ _ _); refine callWith_method1 ?_))
  k_with "ite" => ((k_here; k_openite; first | refine ite_pos (by with_reducible assumption) ?_ | refine ite_neg (by with_reducible assumption) ?_ | refine ite_isFalse (by with_reducible assumption) ?_ | (refine split_dec ?_ ?_ <;> intro _) | (refine split_bool ?_ ?_ <;> intro _)))
  k_with "call builtin:list.pop" => ((k_here; k_dflt (refine pop0 (by k_asm) (by k_asm) (by assumption) (by assumption) (by assumption) (by k_upd) ?_); intro h' i' t' F' N' hI' hn'; (try k_sweep)))
  k_with "call builtin:dict.get" => ((k_here; k_dflt (refine get_T (knd := PySem.strKind _ _) (by k_asm) (by k_mem) (by k_asm) (by k_asm) (strKind_is _ _ _ _) (by assumption) ?_)))
  k_with "getMethod ref" => ((k_here; (with_reducible show wpAny _ _ (getMethod (Value.ref _) (Str.ofString "get") _) _ _ _); k_dflt (refine kdg_method (knd := PySem.strKind _ _) (by k_asm) (by k_mem) (by k_asm) ?_)))
  k_with "newTuple" => ((k_here; k_dflt (refine newTuple_L (by k_asm) (by k_asm) ?_ (by kmk_size)); intro D' h' F' N' l1 l2; (try k_lt l1); (try dsimp only [envOf] at l2); (try dsimp only [envOfC] at l2); (try k_lt2 l2); (try k_sweep)))
  k_with "newList" => ((k_here; k_dflt (refine newList_L (by k_asm) (by k_asm) ?_ (by kmk_size)); intro D' h' F' N' l1 l2; (try k_lt l1); (try dsimp only [envOf] at l2); (try dsimp only [envOfC] at l2); (try k_lt2 l2); (try k_sweep)))
  k_with "call type:list" => ((k_here; (with_reducible show wpAny _ _ (call (Value.type _) [Value.ref _]) _ _ _); k_dflt (refine list_copyL (by k_asm) (by k_asm) (by k_mem) ?_ (by ((rename IntsAre _ _ => hI9); (have q9 := IntsAre.length hI9); simp only [List.size_toArray]; rw [PySem.sizeLine_eq]; omega))); intro D' c' h' F' N' l1 l2; (try k_lt l1); (try dsimp only [envOf] at l2); (try dsimp only [envOfC] at l2); (try k_lt2 l2); (try k_sweep)))
  k_with "eval Dict nil nil" => ((k_here; k_dflt (refine newDict_L (by k_asm) (by k_asm) (TopRead.nolimit (by k_asm)) ?_); intro d' h' o' F' N' l1 l2 lo' hs' fs'; (try k_lt l1); (try dsimp only [envOf] at l2); (try dsimp only [envOfC] at l2); (try k_lt2 l2); (try k_sweep)))
  k_with "exec For Name Name cons nil" => ((k_here; (rename Fr _ _ _ _ => lF'); (with_unfolding_all refine For_turnsG lF' (by exact rfl) ?_)))
  k_with "eval ListComp" => ((k_here; (first | (lct_look; k_dflt (refine comp_X (_F₀ := by k_asm) (by with_unfolding_all rfl) (by decide) (by rfl) (by decide) (by rfl) ?_)) | (lcf_look; k_dflt (refine comp_XU (_F₀ := by k_asm) (by with_unfolding_all rfl) (by decide) (by rfl) (by decide) (by rfl) ?_)))))
  k_with "subscriptTail" => ((k_here; (with_reducible show wpAny _ _ (subscriptTail _ _ (Value.ref _) (Value.str _ _)) _ _ _); k_dflt (first | refine item_T (knd := PySem.strKind _ _) (by k_asm) (by k_mem) (by k_asm) (strKind_is _ _ _ _) (by assumption) ?_ | refine kda_item (knd := PySem.strKind _ _) (by k_asm) (by k_mem) (by k_asm) (strKind_is _ _ _ _) (by assumption) ?_)))
  k_with "SrcXU" => ((k_here; k_dflt (refine SrcXU.tupK (by rfl) (by k_asm) (by k_asm) (by k_asm) (by k_is) (by exact rfl) (by exact rfl) (by exact Nat.le_of_ble_eq_true rfl) ?_); intro g'; lcg_lit))
  k_with "SrcX" => ((k_here; k_dflt (first | (refine SrcX.tupN (by rfl) (by k_asm) (by k_asm) (by k_mem) (by exact Nat.le_of_ble_eq_true rfl) ?_) | (refine SrcX.keys (by rfl) (by k_asm) (by k_asm) (by k_mem) (by assumption) (by assumption) (by first | exact times_len (by assumption) | exact Nat.le_of_ble_eq_true rfl) ?_)); intro g'; (try lct_lit)))
  k_with "CompRestT" => ((with_unfolding_all (refine LCt.CompRestT.succ ?_; intro v' I' oI' C' oC' D' m' h' tk' E' hv' hC' hx' F' N' off' ne'; (obtain ⟨t9', hv9'⟩ := hv'; lcg_open hv9'); (have offc' := off'); (try simp only [LCg.Off3, and_true] at off'))))
  k_with "MINE enter" => ((refine enterR (by k_asm) (by k_asm) (by k_asm) (by k_asm) (by assumption) (by k_asm) (by exact rfl) (by exact rfl) (by assumption) (by k_is) (by k_is) (by ktr_room) (by exact BindsTo.of_eq rfl) (by exact locs rfl) ?_ (by exact rfl) (by exact rfl) (by exact rfl) (by decide); intro g' L' h' FG' F' N' B' X' T' hlt' hLL' hkept'; (try dsimp only); (try k_lift B'); (try k_fold)))
  k_with "MINE sub" => (exact SubL.mem (by k_subL))
  k_with "MINE early" => ((first | rfl | ((simp only [early, pick, tm, Option.map]; (repeat ((first | rw [if_pos (by omega)] | rw [if_neg (by omega)]); (try simp only [pick])))); done)))
  k_with "MINE slot" => (first | exact Slot.gone | exact Slot.nil | exact Slot.time _ _ (by omega) (by omega))
  k_with "MINE times" => (((try simp only [stored_nil, stored_ih, stored_ia, stored_ha, stored_iha]); first | exact ⟨[], [], [], rfl, by walk_at "MINE slot", by walk_at "MINE slot", by walk_at "MINE slot"⟩ | exact ⟨[_], [], [], rfl, by walk_at "MINE slot", by walk_at "MINE slot", by walk_at "MINE slot"⟩ | exact ⟨[], [_], [], rfl, by walk_at "MINE slot", by walk_at "MINE slot", by walk_at "MINE slot"⟩ | exact ⟨[], [], [_], rfl, by walk_at "MINE slot", by walk_at "MINE slot", by walk_at "MINE slot"⟩ | exact ⟨[_], [_], [], rfl, by walk_at "MINE slot", by walk_at "MINE slot", by walk_at "MINE slot"⟩ | exact ⟨[_], [], [_], rfl, by walk_at "MINE slot", by walk_at "MINE slot", by walk_at "MINE slot"⟩ | exact ⟨[], [_], [_], rfl, by walk_at "MINE slot", by walk_at "MINE slot", by walk_at "MINE slot"⟩ | exact ⟨[_], [_], [_], rfl, by walk_at "MINE slot", by walk_at "MINE slot", by walk_at "MINE slot"⟩))
  k_with "MINE enterC" => ((refine enterRC (by k_asm) (by k_asm) (by k_asm) (by k_asm) (by assumption) (by k_asm) (by exact rfl) (by exact rfl) (by assumption) (by k_is) (by k_is) (by ktr_room) (by exact BindsTo.of_eq rfl) (by exact rfl) (by decide +kernel) ?_ (by exact rfl) (by exact rfl) (by exact rfl); intro g' L' h' tk' cells' FG' F' N' Y' B' X' T' l1 hlt' hLL' hkept'; (try k_lt l1); k_cells Y'; (try simp only [List.cons_append, List.nil_append] at N'); (try dsimp only); (try k_lift B'); (try k_fold)))
  k_with "MINE due" => (first | rfl | exact due_t (by assumption) | exact due_f (by assumption) | exact due_g (by assumption) | exact due_n | exact due_f (not_t (by assumption)) | exact due_t (not_f (by assumption)) | exact due_t (not_nt (by assumption)))
  k_with "MINE at" => (((try simp only [stored_nil, stored_ih, stored_ia, stored_ha, stored_iha]); first | exact ⟨none, by with_unfolding_all rfl, by walk_at "MINE due"⟩ | exact ⟨some (_, _), by with_unfolding_all rfl, by walk_at "MINE due"⟩))
  k_with "MINE gts" => ((repeat (first | exact List.forall_mem_nil _ | refine List.forall_mem_cons.mpr ⟨by ((try dsimp only); (try dsimp only [envOf]); (try dsimp only [envOfC]); omega), ?_⟩)))
  k_with "MINE due2" => (first | exact due_t (k' := 0) (by assumption) | exact due_f (by assumption) | exact due_g (by assumption) | exact due_n | exact due_f (not_t (by assumption)) | exact due_t (not_f (by assumption)) | exact due_t (not_nt (by assumption)))
  k_with "MINE periods" => ((rename pick _ _ _ = _ => hE9; (repeat ((rename _ = (_ : Int) * 2 ^ (rangeKs _ _).length => q9); (try rw [period_of q9] at hE9); clear q9))))
  k_with "MINE now" => ((repeat ((rename _ = (_ : Int) * 2 ^ (rangeKs _ _).length => q9); (first | rw [period_of0 q9] | rw [period_of q9] | skip); clear q9)))
  k_fill
  intro dp un gd cn cs a ccd cl outer A₀ base h₀ L m s Q E news B F X N hsub T hk hdp hun hret
  have hcc : c = 0 ∨ c = 1 ∨ c = 2 ∨ c = 3 ∨ c = 4 := by omega
  rcases hcc with rfl | rfl | rfl | rfl | rfl
  all_goals (
    clear hc0 hc1
    refine wpAny_call ?_
    k_dflt walk_at "MINE enter"
    k_steps
    all_goals (first
      | exact end_any hret N hsub (by assumption) (by assumption) (by assumption) (by assumption) (by walk_at "MINE sub") (by first | exact ⟨rfl, rfl⟩ | exact ⟨rfl, _, rfl⟩)
      | exact end_pair hret N hsub (by assumption) (by assumption) (by assumption) (by assumption) (by assumption) (by assumption) (by k_mem) (by (try dsimp only [envOf]); (try dsimp only [envOfC]); omega) (by walk_at "MINE sub") (by walk_at "MINE early")))
end
end Mine
end
section
namespace Mine
section
variable {w : World} {loose : List Str} {mean : ExcName → Option Value} {mg mb : Str → Option Value} {R x1 x2 x3 : Addr} {n : Nat} {t1 t2 t3 : Int} {s1 s2 s3 : Str} {k1 k2 k3 j1 j2 j3 : Tok}
/-- what a row of pairs is told as -/
def IsRow (e : Option (Int × Str)) (rows tl : List (Addr × Obj)) (r : Value) : Prop := tl = [] ∧ match e with
  | none => r = .none
  | some (t, sp) => ∃ x k j, r = .ref x ∧ (x, tupOf [.int t k, .str sp j]) ∈ rows
theorem isRow {e : Option (Int × Str)} {rows : List (Addr × Obj)} {x : Addr} {t : Int} {sp : Str} {k j : Tok} (hm : (x, tupOf [.int t k, .str sp j]) ∈ rows) (h : e = some (t, sp)) : IsRow e rows [] (.ref x) := by subst h; exact ⟨rfl, x, k, j, rfl, hm⟩
set_option maxRecDepth 100000 in
set_option maxHeartbeats 8000000 in
theorem first_ok0 : CallsTo w loose mean mg mb 90 [.ref R] [(R, listOf ([] : List Value).toArray n)] 1 (IsRow none []) := by
  unfold CallsTo
  w_top off
  k_with_none
  k_with "UnrEndW" => (k_dflt ktu_end)
  k_with "InvEndN" => (k_dflt kst_close)
  k_with "callWith" => (((with_reducible show wpAny _ _ (callWith _ (Value.builtin _) (_ :: _) _ _) _ _ _); refine callWith_method1 ?_))
  k_with "ite" => ((k_here; k_openite; first | refine ite_pos (by with_reducible assumption) ?_ | refine ite_neg (by with_reducible assumption) ?_ | refine ite_isFalse (by with_reducible assumption) ?_ | (refine split_dec ?_ ?_ <;> intro _) | (refine split_bool ?_ ?_ <;> intro _)))
  k_with "call builtin:list.pop" => ((k_here; k_dflt (refine pop0 (by k_asm) (by k_asm) (by assumption) (by assumption) (by assumption) (by k_upd) ?_); intro h' i' t' F' N' hI' hn'; (try k_sweep)))
  k_with "call builtin:dict.get" => ((k_here; k_dflt (refine get_T (knd := PySem.strKind _ _) (by k_asm) (by k_mem) (by k_asm) (by k_asm) (strKind_is _ _ _ _) (by assumption) ?_)))
  k_with "getMethod ref" => ((k_here; (with_reducible show wpAny _ _ (getMethod (Value.ref _) (Str.ofString "get") _) _ _ _); k_dflt (refine kdg_method (knd := PySem.strKind _ _) (by k_asm) (by k_mem) (by k_asm) ?_)))
  k_with "newTuple" => ((k_here; k_dflt (refine newTuple_L (by k_asm) (by k_asm) ?_ (by kmk_size)); intro D' h' F' N' l1 l2; (try k_lt l1); (try dsimp only [envOf] at l2); (try dsimp only [envOfC] at l2); (try k_lt2 l2); (try k_sweep)))
  k_with "newList" => ((k_here; k_dflt (refine newList_L (by k_asm) (by k_asm) ?_ (by kmk_size)); intro D' h' F' N' l1 l2; (try k_lt l1); (try dsimp only [envOf] at l2); (try dsimp only [envOfC] at l2); (try k_lt2 l2); (try k_sweep)))
  k_with "call type:list" => ((k_here; (with_reducible show wpAny _ _ (call (Value.type _) [Value.ref _]) _ _ _); k_dflt (refine list_copyL (by k_asm) (by k_asm) (by k_mem) ?_ (by ((rename IntsAre _ _ => hI9); (have q9 := IntsAre.length hI9); simp only [List.size_toArray]; rw [PySem.sizeLine_eq]; omega))); intro D' c' h' F' N' l1 l2; (try k_lt l1); (try dsimp only [envOf] at l2); (try dsimp only [envOfC] at l2); (try k_lt2 l2); (try k_sweep)))
  k_with "eval Dict nil nil" => ((k_here; k_dflt (refine newDict_L (by k_asm) (by k_asm) (TopRead.nolimit (by k_asm)) ?_); intro d' h' o' F' N' l1 l2 lo' hs' fs'; (try k_lt l1); (try dsimp only [envOf] at l2); (try dsimp only [envOfC] at l2); (try k_lt2 l2); (try k_sweep)))
  k_with "exec For Name Name cons nil" => ((k_here; (rename Fr _ _ _ _ => lF'); (with_unfolding_all refine For_turnsG lF' (by exact rfl) ?_)))
  k_with "eval ListComp" => ((k_here; (first | (lct_look; k_dflt (refine comp_X (_F₀ := by k_asm) (by with_unfolding_all rfl) (by decide) (by rfl) (by decide) (by rfl) ?_)) | (lcf_look; k_dflt (refine comp_XU (_F₀ := by k_asm) (by with_unfolding_all rfl) (by decide) (by rfl) (by decide) (by rfl) ?_)))))
  k_with "subscriptTail" => ((k_here; (with_reducible show wpAny _ _ (subscriptTail _ _ (Value.ref _) (Value.str _ _)) _ _ _); k_dflt (first | refine item_T (knd := PySem.strKind _ _) (by k_asm) (by k_mem) (by k_asm) (strKind_is _ _ _ _) (by assumption) ?_ | refine kda_item (knd := PySem.strKind _ _) (by k_asm) (by k_mem) (by k_asm) (strKind_is _ _ _ _) (by assumption) ?_)))
  k_with "SrcXU" => ((k_here; k_dflt (refine SrcXU.tupK (by rfl) (by k_asm) (by k_asm) (by k_asm) (by k_is) (by exact rfl) (by exact rfl) (by exact Nat.le_of_ble_eq_true rfl) ?_); intro g'; lcg_lit))
  k_with "SrcX" => ((k_here; k_dflt (first | (refine SrcX.tupN (by rfl) (by k_asm) (by k_asm) (by k_mem) (by exact Nat.le_of_ble_eq_true rfl) ?_) | (refine SrcX.keys (by rfl) (by k_asm) (by k_asm) (by k_mem) (by assumption) (by assumption) (by first | exact times_len (by assumption) | exact Nat.le_of_ble_eq_true rfl) ?_)); intro g'; (try lct_lit)))
  k_with "CompRestT" => ((with_unfolding_all (refine LCt.CompRestT.succ ?_; intro v' I' oI' C' oC' D' m' h' tk' E' hv' hC' hx' F' N' off' ne'; (obtain ⟨t9', hv9'⟩ := hv'; lcg_open hv9'); (have offc' := off'); (try simp only [LCg.Off3, and_true] at off'))))
  k_with "MINE enter" => ((refine enterR (by k_asm) (by k_asm) (by k_asm) (by k_asm) (by assumption) (by k_asm) (by exact rfl) (by exact rfl) (by assumption) (by k_is) (by k_is) (by ktr_room) (by exact BindsTo.of_eq rfl) (by exact locs rfl) ?_ (by exact rfl) (by exact rfl) (by exact rfl) (by decide); intro g' L' h' FG' F' N' B' X' T' hlt' hLL' hkept'; (try dsimp only); (try k_lift B'); (try k_fold)))
  k_with "MINE sub" => (exact SubL.mem (by k_subL))
  k_with "MINE early" => ((first | rfl | ((simp only [early, pick, tm, Option.map]; (repeat ((first | rw [if_pos (by omega)] | rw [if_neg (by omega)]); (try simp only [pick])))); done)))
  k_with "MINE slot" => (first | exact Slot.gone | exact Slot.nil | exact Slot.time _ _ (by omega) (by omega))
  k_with "MINE times" => (((try simp only [stored_nil, stored_ih, stored_ia, stored_ha, stored_iha]); first | exact ⟨[], [], [], rfl, by walk_at "MINE slot", by walk_at "MINE slot", by walk_at "MINE slot"⟩ | exact ⟨[_], [], [], rfl, by walk_at "MINE slot", by walk_at "MINE slot", by walk_at "MINE slot"⟩ | exact ⟨[], [_], [], rfl, by walk_at "MINE slot", by walk_at "MINE slot", by walk_at "MINE slot"⟩ | exact ⟨[], [], [_], rfl, by walk_at "MINE slot", by walk_at "MINE slot", by walk_at "MINE slot"⟩ | exact ⟨[_], [_], [], rfl, by walk_at "MINE slot", by walk_at "MINE slot", by walk_at "MINE slot"⟩ | exact ⟨[_], [], [_], rfl, by walk_at "MINE slot", by walk_at "MINE slot", by walk_at "MINE slot"⟩ | exact ⟨[], [_], [_], rfl, by walk_at "MINE slot", by walk_at "MINE slot", by walk_at "MINE slot"⟩ | exact ⟨[_], [_], [_], rfl, by walk_at "MINE slot", by walk_at "MINE slot", by walk_at "MINE slot"⟩))
  k_with "MINE enterC" => ((refine enterRC (by k_asm) (by k_asm) (by k_asm) (by k_asm) (by assumption) (by k_asm) (by exact rfl) (by exact rfl) (by assumption) (by k_is) (by k_is) (by ktr_room) (by exact BindsTo.of_eq rfl) (by exact rfl) (by decide +kernel) ?_ (by exact rfl) (by exact rfl) (by exact rfl); intro g' L' h' tk' cells' FG' F' N' Y' B' X' T' l1 hlt' hLL' hkept'; (try k_lt l1); k_cells Y'; (try simp only [List.cons_append, List.nil_append] at N'); (try dsimp only); (try k_lift B'); (try k_fold)))
  k_with "MINE due" => (first | rfl | exact due_t (by assumption) | exact due_f (by assumption) | exact due_g (by assumption) | exact due_n | exact due_f (not_t (by assumption)) | exact due_t (not_f (by assumption)) | exact due_t (not_nt (by assumption)))
  k_with "MINE at" => (((try simp only [stored_nil, stored_ih, stored_ia, stored_ha, stored_iha]); first | exact ⟨none, by with_unfolding_all rfl, by walk_at "MINE due"⟩ | exact ⟨some (_, _), by with_unfolding_all rfl, by walk_at "MINE due"⟩))
  k_with "MINE gts" => ((repeat (first | exact List.forall_mem_nil _ | refine List.forall_mem_cons.mpr ⟨by ((try dsimp only); (try dsimp only [envOf]); (try dsimp only [envOfC]); omega), ?_⟩)))
  k_with "MINE due2" => (first | exact due_t (k' := 0) (by assumption) | exact due_f (by assumption) | exact due_g (by assumption) | exact due_n | exact due_f (not_t (by assumption)) | exact due_t (not_f (by assumption)) | exact due_t (not_nt (by assumption)))
  k_with "MINE periods" => ((rename pick _ _ _ = _ => hE9; (repeat ((rename _ = (_ : Int) * 2 ^ (rangeKs _ _).length => q9); (try rw [period_of q9] at hE9); clear q9))))
  k_with "MINE now" => ((repeat ((rename _ = (_ : Int) * 2 ^ (rangeKs _ _).length => q9); (first | rw [period_of0 q9] | rw [period_of q9] | skip); clear q9)))
  k_fill
  intro dp un gd cn cs a ccd cl outer A₀ base h₀ L m s Q E news B F X N hsub T hk hdp hun hret
  refine wpAny_call ?_
  k_dflt walk_at "MINE enter"
  k_steps
  all_goals exact end_any hret N hsub (by assumption) (by assumption) (by assumption) (by assumption) (by walk_at "MINE sub") (by first | exact ⟨rfl, rfl⟩ | exact isRow (by k_mem) (by walk_at "MINE early"))
set_option maxRecDepth 100000 in
set_option maxHeartbeats 8000000 in
theorem first_ok1 : CallsTo w loose mean mg mb 90 [.ref R] [(R, listOf ([Value.ref x1] : List Value).toArray n), (x1, tupOf [.int t1 k1, .str s1 j1])] 1 (IsRow (pick none (some t1) s1) [(x1, tupOf [.int t1 k1, .str s1 j1])]) := by
  unfold CallsTo
  w_top off
  k_with_none
  k_with "UnrEndW" => (k_dflt ktu_end)
  k_with "InvEndN" => (k_dflt kst_close)
  k_with "callWith" => (((with_reducible show wpAny _ _ (callWith _ (Value.builtin _) (_ :: _) _ _) _ _ _); refine callWith_method1 ?_))
  k_with "ite" => ((k_here; k_openite; first | refine ite_pos (by with_reducible assumption) ?_ | refine ite_neg (by with_reducible assumption) ?_ | refine ite_isFalse (by with_reducible assumption) ?_ | (refine split_dec ?_ ?_ <;> intro _) | (refine split_bool ?_ ?_ <;> intro _)))
  k_with "call builtin:list.pop" => ((k_here; k_dflt (refine pop0 (by k_asm) (by k_asm) (by assumption) (by assumption) (by assumption) (by k_upd) ?_); intro h' i' t' F' N' hI' hn'; (try k_sweep)))
  k_with "call builtin:dict.get" => ((k_here; k_dflt (refine get_T (knd := PySem.strKind _ _) (by k_asm) (by k_mem) (by k_asm) (by k_asm) (strKind_is _ _ _ _) (by assumption) ?_)))
  k_with "getMethod ref" => ((k_here; (with_reducible show wpAny _ _ (getMethod (Value.ref _) (Str.ofString "get") _) _ _ _); k_dflt (refine kdg_method (knd := PySem.strKind _ _) (by k_asm) (by k_mem) (by k_asm) ?_)))
  k_with "newTuple" => ((k_here; k_dflt (refine newTuple_L (by k_asm) (by k_asm) ?_ (by kmk_size)); intro D' h' F' N' l1 l2; (try k_lt l1); (try dsimp only [envOf] at l2); (try dsimp only [envOfC] at l2); (try k_lt2 l2); (try k_sweep)))
  k_with "newList" => ((k_here; k_dflt (refine newList_L (by k_asm) (by k_asm) ?_ (by kmk_size)); intro D' h' F' N' l1 l2; (try k_lt l1); (try dsimp only [envOf] at l2); (try dsimp only [envOfC] at l2); (try k_lt2 l2); (try k_sweep)))
  k_with "call type:list" => ((k_here; (with_reducible show wpAny _ _ (call (Value.type _) [Value.ref _]) _ _ _); k_dflt (refine list_copyL (by k_asm) (by k_asm) (by k_mem) ?_ (by ((rename IntsAre _ _ => hI9); (have q9 := IntsAre.length hI9); simp only [List.size_toArray]; rw [PySem.sizeLine_eq]; omega))); intro D' c' h' F' N' l1 l2; (try k_lt l1); (try dsimp only [envOf] at l2); (try dsimp only [envOfC] at l2); (try k_lt2 l2); (try k_sweep)))
  k_with "eval Dict nil nil" => ((k_here; k_dflt (refine newDict_L (by k_asm) (by k_asm) (TopRead.nolimit (by k_asm)) ?_); intro d' h' o' F' N' l1 l2 lo' hs' fs'; (try k_lt l1); (try dsimp only [envOf] at l2); (try dsimp only [envOfC] at l2); (try k_lt2 l2); (try k_sweep)))
  k_with "exec For Name Name cons nil" => ((k_here; (rename Fr _ _ _ _ => lF'); (with_unfolding_all refine For_turnsG lF' (by exact rfl) ?_)))
  k_with "eval ListComp" => ((k_here; (first | (lct_look; k_dflt (refine comp_X (_F₀ := by k_asm) (by with_unfolding_all rfl) (by decide) (by rfl) (by decide) (by rfl) ?_)) | (lcf_look; k_dflt (refine comp_XU (_F₀ := by k_asm) (by with_unfolding_all rfl) (by decide) (by rfl) (by decide) (by rfl) ?_)))))
  k_with "subscriptTail" => ((k_here; (with_reducible show wpAny _ _ (subscriptTail _ _ (Value.ref _) (Value.str _ _)) _ _ _); k_dflt (first | refine item_T (knd := PySem.strKind _ _) (by k_asm) (by k_mem) (by k_asm) (strKind_is _ _ _ _) (by assumption) ?_ | refine kda_item (knd := PySem.strKind _ _) (by k_asm) (by k_mem) (by k_asm) (strKind_is _ _ _ _) (by assumption) ?_)))
  k_with "SrcXU" => ((k_here; k_dflt (refine SrcXU.tupK (by rfl) (by k_asm) (by k_asm) (by k_asm) (by k_is) (by exact rfl) (by exact rfl) (by exact Nat.le_of_ble_eq_true rfl) ?_); intro g'; lcg_lit))
  k_with "SrcX" => ((k_here; k_dflt (first | (refine SrcX.tupN (by rfl) (by k_asm) (by k_asm) (by k_mem) (by exact Nat.le_of_ble_eq_true rfl) ?_) | (refine SrcX.keys (by rfl) (by k_asm) (by k_asm) (by k_mem) (by assumption) (by assumption) (by first | exact times_len (by assumption) | exact Nat.le_of_ble_eq_true rfl) ?_)); intro g'; (try lct_lit)))
  k_with "CompRestT" => ((with_unfolding_all (refine LCt.CompRestT.succ ?_; intro v' I' oI' C' oC' D' m' h' tk' E' hv' hC' hx' F' N' off' ne'; (obtain ⟨t9', hv9'⟩ := hv'; lcg_open hv9'); (have offc' := off'); (try simp only [LCg.Off3, and_true] at off'))))
  k_with "MINE enter" => ((refine enterR (by k_asm) (by k_asm) (by k_asm) (by k_asm) (by assumption) (by k_asm) (by exact rfl) (by exact rfl) (by assumption) (by k_is) (by k_is) (by ktr_room) (by exact BindsTo.of_eq rfl) (by exact locs rfl) ?_ (by exact rfl) (by exact rfl) (by exact rfl) (by decide); intro g' L' h' FG' F' N' B' X' T' hlt' hLL' hkept'; (try dsimp only); (try k_lift B'); (try k_fold)))
  k_with "MINE sub" => (exact SubL.mem (by k_subL))
  k_with "MINE early" => ((first | rfl | ((simp only [early, pick, tm, Option.map]; (repeat ((first | rw [if_pos (by omega)] | rw [if_neg (by omega)]); (try simp only [pick])))); done)))
  k_with "MINE slot" => (first | exact Slot.gone | exact Slot.nil | exact Slot.time _ _ (by omega) (by omega))
  k_with "MINE times" => (((try simp only [stored_nil, stored_ih, stored_ia, stored_ha, stored_iha]); first | exact ⟨[], [], [], rfl, by walk_at "MINE slot", by walk_at "MINE slot", by walk_at "MINE slot"⟩ | exact ⟨[_], [], [], rfl, by walk_at "MINE slot", by walk_at "MINE slot", by walk_at "MINE slot"⟩ | exact ⟨[], [_], [], rfl, by walk_at "MINE slot", by walk_at "MINE slot", by walk_at "MINE slot"⟩ | exact ⟨[], [], [_], rfl, by walk_at "MINE slot", by walk_at "MINE slot", by walk_at "MINE slot"⟩ | exact ⟨[_], [_], [], rfl, by walk_at "MINE slot", by walk_at "MINE slot", by walk_at "MINE slot"⟩ | exact ⟨[_], [], [_], rfl, by walk_at "MINE slot", by walk_at "MINE slot", by walk_at "MINE slot"⟩ | exact ⟨[], [_], [_], rfl, by walk_at "MINE slot", by walk_at "MINE slot", by walk_at "MINE slot"⟩ | exact ⟨[_], [_], [_], rfl, by walk_at "MINE slot", by walk_at "MINE slot", by walk_at "MINE slot"⟩))
  k_with "MINE enterC" => ((refine enterRC (by k_asm) (by k_asm) (by k_asm) (by k_asm) (by assumption) (by k_asm) (by exact rfl) (by exact rfl) (by assumption) (by k_is) (by k_is) (by ktr_room) (by exact BindsTo.of_eq rfl) (by exact rfl) (by decide +kernel) ?_ (by exact rfl) (by exact rfl) (by exact rfl); intro g' L' h' tk' cells' FG' F' N' Y' B' X' T' l1 hlt' hLL' hkept'; (try k_lt l1); k_cells Y'; (try simp only [List.cons_append, List.nil_append] at N'); (try dsimp only); (try k_lift B'); (try k_fold)))
  k_with "MINE due" => (first | rfl | exact due_t (by assumption) | exact due_f (by assumption) | exact due_g (by assumption) | exact due_n | exact due_f (not_t (by assumption)) | exact due_t (not_f (by assumption)) | exact due_t (not_nt (by assumption)))
  k_with "MINE at" => (((try simp only [stored_nil, stored_ih, stored_ia, stored_ha, stored_iha]); first | exact ⟨none, by with_unfolding_all rfl, by walk_at "MINE due"⟩ | exact ⟨some (_, _), by with_unfolding_all rfl, by walk_at "MINE due"⟩))
  k_with "MINE gts" => ((repeat (first | exact List.forall_mem_nil _ | refine List.forall_mem_cons.mpr ⟨by ((try dsimp only); (try dsimp only [envOf]); (try dsimp only [envOfC]); omega), ?_⟩)))
  k_with "MINE due2" => (first | exact due_t (k' := 0) (by assumption) | exact due_f (by assumption) | exact due_g (by assumption) | exact due_n | exact due_f (not_t (by assumption)) | exact due_t (not_f (by assumption)) | exact due_t (not_nt (by assumption)))
  k_with "MINE periods" => ((rename pick _ _ _ = _ => hE9; (repeat ((rename _ = (_ : Int) * 2 ^ (rangeKs _ _).length => q9); (try rw [period_of q9] at hE9); clear q9))))
  k_with "MINE now" => ((repeat ((rename _ = (_ : Int) * 2 ^ (rangeKs _ _).length => q9); (first | rw [period_of0 q9] | rw [period_of q9] | skip); clear q9)))
  k_fill
  intro dp un gd cn cs a ccd cl outer A₀ base h₀ L m s Q E news B F X N hsub T hk hdp hun hret
  refine wpAny_call ?_
  k_dflt walk_at "MINE enter"
  k_steps
  all_goals exact end_any hret N hsub (by assumption) (by assumption) (by assumption) (by assumption) (by walk_at "MINE sub") (by first | exact ⟨rfl, rfl⟩ | exact isRow (by k_mem) (by walk_at "MINE early"))
set_option maxRecDepth 100000 in
set_option maxHeartbeats 8000000 in
theorem first_ok2 : CallsTo w loose mean mg mb 90 [.ref R] [(R, listOf ([Value.ref x1, .ref x2] : List Value).toArray n), (x1, tupOf [.int t1 k1, .str s1 j1]), (x2, tupOf [.int t2 k2, .str s2 j2])] 1 (IsRow (pick (pick none (some t1) s1) (some t2) s2) [(x1, tupOf [.int t1 k1, .str s1 j1]), (x2, tupOf [.int t2 k2, .str s2 j2])]) := by
  unfold CallsTo
  w_top off
  k_with_none
  k_with "UnrEndW" => (k_dflt ktu_end)
  k_with "InvEndN" => (k_dflt kst_close)
  k_with "callWith" => (((with_reducible show wpAny _ _ (callWith _ (Value.builtin _) (_ :: _) _ _) _ _ _); refine callWith_method1 ?_))
  k_with "ite" => ((k_here; k_openite; first | refine ite_pos (by with_reducible assumption) ?_ | refine ite_neg (by with_reducible assumption) ?_ | refine ite_isFalse (by with_reducible assumption) ?_ | (refine split_dec ?_ ?_ <;> intro _) | (refine split_bool ?_ ?_ <;> intro _)))
  k_with "call builtin:list.pop" => ((k_here; k_dflt (refine pop0 (by k_asm) (by k_asm) (by assumption) (by assumption) (by assumption) (by k_upd) ?_); intro h' i' t' F' N' hI' hn'; (try k_sweep)))
  k_with "call builtin:dict.get" => ((k_here; k_dflt (refine get_T (knd := PySem.strKind _ _) (by k_asm) (by k_mem) (by k_asm) (by k_asm) (strKind_is _ _ _ _) (by assumption) ?_)))
  k_with "getMethod ref" => ((k_here; (with_reducible show wpAny _ _ (getMethod (Value.ref _) (Str.ofString "get") _) _ _ _); k_dflt (refine kdg_method (knd := PySem.strKind _ _) (by k_asm) (by k_mem) (by k_asm) ?_)))
  k_with "newTuple" => ((k_here; k_dflt (refine newTuple_L (by k_asm) (by k_asm) ?_ (by kmk_size)); intro D' h' F' N' l1 l2; (try k_lt l1); (try dsimp only [envOf] at l2); (try dsimp only [envOfC] at l2); (try k_lt2 l2); (try k_sweep)))
  k_with "newList" => ((k_here; k_dflt (refine newList_L (by k_asm) (by k_asm) ?_ (by kmk_size)); intro D' h' F' N' l1 l2; (try k_lt l1); (try dsimp only [envOf] at l2); (try dsimp only [envOfC] at l2); (try k_lt2 l2); (try k_sweep)))
  k_with "call type:list" => ((k_here; (with_reducible show wpAny _ _ (call (Value.type _) [Value.ref _]) _ _ _); k_dflt (refine list_copyL (by k_asm) (by k_asm) (by k_mem) ?_ (by ((rename IntsAre _ _ => hI9); (have q9 := IntsAre.length hI9); simp only [List.size_toArray]; rw [PySem.sizeLine_eq]; omega))); intro D' c' h' F' N' l1 l2; (try k_lt l1); (try dsimp only [envOf] at l2); (try dsimp only [envOfC] at l2); (try k_lt2 l2); (try k_sweep)))
  k_with "eval Dict nil nil" => ((k_here; k_dflt (refine newDict_L (by k_asm) (by k_asm) (TopRead.nolimit (by k_asm)) ?_); intro d' h' o' F' N' l1 l2 lo' hs' fs'; (try k_lt l1); (try dsimp only [envOf] at l2); (try dsimp only [envOfC] at l2); (try k_lt2 l2); (try k_sweep)))
  k_with "exec For Name Name cons nil" => ((k_here; (rename Fr _ _ _ _ => lF'); (with_unfolding_all refine For_turnsG lF' (by exact rfl) ?_)))
  k_with "eval ListComp" => ((k_here; (first | (lct_look; k_dflt (refine comp_X (_F₀ := by k_asm) (by with_unfolding_all rfl) (by decide) (by rfl) (by decide) (by rfl) ?_)) | (lcf_look; k_dflt (refine comp_XU (_F₀ := by k_asm) (by with_unfolding_all rfl) (by decide) (by rfl) (by decide) (by rfl) ?_)))))
  k_with "subscriptTail" => ((k_here; (with_reducible show wpAny _ _ (subscriptTail _ _ (Value.ref _) (Value.str _ _)) _ _ _); k_dflt (first | refine item_T (knd := PySem.strKind _ _) (by k_asm) (by k_mem) (by k_asm) (strKind_is _ _ _ _) (by assumption) ?_ | refine kda_item (knd := PySem.strKind _ _) (by k_asm) (by k_mem) (by k_asm) (strKind_is _ _ _ _) (by assumption) ?_)))
  k_with "SrcXU" => ((k_here; k_dflt (refine SrcXU.tupK (by rfl) (by k_asm) (by k_asm) (by k_asm) (by k_is) (by exact rfl) (by exact rfl) (by exact Nat.le_of_ble_eq_true rfl) ?_); intro g'; lcg_lit))
  k_with "SrcX" => ((k_here; k_dflt (first | (refine SrcX.tupN (by rfl) (by k_asm) (by k_asm) (by k_mem) (by exact Nat.le_of_ble_eq_true rfl) ?_) | (refine SrcX.keys (by rfl) (by k_asm) (by k_asm) (by k_mem) (by assumption) (by assumption) (by first | exact times_len (by assumption) | exact Nat.le_of_ble_eq_true rfl) ?_)); intro g'; (try lct_lit)))
  k_with "CompRestT" => ((with_unfolding_all (refine LCt.CompRestT.succ ?_; intro v' I' oI' C' oC' D' m' h' tk' E' hv' hC' hx' F' N' off' ne'; (obtain ⟨t9', hv9'⟩ := hv'; lcg_open hv9'); (have offc' := off'); (try simp only [LCg.Off3, and_true] at off'))))
  k_with "MINE enter" => ((refine enterR (by k_asm) (by k_asm) (by k_asm) (by k_asm) (by assumption) (by k_asm) (by exact rfl) (by exact rfl) (by assumption) (by k_is) (by k_is) (by ktr_room) (by exact BindsTo.of_eq rfl) (by exact locs rfl) ?_ (by exact rfl) (by exact rfl) (by exact rfl) (by decide); intro g' L' h' FG' F' N' B' X' T' hlt' hLL' hkept'; (try dsimp only); (try k_lift B'); (try k_fold)))
  k_with "MINE sub" => (exact SubL.mem (by k_subL))
  k_with "MINE early" => ((first | rfl | ((simp only [early, pick, tm, Option.map]; (repeat ((first | rw [if_pos (by omega)] | rw [if_neg (by omega)]); (try simp only [pick])))); done)))
  k_with "MINE slot" => (first | exact Slot.gone | exact Slot.nil | exact Slot.time _ _ (by omega) (by omega))
  k_with "MINE times" => (((try simp only [stored_nil, stored_ih, stored_ia, stored_ha, stored_iha]); first | exact ⟨[], [], [], rfl, by walk_at "MINE slot", by walk_at "MINE slot", by walk_at "MINE slot"⟩ | exact ⟨[_], [], [], rfl, by walk_at "MINE slot", by walk_at "MINE slot", by walk_at "MINE slot"⟩ | exact ⟨[], [_], [], rfl, by walk_at "MINE slot", by walk_at "MINE slot", by walk_at "MINE slot"⟩ | exact ⟨[], [], [_], rfl, by walk_at "MINE slot", by walk_at "MINE slot", by walk_at "MINE slot"⟩ | exact ⟨[_], [_], [], rfl, by walk_at "MINE slot", by walk_at "MINE slot", by walk_at "MINE slot"⟩ | exact ⟨[_], [], [_], rfl, by walk_at "MINE slot", by walk_at "MINE slot", by walk_at "MINE slot"⟩ | exact ⟨[], [_], [_], rfl, by walk_at "MINE slot", by walk_at "MINE slot", by walk_at "MINE slot"⟩ | exact ⟨[_], [_], [_], rfl, by walk_at "MINE slot", by walk_at "MINE slot", by walk_at "MINE slot"⟩))
  k_with "MINE enterC" => ((refine enterRC (by k_asm) (by k_asm) (by k_asm) (by k_asm) (by assumption) (by k_asm) (by exact rfl) (by exact rfl) (by assumption) (by k_is) (by k_is) (by ktr_room) (by exact BindsTo.of_eq rfl) (by exact rfl) (by decide +kernel) ?_ (by exact rfl) (by exact rfl) (by exact rfl); intro g' L' h' tk' cells' FG' F' N' Y' B' X' T' l1 hlt' hLL' hkept'; (try k_lt l1); k_cells Y'; (try simp only [List.cons_append, List.nil_append] at N'); (try dsimp only); (try k_lift B'); (try k_fold)))
  k_with "MINE due" => (first | rfl | exact due_t (by assumption) | exact due_f (by assumption) | exact due_g (by assumption) | exact due_n | exact due_f (not_t (by assumption)) | exact due_t (not_f (by assumption)) | exact due_t (not_nt (by assumption)))
  k_with "MINE at" => (((try simp only [stored_nil, stored_ih, stored_ia, stored_ha, stored_iha]); first | exact ⟨none, by with_unfolding_all rfl, by walk_at "MINE due"⟩ | exact ⟨some (_, _), by with_unfolding_all rfl, by walk_at "MINE due"⟩))
  k_with "MINE gts" => ((repeat (first | exact List.forall_mem_nil _ | refine List.forall_mem_cons.mpr ⟨by ((try dsimp only); (try dsimp only [envOf]); (try dsimp only [envOfC]); omega), ?_⟩)))
  k_with "MINE due2" => (first | exact due_t (k' := 0) (by assumption) | exact due_f (by assumption) | exact due_g (by assumption) | exact due_n | exact due_f (not_t (by assumption)) | exact due_t (not_f (by assumption)) | exact due_t (not_nt (by assumption)))
  k_with "MINE periods" => ((rename pick _ _ _ = _ => hE9; (repeat ((rename _ = (_ : Int) * 2 ^ (rangeKs _ _).length => q9); (try rw [period_of q9] at hE9); clear q9))))
  k_with "MINE now" => ((repeat ((rename _ = (_ : Int) * 2 ^ (rangeKs _ _).length => q9); (first | rw [period_of0 q9] | rw [period_of q9] | skip); clear q9)))
  k_fill
  intro dp un gd cn cs a ccd cl outer A₀ base h₀ L m s Q E news B F X N hsub T hk hdp hun hret
  refine wpAny_call ?_
  k_dflt walk_at "MINE enter"
  k_steps
  all_goals exact end_any hret N hsub (by assumption) (by assumption) (by assumption) (by assumption) (by walk_at "MINE sub") (by first | exact ⟨rfl, rfl⟩ | exact isRow (by k_mem) (by walk_at "MINE early"))
set_option maxRecDepth 100000 in
set_option maxHeartbeats 8000000 in
theorem first_ok3 : CallsTo w loose mean mg mb 90 [.ref R] [(R, listOf ([Value.ref x1, .ref x2, .ref x3] : List Value).toArray n), (x1, tupOf [.int t1 k1, .str s1 j1]), (x2, tupOf [.int t2 k2, .str s2 j2]), (x3, tupOf [.int t3 k3, .str s3 j3])] 1 (IsRow (pick (pick (pick none (some t1) s1) (some t2) s2) (some t3) s3) [(x1, tupOf [.int t1 k1, .str s1 j1]), (x2, tupOf [.int t2 k2, .str s2 j2]), (x3, tupOf [.int t3 k3, .str s3 j3])]) := by
  unfold CallsTo
  w_top off
  k_with_none
  k_with "UnrEndW" => (k_dflt ktu_end)
  k_with "InvEndN" => (k_dflt kst_close)
  k_with "callWith" => (((with_reducible show wpAny _ _ (callWith _ (Value.builtin _) (_ :: _) _ _) _ _ _); refine callWith_method1 ?_))
  k_with "ite" => ((k_here; k_openite; first | refine ite_pos (by with_reducible assumption) ?_ | refine ite_neg (by with_reducible assumption) ?_ | refine ite_isFalse (by with_reducible assumption) ?_ | (refine split_dec ?_ ?_ <;> intro _) | (refine split_bool ?_ ?_ <;> intro _)))
  k_with "call builtin:list.pop" => ((k_here; k_dflt (refine pop0 (by k_asm) (by k_asm) (by assumption) (by assumption) (by assumption) (by k_upd) ?_); intro h' i' t' F' N' hI' hn'; (try k_sweep)))
  k_with "call builtin:dict.get" => ((k_here; k_dflt (refine get_T (knd := PySem.strKind _ _) (by k_asm) (by k_mem) (by k_asm) (by k_asm) (strKind_is _ _ _ _) (by assumption) ?_)))
  k_with "getMethod ref" => ((k_here; (with_reducible show wpAny _ _ (getMethod (Value.ref _) (Str.ofString "get") _) _ _ _); k_dflt (refine kdg_method (knd := PySem.strKind _ _) (by k_asm) (by k_mem) (by k_asm) ?_)))
  k_with "newTuple" => ((k_here; k_dflt (refine newTuple_L (by k_asm) (by k_asm) ?_ (by kmk_size)); intro D' h' F' N' l1 l2; (try k_lt l1); (try dsimp only [envOf] at l2); (try dsimp only [envOfC] at l2); (try k_lt2 l2); (try k_sweep)))
  k_with "newList" => ((k_here; k_dflt (refine newList_L (by k_asm) (by k_asm) ?_ (by kmk_size)); intro D' h' F' N' l1 l2; (try k_lt l1); (try dsimp only [envOf] at l2); (try dsimp only [envOfC] at l2); (try k_lt2 l2); (try k_sweep)))
  k_with "call type:list" => ((k_here; (with_reducible show wpAny _ _ (call (Value.type _) [Value.ref _]) _ _ _); k_dflt (refine list_copyL (by k_asm) (by k_asm) (by k_mem) ?_ (by ((rename IntsAre _ _ => hI9); (have q9 := IntsAre.length hI9); simp only [List.size_toArray]; rw [PySem.sizeLine_eq]; omega))); intro D' c' h' F' N' l1 l2; (try k_lt l1); (try dsimp only [envOf] at l2); (try dsimp only [envOfC] at l2); (try k_lt2 l2); (try k_sweep)))
  k_with "eval Dict nil nil" => ((k_here; k_dflt (refine newDict_L (by k_asm) (by k_asm) (TopRead.nolimit (by k_asm)) ?_); intro d' h' o' F' N' l1 l2 lo' hs' fs'; (try k_lt l1); (try dsimp only [envOf] at l2); (try dsimp only [envOfC] at l2); (try k_lt2 l2); (try k_sweep)))
  k_with "exec For Name Name cons nil" => ((k_here; (rename Fr _ _ _ _ => lF'); (with_unfolding_all refine For_turnsG lF' (by exact rfl) ?_)))
  k_with "eval ListComp" => ((k_here; (first | (lct_look; k_dflt (refine comp_X (_F₀ := by k_asm) (by with_unfolding_all rfl) (by decide) (by rfl) (by decide) (by rfl) ?_)) | (lcf_look; k_dflt (refine comp_XU (_F₀ := by k_asm) (by with_unfolding_all rfl) (by decide) (by rfl) (by decide) (by rfl) ?_)))))
  k_with "subscriptTail" => ((k_here; (with_reducible show wpAny _ _ (subscriptTail _ _ (Value.ref _) (Value.str _ _)) _ _ _); k_dflt (first | refine item_T (knd := PySem.strKind _ _) (by k_asm) (by k_mem) (by k_asm) (strKind_is _ _ _ _) (by assumption) ?_ | refine kda_item (knd := PySem.strKind _ _) (by k_asm) (by k_mem) (by k_asm) (strKind_is _ _ _ _) (by assumption) ?_)))
  k_with "SrcXU" => ((k_here; k_dflt (refine SrcXU.tupK (by rfl) (by k_asm) (by k_asm) (by k_asm) (by k_is) (by exact rfl) (by exact rfl) (by exact Nat.le_of_ble_eq_true rfl) ?_); intro g'; lcg_lit))
  k_with "SrcX" => ((k_here; k_dflt (first | (refine SrcX.tupN (by rfl) (by k_asm) (by k_asm) (by k_mem) (by exact Nat.le_of_ble_eq_true rfl) ?_) | (refine SrcX.keys (by rfl) (by k_asm) (by k_asm) (by k_mem) (by assumption) (by assumption) (by first | exact times_len (by assumption) | exact Nat.le_of_ble_eq_true rfl) ?_)); intro g'; (try lct_lit)))
  k_with "CompRestT" => ((with_unfolding_all (refine LCt.CompRestT.succ ?_; intro v' I' oI' C' oC' D' m' h' tk' E' hv' hC' hx' F' N' off' ne'; (obtain ⟨t9', hv9'⟩ := hv'; lcg_open hv9'); (have offc' := off'); (try simp only [LCg.Off3, and_true] at off'))))
  k_with "MINE enter" => ((refine enterR (by k_asm) (by k_asm) (by k_asm) (by k_asm) (by assumption) (by k_asm) (by exact rfl) (by exact rfl) (by assumption) (by k_is) (by k_is) (by ktr_room) (by exact BindsTo.of_eq rfl) (by exact locs rfl) ?_ (by exact rfl) (by exact rfl) (by exact rfl) (by decide); intro g' L' h' FG' F' N' B' X' T' hlt' hLL' hkept'; (try dsimp only); (try k_lift B'); (try k_fold)))
  k_with "MINE sub" => (exact SubL.mem (by k_subL))
  k_with "MINE early" => ((first | rfl | ((simp only [early, pick, tm, Option.map]; (repeat ((first | rw [if_pos (by omega)] | rw [if_neg (by omega)]); (try simp only [pick])))); done)))
  k_with "MINE slot" => (first | exact Slot.gone | exact Slot.nil | exact Slot.time _ _ (by omega) (by omega))
  k_with "MINE times" => (((try simp only [stored_nil, stored_ih, stored_ia, stored_ha, stored_iha]); first | exact ⟨[], [], [], rfl, by walk_at "MINE slot", by walk_at "MINE slot", by walk_at "MINE slot"⟩ | exact ⟨[_], [], [], rfl, by walk_at "MINE slot", by walk_at "MINE slot", by walk_at "MINE slot"⟩ | exact ⟨[], [_], [], rfl, by walk_at "MINE slot", by walk_at "MINE slot", by walk_at "MINE slot"⟩ | exact ⟨[], [], [_], rfl, by walk_at "MINE slot", by walk_at "MINE slot", by walk_at "MINE slot"⟩ | exact ⟨[_], [_], [], rfl, by walk_at "MINE slot", by walk_at "MINE slot", by walk_at "MINE slot"⟩ | exact ⟨[_], [], [_], rfl, by walk_at "MINE slot", by walk_at "MINE slot", by walk_at "MINE slot"⟩ | exact ⟨[], [_], [_], rfl, by walk_at "MINE slot", by walk_at "MINE slot", by walk_at "MINE slot"⟩ | exact ⟨[_], [_], [_], rfl, by walk_at "MINE slot", by walk_at "MINE slot", by walk_at "MINE slot"⟩))
  k_with "MINE enterC" => ((refine enterRC (by k_asm) (by k_asm) (by k_asm) (by k_asm) (by assumption) (by k_asm) (by exact rfl) (by exact rfl) (by assumption) (by k_is) (by k_is) (by ktr_room) (by exact BindsTo.of_eq rfl) (by exact rfl) (by decide +kernel) ?_ (by exact rfl) (by exact rfl) (by exact rfl); intro g' L' h' tk' cells' FG' F' N' Y' B' X' T' l1 hlt' hLL' hkept'; (try k_lt l1); k_cells Y'; (try simp only [List.cons_append, List.nil_append] at N'); (try dsimp only); (try k_lift B'); (try k_fold)))
  k_with "MINE due" => (first | rfl | exact due_t (by assumption) | exact due_f (by assumption) | exact due_g (by assumption) | exact due_n | exact due_f (not_t (by assumption)) | exact due_t (not_f (by assumption)) | exact due_t (not_nt (by assumption)))
  k_with "MINE at" => (((try simp only [stored_nil, stored_ih, stored_ia, stored_ha, stored_iha]); first | exact ⟨none, by with_unfolding_all rfl, by walk_at "MINE due"⟩ | exact ⟨some (_, _), by with_unfolding_all rfl, by walk_at "MINE due"⟩))
  k_with "MINE gts" => ((repeat (first | exact List.forall_mem_nil _ | refine List.forall_mem_cons.mpr ⟨by ((try dsimp only); (try dsimp only [envOf]); (try dsimp only [envOfC]); omega), ?_⟩)))
  k_with "MINE due2" => (first | exact due_t (k' := 0) (by assumption) | exact due_f (by assumption) | exact due_g (by assumption) | exact due_n | exact due_f (not_t (by assumption)) | exact due_t (not_f (by assumption)) | exact due_t (not_nt (by assumption)))
  k_with "MINE periods" => ((rename pick _ _ _ = _ => hE9; (repeat ((rename _ = (_ : Int) * 2 ^ (rangeKs _ _).length => q9); (try rw [period_of q9] at hE9); clear q9))))
  k_with "MINE now" => ((repeat ((rename _ = (_ : Int) * 2 ^ (rangeKs _ _).length => q9); (first | rw [period_of0 q9] | rw [period_of q9] | skip); clear q9)))
  k_fill
  intro dp un gd cn cs a ccd cl outer A₀ base h₀ L m s Q E news B F X N hsub T hk hdp hun hret
  refine wpAny_call ?_
  k_dflt walk_at "MINE enter"
  k_steps
  all_goals exact end_any hret N hsub (by assumption) (by assumption) (by assumption) (by assumption) (by walk_at "MINE sub") (by first | exact ⟨rfl, rfl⟩ | exact isRow (by k_mem) (by walk_at "MINE early"))
end
end Mine
end
section
namespace Mine
section
variable {w : World} {loose : List Str} {mean : ExcName → Option Value} {mg mb : Str → Option Value}
theorem end_times {h₀ g h' : Heap} {L L' b l d : Addr} {m m' : Str → Option Value} {ob ob' ol ol' o : Obj} {news led : List (Addr × Obj)} {s : Shared} {Q : Value → Shared → Prop} {tk' : Nat} {kvs : List (Str × Value)} {gi gh ga : Option (Int × Tok)}
    (hret : ∀ (r : Value) (ob' ol' : Obj) (tl : List (Addr × Obj)) (h' : Heap) (tk' : Nat), Fr h₀ L h' m → Led2 h₀ L h' b l ob ob' ol ol' tl news → BoxOb l ob' ol' → (∀ p ∈ tl, @LT.lt Nat _ L p.1) → (∀ p ∈ tl, ∀ q ∈ news, q.1 < p.1) → IsTimes w tl r → Q r { s with heap := h', toks := tk' })
    (N : News h₀ L s.heap news) (hK : Kept g news [(b, ob), (l, ol)]) (F' : Fr g L' h' m') (kF : Fr h₀ L h' m) (kN : News h₀ L h' led) (hlt : ∀ q ∈ news, q.1 < L') (hLL : @LT.lt Nat _ L L')
    (hm : (d, o) ∈ led) (hb : (b, ob') ∈ led) (hl : (l, ol') ∈ led) (hB : BoxOb l ob' ol') (hLd : @LT.lt Nat _ L' d) (lo : (d == sysModules) = false) (hd : o.IsDictOf (strKind PySem.Challenge.rw_no0048_01.row.prog w) kvs) (hT : TimesOf kvs gi gh ga) : Q (.ref d) { s with heap := h', toks := tk' } := by
  refine hret (.ref d) ob' ol' [(d, o)] h' tk' kF (led_back N hK F' kN hb hl fun p hp => ?_) hB (fun p hp => ?_) (fun p hp q hq => ?_) ⟨d, o, kvs, gi, gh, ga, rfl, rfl, hd, lo, hT⟩
  · rw [List.mem_singleton.mp hp]; exact hm
  · rw [List.mem_singleton.mp hp]; exact Nat.lt_trans hLL hLd
  · rw [List.mem_singleton.mp hp]; exact Nat.lt_trans (hlt q hq) hLd

/-! ### one turn -/
def Flat1 (kvs : List (Str × Value)) : Prop := ∃ D, PyProof.V.FlatPairs PyData.str kvs D
/-- what a turn adds for a name -/
inductive Turn (n : Str) (kvs : List (Str × Value)) : List (Str × Value) → Option (Int × Tok) → Prop
  | mk (k : List (Str × Value)) (g : Option (Int × Tok)) (h : Slot n k g) : Turn n kvs (kvs ++ k) g
theorem flat_len {kvs : List (Str × Value)} {D : List (PyData × PyData)} (h : PyProof.V.FlatPairs PyData.str kvs D) : D.length = kvs.length := by
  induction h with
  | nil => rfl
  | cons _ _ ih => rw [List.length_cons, List.length_cons, ih]
theorem turn1 {kvs : List (Str × Value)} {gi : Option (Int × Tok)} (h : Turn (Str.ofString "initial") [] kvs gi) : kvs.length ≤ 1 ∧ ∀ v, stored kvs (Str.ofString "handshake") v = kvs ++ [(Str.ofString "handshake", v)] := by
  cases h with
  | mk k g h =>
    cases h <;> exact ⟨by simp, fun v => by with_unfolding_all rfl⟩
theorem turn2 {kvs kvs' : List (Str × Value)} {gi gh : Option (Int × Tok)} (h : Turn (Str.ofString "initial") [] kvs gi) (h' : Turn (Str.ofString "handshake") kvs kvs' gh) : kvs'.length ≤ 2 ∧ ∀ v, stored kvs' (Str.ofString "application") v = kvs' ++ [(Str.ofString "application", v)] := by
  cases h with
  | mk k g h =>
    cases h' with
    | mk k' g' h' =>
      cases h <;> cases h' <;> exact ⟨by simp, fun v => by with_unfolding_all rfl⟩
theorem turn3 {kvs kvs' kvs'' : List (Str × Value)} {gi gh ga : Option (Int × Tok)} (h : Turn (Str.ofString "initial") [] kvs gi) (h' : Turn (Str.ofString "handshake") kvs kvs' gh) (h'' : Turn (Str.ofString "application") kvs' kvs'' ga) : TimesOf kvs'' gi gh ga := by
  cases h with
  | mk k g h =>
    cases h' with
    | mk k' g' h' =>
      cases h'' with
      | mk k'' g'' h'' => exact ⟨k, k', k'', by simp, h, h', h''⟩
/-- what stands ahead of a turn: the dict's size, and where a new name goes -/
def Ready (n : Str) (kvs : List (Str × Value)) : Prop := kvs.length ≤ 2 ∧ ∀ v, stored kvs n v = kvs ++ [(n, v)]
theorem ready0 : Ready (Str.ofString "initial") [] := ⟨by simp, fun _ => rfl⟩
section
variable {prog : Program} {A : Around} {E : Value → Shared → Prop} {s : Shared} {h₀ : Heap} {L b l d : Addr} {m : Str → Option Value} {news rest : List (Addr × Obj)} {n : Str} {kvs : List (Str × Value)}
theorem set_T {key v : Value} {dv : PyData} {o : Obj} {gg : Obj → List (Addr × Obj)} {Q : Unit → Shared → Prop} (F : Fr h₀ L s.heap m) (N : News h₀ L s.heap news) (U : UpdF d o news gg) (hd : o.IsDictOf (strKind prog w) kvs) (hf : Flat1 kvs) (hR : Ready n kvs) (hkey : (strKind prog w).is n key = true) (hv : PyProof.V.Flat v dv)
    (h : ∀ h' o', Fr h₀ L h' m → News h₀ L h' (gg o') → o'.IsDictOf (strKind prog w) (kvs ++ [(n, v)]) → Flat1 (kvs ++ [(n, v)]) → Q () { s with heap := h', toks := s.toks + 1 }) : wpAny (model prog w) A (setItem (.ref d) key v) Q E s := by
  obtain ⟨D, hD⟩ := hf
  refine setItem_K PyProof.V.same_str hkey hv F N U hd hD (fun h' o' F' N' hd' hf' => ?_) ?_
  · rw [hR.2] at hd' hf'
    exact h h' o' F' N' hd' ⟨_, hf'⟩
  · rw [flat_len hD, PySem.sizeLine_eq]
    have := hR.1
    omega
def JoinB (w : World) (h₀ : Heap) (L : Addr) (m : Str → Option Value) (rest : List (Addr × Obj)) (s : Shared) (d b l : Addr) (n : Str) (kvs : List (Str × Value)) (fl : Flow) (s' : Shared) : Prop :=
  ∃ o' ob' ol' kvs' g h' tk', fl = .next ∧ s' = { s with heap := h', toks := tk' } ∧ Fr h₀ L h' m ∧ News h₀ L h' ((d, o') :: (b, ob') :: (l, ol') :: rest) ∧ BoxOb l ob' ol' ∧ o'.IsDictOf (strKind PySem.Challenge.rw_no0048_01.row.prog w) kvs' ∧ Flat1 kvs' ∧ Turn n kvs kvs' g
theorem join_B {M : Model} {t : Sem Flow} {Q : Flow → Shared → Prop} {o ob ol : Obj} {p q : Addr × Obj} {tl : List (Addr × Obj)} (w : World) (F : Fr h₀ L s.heap m) (N : News h₀ L s.heap (p :: q :: (d, o) :: (b, ob) :: (l, ol) :: tl)) (n : Str) (kvs : List (Str × Value))
    (h1 : Joining → wpAny M A t (JoinB w h₀ L m (p :: q :: tl) s d b l n kvs) E s)
    (h2 : ∀ o' ob' ol' kvs' g h' tk', Fr h₀ L h' m → News h₀ L h' ((d, o') :: (b, ob') :: (l, ol') :: p :: q :: tl) → BoxOb l ob' ol' → o'.IsDictOf (strKind PySem.Challenge.rw_no0048_01.row.prog w) kvs' → Flat1 kvs' → Turn n kvs kvs' g → Q .next { s with heap := h', toks := tk' }) : wpAny M A t Q E s :=
  wpAny_mono (h1 .mk) (fun fl s' h => by
    obtain ⟨o', ob', ol', kvs', g, h', tk', rfl, rfl, F', N', hB', hD', hF', hT'⟩ := h
    exact h2 o' ob' ol' kvs' g h' tk' F' N' hB' hD' hF' hT') fun _ _ h => h
theorem join_B2 {M : Model} {t : Sem Flow} {Q : Flow → Shared → Prop} {o ob ol : Obj} {p q : Addr × Obj} {tl : List (Addr × Obj)} (w : World) (F : Fr h₀ L s.heap m) (N : News h₀ L s.heap (p :: (d, o) :: (b, ob) :: (l, ol) :: q :: tl)) (n : Str) (kvs : List (Str × Value))
    (h1 : Joining → wpAny M A t (JoinB w h₀ L m (p :: q :: tl) s d b l n kvs) E s)
    (h2 : ∀ o' ob' ol' kvs' g h' tk', Fr h₀ L h' m → News h₀ L h' ((d, o') :: (b, ob') :: (l, ol') :: p :: q :: tl) → BoxOb l ob' ol' → o'.IsDictOf (strKind PySem.Challenge.rw_no0048_01.row.prog w) kvs' → Flat1 kvs' → Turn n kvs kvs' g → Q .next { s with heap := h', toks := tk' }) : wpAny M A t Q E s :=
  join_B (o := o) (ob := ob) (ol := ol) w F (fun x hx => N x (by
    simp only [List.mem_cons] at hx ⊢
    rcases hx with h | h | h | h | h | h <;> simp [h])) n kvs h1 h2
variable {h' : Heap} {tk' : Nat} {led : List (Addr × Obj)} {o' ob' ol' : Obj}
theorem joinB_end {kvs' : List (Str × Value)} {g : Option (Int × Tok)} (F' : Fr h₀ L h' m) (N' : News h₀ L h' led) (sub : ∀ p ∈ (d, o') :: (b, ob') :: (l, ol') :: rest, p ∈ led) (hB : BoxOb l ob' ol') (hD : o'.IsDictOf (strKind PySem.Challenge.rw_no0048_01.row.prog w) kvs') (hf : Flat1 kvs') (hT : Turn n kvs kvs' g) :
    JoinB w h₀ L m rest s d b l n kvs .next { s with heap := h', toks := tk' } := ⟨o', ob', ol', kvs', g, h', tk', rfl, rfl, F', fun p hp => N' p (sub p hp), hB, hD, hf, hT⟩
theorem turn_gone : Turn n kvs kvs none := by
  have h := Turn.mk (n := n) (kvs := kvs) [] none Slot.gone
  rwa [List.append_nil] at h
end
end
end Mine
namespace Mine
section
variable {w : World} {loose : List Str} {mean : ExcName → Option Value} {mg mb : Str → Option Value}
set_option maxRecDepth 100000 in
set_option maxHeartbeats 8000000 in
theorem times_ok {b l : Addr} {ob ol : Obj} {ch : Int} {tc : Tok} :
    Draws w loose mean mg mb 83 [.ref b, .int ch tc] b l ob ol 2 (IsTimes w) := by
  unfold Draws
  w_top off
  k_with_none
  k_with "UnrEndW" => (k_dflt ktu_end)
  k_with "InvEndN" => (k_dflt kst_close)
  k_with "callWith" => (((with_reducible show wpAny _ _ (callWith _ (Value.builtin _) (_ :: _) _ _) _ _ _); refine callWith_method1 ?_))
  k_with "ite" => ((k_here; k_openite; first | refine ite_pos (by with_reducible assumption) ?_ | refine ite_neg (by with_reducible assumption) ?_ | refine ite_isFalse (by with_reducible assumption) ?_ | (refine split_dec ?_ ?_ <;> intro _) | (refine split_bool ?_ ?_ <;> intro _)))
  k_with "call builtin:list.pop" => ((k_here; k_dflt (refine pop0 (by k_asm) (by k_asm) (by assumption) (by assumption) (by assumption) (by k_upd) ?_); intro h' i' t' F' N' hI' hn'; (try k_sweep)))
  k_with "call builtin:dict.get" => ((k_here; k_dflt (refine get_T (knd := PySem.strKind _ _) (by k_asm) (by k_mem) (by k_asm) (by k_asm) (strKind_is _ _ _ _) (by assumption) ?_)))
  k_with "getMethod ref" => ((k_here; (with_reducible show wpAny _ _ (getMethod (Value.ref _) (Str.ofString "get") _) _ _ _); k_dflt (refine kdg_method (knd := PySem.strKind _ _) (by k_asm) (by k_mem) (by k_asm) ?_)))
  k_with "newTuple" => ((k_here; k_dflt (refine newTuple_L (by k_asm) (by k_asm) ?_ (by kmk_size)); intro D' h' F' N' l1 l2; (try k_lt l1); (try dsimp only [envOf] at l2); (try dsimp only [envOfC] at l2); (try k_lt2 l2); (try k_sweep)))
  k_with "newList" => ((k_here; k_dflt (refine newList_L (by k_asm) (by k_asm) ?_ (by kmk_size)); intro D' h' F' N' l1 l2; (try k_lt l1); (try dsimp only [envOf] at l2); (try dsimp only [envOfC] at l2); (try k_lt2 l2); (try k_sweep)))
  k_with "call type:list" => ((k_here; (with_reducible show wpAny _ _ (call (Value.type _) [Value.ref _]) _ _ _); k_dflt (refine list_copyL (by k_asm) (by k_asm) (by k_mem) ?_ (by ((rename IntsAre _ _ => hI9); (have q9 := IntsAre.length hI9); simp only [List.size_toArray]; rw [PySem.sizeLine_eq]; omega))); intro D' c' h' F' N' l1 l2; (try k_lt l1); (try dsimp only [envOf] at l2); (try dsimp only [envOfC] at l2); (try k_lt2 l2); (try k_sweep)))
  k_with "eval Dict nil nil" => ((k_here; k_dflt (refine newDict_L (by k_asm) (by k_asm) (TopRead.nolimit (by k_asm)) ?_); intro d' h' o' F' N' l1 l2 lo' hs' fs'; (try k_lt l1); (try dsimp only [envOf] at l2); (try dsimp only [envOfC] at l2); (try k_lt2 l2); (try k_sweep)))
  k_with "exec For Name Name cons nil" => ((k_here; (rename Fr _ _ _ _ => lF'); (with_unfolding_all refine For_turnsG lF' (by exact rfl) ?_)))
  k_with "eval ListComp" => ((k_here; (first | (lct_look; k_dflt (refine comp_X (_F₀ := by k_asm) (by with_unfolding_all rfl) (by decide) (by rfl) (by decide) (by rfl) ?_)) | (lcf_look; k_dflt (refine comp_XU (_F₀ := by k_asm) (by with_unfolding_all rfl) (by decide) (by rfl) (by decide) (by rfl) ?_)))))
  k_with "subscriptTail" => ((k_here; (with_reducible show wpAny _ _ (subscriptTail _ _ (Value.ref _) (Value.str _ _)) _ _ _); k_dflt (first | refine item_T (knd := PySem.strKind _ _) (by k_asm) (by k_mem) (by k_asm) (strKind_is _ _ _ _) (by assumption) ?_ | refine kda_item (knd := PySem.strKind _ _) (by k_asm) (by k_mem) (by k_asm) (strKind_is _ _ _ _) (by assumption) ?_)))
  k_with "SrcXU" => ((k_here; k_dflt (refine SrcXU.tupK (by rfl) (by k_asm) (by k_asm) (by k_asm) (by k_is) (by exact rfl) (by exact rfl) (by exact Nat.le_of_ble_eq_true rfl) ?_); intro g'; lcg_lit))
  k_with "SrcX" => ((k_here; k_dflt (first | (refine SrcX.tupN (by rfl) (by k_asm) (by k_asm) (by k_mem) (by exact Nat.le_of_ble_eq_true rfl) ?_) | (refine SrcX.keys (by rfl) (by k_asm) (by k_asm) (by k_mem) (by assumption) (by assumption) (by first | exact times_len (by assumption) | exact Nat.le_of_ble_eq_true rfl) ?_)); intro g'; (try lct_lit)))
  k_with "CompRestT" => ((with_unfolding_all (refine LCt.CompRestT.succ ?_; intro v' I' oI' C' oC' D' m' h' tk' E' hv' hC' hx' F' N' off' ne'; (obtain ⟨t9', hv9'⟩ := hv'; lcg_open hv9'); (have offc' := off'); (try simp only [LCg.Off3, and_true] at off'))))
  k_with "MINE enter" => ((refine enterR (by k_asm) (by k_asm) (by k_asm) (by k_asm) (by assumption) (by k_asm) (by exact rfl) (by exact rfl) (by assumption) (by k_is) (by k_is) (by ktr_room) (by exact BindsTo.of_eq rfl) (by exact locs rfl) ?_ (by exact rfl) (by exact rfl) (by exact rfl) (by decide); intro g' L' h' FG' F' N' B' X' T' hlt' hLL' hkept'; (try dsimp only); (try k_lift B'); (try k_fold)))
  k_with "MINE sub" => (exact SubL.mem (by k_subL))
  k_with "MINE early" => ((first | rfl | ((simp only [early, pick, tm, Option.map]; (repeat ((first | rw [if_pos (by omega)] | rw [if_neg (by omega)]); (try simp only [pick])))); done)))
  k_with "MINE slot" => (first | exact Slot.gone | exact Slot.nil | exact Slot.time _ _ (by omega) (by omega))
  k_with "MINE times" => (((try simp only [stored_nil, stored_ih, stored_ia, stored_ha, stored_iha]); first | exact ⟨[], [], [], rfl, by walk_at "MINE slot", by walk_at "MINE slot", by walk_at "MINE slot"⟩ | exact ⟨[_], [], [], rfl, by walk_at "MINE slot", by walk_at "MINE slot", by walk_at "MINE slot"⟩ | exact ⟨[], [_], [], rfl, by walk_at "MINE slot", by walk_at "MINE slot", by walk_at "MINE slot"⟩ | exact ⟨[], [], [_], rfl, by walk_at "MINE slot", by walk_at "MINE slot", by walk_at "MINE slot"⟩ | exact ⟨[_], [_], [], rfl, by walk_at "MINE slot", by walk_at "MINE slot", by walk_at "MINE slot"⟩ | exact ⟨[_], [], [_], rfl, by walk_at "MINE slot", by walk_at "MINE slot", by walk_at "MINE slot"⟩ | exact ⟨[], [_], [_], rfl, by walk_at "MINE slot", by walk_at "MINE slot", by walk_at "MINE slot"⟩ | exact ⟨[_], [_], [_], rfl, by walk_at "MINE slot", by walk_at "MINE slot", by walk_at "MINE slot"⟩))
  k_with "MINE enterC" => ((refine enterRC (by k_asm) (by k_asm) (by k_asm) (by k_asm) (by assumption) (by k_asm) (by exact rfl) (by exact rfl) (by assumption) (by k_is) (by k_is) (by ktr_room) (by exact BindsTo.of_eq rfl) (by exact rfl) (by decide +kernel) ?_ (by exact rfl) (by exact rfl) (by exact rfl); intro g' L' h' tk' cells' FG' F' N' Y' B' X' T' l1 hlt' hLL' hkept'; (try k_lt l1); k_cells Y'; (try simp only [List.cons_append, List.nil_append] at N'); (try dsimp only); (try k_lift B'); (try k_fold)))
  k_with "MINE due" => (first | rfl | exact due_t (by assumption) | exact due_f (by assumption) | exact due_g (by assumption) | exact due_n | exact due_f (not_t (by assumption)) | exact due_t (not_f (by assumption)) | exact due_t (not_nt (by assumption)))
  k_with "MINE at" => (((try simp only [stored_nil, stored_ih, stored_ia, stored_ha, stored_iha]); first | exact ⟨none, by with_unfolding_all rfl, by walk_at "MINE due"⟩ | exact ⟨some (_, _), by with_unfolding_all rfl, by walk_at "MINE due"⟩))
  k_with "MINE gts" => ((repeat (first | exact List.forall_mem_nil _ | refine List.forall_mem_cons.mpr ⟨by ((try dsimp only); (try dsimp only [envOf]); (try dsimp only [envOfC]); omega), ?_⟩)))
  k_with "MINE due2" => (first | exact due_t (k' := 0) (by assumption) | exact due_f (by assumption) | exact due_g (by assumption) | exact due_n | exact due_f (not_t (by assumption)) | exact due_t (not_f (by assumption)) | exact due_t (not_nt (by assumption)))
  k_with "MINE periods" => ((rename pick _ _ _ = _ => hE9; (repeat ((rename _ = (_ : Int) * 2 ^ (rangeKs _ _).length => q9); (try rw [period_of q9] at hE9); clear q9))))
  k_with "MINE now" => ((repeat ((rename _ = (_ : Int) * 2 ^ (rangeKs _ _).length => q9); (first | rw [period_of0 q9] | rw [period_of q9] | skip); clear q9)))
  k_with "call ref" => ((k_here; (with_reducible show wpAny _ _ (call (Value.ref 69) _) _ _ _); k_dflt (refine drawA (take_ok (by decide) (by decide)) (by k_asm) (by k_asm) (by k_asm) (by k_asm) (by k_asm) (by assumption) (by k_mem) (by k_mem) (by k_ne) (by first | exact rfl | assumption) (by ktr_room) (by ktr_units) ?_); intro r' ob' ol' tl' h' tk' F' hN' hB' hL9 hO9 hP'; k_dflt (obtain ⟨e9, i', t', e8, h0', h1'⟩ := hP'); subst e9; subst e8; clear hL9 hO9; k_dflt (refine led_in hN' (by k_upd) (by k_upd) ?_); clear hN'; intro N'; (try simp only [List.nil_append] at N'); (try dsimp only); (try k_sweep); (try k_fold)))
  k_with "setItem ref str" => ((k_here; k_dflt (refine set_T (by k_asm) (by k_asm) (by k_updF) (by k_asm) (by assumption) (by assumption) (strKind_is _ _ _ _) (by k_flat) ?_); intro h' o' F' N' hd' hf'; (try dsimp only at N'); (try k_sweep)))
  k_with "JoinB" => (k_dflt (first | exact joinB_end (by k_asm) (by k_asm) (by walk_at "MINE sub") (by assumption) (by assumption) (by assumption) (Turn.mk _ _ (by walk_at "MINE slot")) | exact joinB_end (by k_asm) (by k_asm) (by walk_at "MINE sub") (by assumption) (by assumption) (by assumption) turn_gone))
  k_with "MINE to if" => (repeat' ((fail_if_success (with_reducible show wpAny _ _ (exec (PySem.Stmt.If _ _ _ ⟨51, _, _, _⟩) _) _ _ _)); (first | (k_unfold; (try dsimp only)) | (k_end; wrow_close) | walk1 | (dsimp only; walk1) | (leave1; walk_say "STEP leave1"; try dsimp only) | fail "no step")))
  k_fill
  intro dp un gd cn cs a ccd cl outer A₀ base h₀ L m s Q E news B F X N hsub hbl hB T hk hdp hun hret
  have hR := ready0
  refine wpAny_call ?_
  k_dflt walk_at "MINE enter"
  walk_at "MINE to if"
  have hf0 : Flat1 [] := ⟨_, .nil⟩
  rename Fr _ _ _ _ => F1
  rename News _ _ _ _ => N1
  refine join_B w F1 N1 (Str.ofString "initial") [] ?_ ?_
  · intro hJ
    (try k_fold)
    k_steps
  · clear hR F1 N1
    intro o1 ob1 ol1 kv1 g1 h1 tk1 F2 N2 hB1 hd1 hf1 hT1
    have hR := turn1 hT1
    have hR1 : Ready _ _ := ⟨by omega, hR.2⟩
    walk_at "MINE to if"
    rename Fr _ _ _ _ => F3
    rename News _ _ _ _ => N3
    refine join_B2 w F3 N3 (Str.ofString "handshake") kv1 ?_ ?_
    · intro hJ
      (try k_fold)
      k_steps
    · clear hR hR1 F3 N3
      intro o2 ob2 ol2 kv2 g2 h2 tk2 F4 N4 hB2 hd2 hf2 hT2
      have hR := turn2 hT1 hT2
      have hR2 : Ready _ _ := ⟨by omega, hR.2⟩
      walk_at "MINE to if"
      rename Fr _ _ _ _ => F5
      rename News _ _ _ _ => N5
      refine join_B2 w F5 N5 (Str.ofString "application") kv2 ?_ ?_
      · intro hJ
        (try k_fold)
        k_steps
      · clear hR hR2 F5 N5
        intro o3 ob3 ol3 kv3 g3 h3 tk3 F6 N6 hB3 hd3 hf3 hT3
        have hT := turn3 hT1 hT2 hT3
        k_steps
        all_goals exact end_times hret N (by assumption) (by assumption) (by assumption) (by assumption) (by assumption) (by assumption) (by k_mem) (by k_mem) (by k_mem) (by assumption) (by (try dsimp only [envOf]); omega) (by assumption) (by assumption) (by assumption)
end
end Mine
end
section
namespace Mine
section
variable {w : World} {loose : List Str} {mean : ExcName → Option Value} {mg mb : Str → Option Value}
set_option maxRecDepth 100000 in
set_option maxHeartbeats 8000000 in
theorem ptimes_ok {d : Addr} {o : Obj} {kvs : List (Str × Value)} {gi gh ga : Option (Int × Tok)} {b dl c : Int} {tb td tc : Tok} {conf : Bool} (hb0 : 0 ≤ b) (hb1 : b ≤ 10000) (hd0 : 0 ≤ dl) (hd1 : dl ≤ 10000) (hc0 : 0 ≤ c) (hc1 : c ≤ 4)
    (lo : (d == sysModules) = false) (hd : o.IsDictOf (strKind PySem.Challenge.rw_no0048_01.row.prog w) kvs)
    (hi : (valueAt kvs (Str.ofString "initial")).getD .none = toV gi) (hh : (valueAt kvs (Str.ofString "handshake")).getD .none = toV gh) (ha : (valueAt kvs (Str.ofString "application")).getD .none = toV ga) :
    CallsTo w loose mean mg mb 36 [.ref d, .int b tb, .int dl td, .int c tc, .bool conf] [(d, o)] 2 (Says w ((tm gi).map (· + period b 0 c)) ((tm gh).map (· + period b 0 c)) (dueA conf (tm ga) (period b dl c))) := by
  unfold CallsTo
  w_top off
  k_with_none
  k_with "UnrEndW" => (k_dflt ktu_end)
  k_with "InvEndN" => (k_dflt kst_close)
  k_with "callWith" => (((with_reducible show wpAny _ _ (callWith _ (Value.builtin _) (_ :: _) _ _) _ _ _); refine callWith_method1 ?_))
  k_with "ite" => ((k_here; k_openite; first | refine ite_pos (by with_reducible assumption) ?_ | refine ite_neg (by with_reducible assumption) ?_ | refine ite_isFalse (by with_reducible assumption) ?_ | (refine split_dec ?_ ?_ <;> intro _) | (refine split_bool ?_ ?_ <;> intro _)))
  k_with "call builtin:list.pop" => ((k_here; k_dflt (refine pop0 (by k_asm) (by k_asm) (by assumption) (by assumption) (by assumption) (by k_upd) ?_); intro h' i' t' F' N' hI' hn'; (try k_sweep)))
  k_with "call builtin:dict.get" => ((k_here; k_dflt (refine get_T (knd := PySem.strKind _ _) (by k_asm) (by k_mem) (by k_asm) (by k_asm) (strKind_is _ _ _ _) (by assumption) ?_)))
  k_with "getMethod ref" => ((k_here; (with_reducible show wpAny _ _ (getMethod (Value.ref _) (Str.ofString "get") _) _ _ _); k_dflt (refine kdg_method (knd := PySem.strKind _ _) (by k_asm) (by k_mem) (by k_asm) ?_)))
  k_with "newTuple" => ((k_here; k_dflt (refine newTuple_L (by k_asm) (by k_asm) ?_ (by kmk_size)); intro D' h' F' N' l1 l2; (try k_lt l1); (try dsimp only [envOf] at l2); (try dsimp only [envOfC] at l2); (try k_lt2 l2); (try k_sweep)))
  k_with "newList" => ((k_here; k_dflt (refine newList_L (by k_asm) (by k_asm) ?_ (by kmk_size)); intro D' h' F' N' l1 l2; (try k_lt l1); (try dsimp only [envOf] at l2); (try dsimp only [envOfC] at l2); (try k_lt2 l2); (try k_sweep)))
  k_with "call type:list" => ((k_here; (with_reducible show wpAny _ _ (call (Value.type _) [Value.ref _]) _ _ _); k_dflt (refine list_copyL (by k_asm) (by k_asm) (by k_mem) ?_ (by ((rename IntsAre _ _ => hI9); (have q9 := IntsAre.length hI9); simp only [List.size_toArray]; rw [PySem.sizeLine_eq]; omega))); intro D' c' h' F' N' l1 l2; (try k_lt l1); (try dsimp only [envOf] at l2); (try dsimp only [envOfC] at l2); (try k_lt2 l2); (try k_sweep)))
  k_with "eval Dict nil nil" => ((k_here; k_dflt (refine newDict_L (by k_asm) (by k_asm) (TopRead.nolimit (by k_asm)) ?_); intro d' h' o' F' N' l1 l2 lo' hs' fs'; (try k_lt l1); (try dsimp only [envOf] at l2); (try dsimp only [envOfC] at l2); (try k_lt2 l2); (try k_sweep)))
  k_with "exec For Name Name cons nil" => ((k_here; (rename Fr _ _ _ _ => lF'); (with_unfolding_all refine For_turnsG lF' (by exact rfl) ?_)))
  k_with "eval ListComp" => ((k_here; (first | (lct_look; k_dflt (refine comp_X (_F₀ := by k_asm) (by with_unfolding_all rfl) (by decide) (by rfl) (by decide) (by rfl) ?_)) | (lcf_look; k_dflt (refine comp_XU (_F₀ := by k_asm) (by with_unfolding_all rfl) (by decide) (by rfl) (by decide) (by rfl) ?_)))))
  k_with "subscriptTail" => ((k_here; (with_reducible show wpAny _ _ (subscriptTail _ _ (Value.ref _) (Value.str _ _)) _ _ _); k_dflt (first | refine item_T (knd := PySem.strKind _ _) (by k_asm) (by k_mem) (by k_asm) (strKind_is _ _ _ _) (by assumption) ?_ | refine kda_item (knd := PySem.strKind _ _) (by k_asm) (by k_mem) (by k_asm) (strKind_is _ _ _ _) (by assumption) ?_)))
  k_with "SrcXU" => ((k_here; k_dflt (refine SrcXU.tupK (by rfl) (by k_asm) (by k_asm) (by k_asm) (by k_is) (by exact rfl) (by exact rfl) (by exact Nat.le_of_ble_eq_true rfl) ?_); intro g'; lcg_lit))
  k_with "SrcX" => ((k_here; k_dflt (first | (refine SrcX.tupN (by rfl) (by k_asm) (by k_asm) (by k_mem) (by exact Nat.le_of_ble_eq_true rfl) ?_) | (refine SrcX.keys (by rfl) (by k_asm) (by k_asm) (by k_mem) (by assumption) (by assumption) (by first | exact times_len (by assumption) | exact Nat.le_of_ble_eq_true rfl) ?_)); intro g'; (try lct_lit)))
  k_with "CompRestT" => ((with_unfolding_all (refine LCt.CompRestT.succ ?_; intro v' I' oI' C' oC' D' m' h' tk' E' hv' hC' hx' F' N' off' ne'; (obtain ⟨t9', hv9'⟩ := hv'; lcg_open hv9'); (have offc' := off'); (try simp only [LCg.Off3, and_true] at off'))))
  k_with "MINE enter" => ((refine enterR (by k_asm) (by k_asm) (by k_asm) (by k_asm) (by assumption) (by k_asm) (by exact rfl) (by exact rfl) (by assumption) (by k_is) (by k_is) (by ktr_room) (by exact BindsTo.of_eq rfl) (by exact locs rfl) ?_ (by exact rfl) (by exact rfl) (by exact rfl) (by decide); intro g' L' h' FG' F' N' B' X' T' hlt' hLL' hkept'; (try dsimp only); (try k_lift B'); (try k_fold)))
  k_with "MINE sub" => (exact SubL.mem (by k_subL))
  k_with "MINE early" => ((first | rfl | ((simp only [early, pick, tm, Option.map]; (repeat ((first | rw [if_pos (by omega)] | rw [if_neg (by omega)]); (try simp only [pick])))); done)))
  k_with "MINE slot" => (first | exact Slot.gone | exact Slot.nil | exact Slot.time _ _ (by omega) (by omega))
  k_with "MINE times" => (((try simp only [stored_nil, stored_ih, stored_ia, stored_ha, stored_iha]); first | exact ⟨[], [], [], rfl, by walk_at "MINE slot", by walk_at "MINE slot", by walk_at "MINE slot"⟩ | exact ⟨[_], [], [], rfl, by walk_at "MINE slot", by walk_at "MINE slot", by walk_at "MINE slot"⟩ | exact ⟨[], [_], [], rfl, by walk_at "MINE slot", by walk_at "MINE slot", by walk_at "MINE slot"⟩ | exact ⟨[], [], [_], rfl, by walk_at "MINE slot", by walk_at "MINE slot", by walk_at "MINE slot"⟩ | exact ⟨[_], [_], [], rfl, by walk_at "MINE slot", by walk_at "MINE slot", by walk_at "MINE slot"⟩ | exact ⟨[_], [], [_], rfl, by walk_at "MINE slot", by walk_at "MINE slot", by walk_at "MINE slot"⟩ | exact ⟨[], [_], [_], rfl, by walk_at "MINE slot", by walk_at "MINE slot", by walk_at "MINE slot"⟩ | exact ⟨[_], [_], [_], rfl, by walk_at "MINE slot", by walk_at "MINE slot", by walk_at "MINE slot"⟩))
  k_with "MINE enterC" => ((refine enterRC (by k_asm) (by k_asm) (by k_asm) (by k_asm) (by assumption) (by k_asm) (by exact rfl) (by exact rfl) (by assumption) (by k_is) (by k_is) (by ktr_room) (by exact BindsTo.of_eq rfl) (by exact rfl) (by decide +kernel) ?_ (by exact rfl) (by exact rfl) (by exact rfl); intro g' L' h' tk' cells' FG' F' N' Y' B' X' T' l1 hlt' hLL' hkept'; (try k_lt l1); k_cells Y'; (try simp only [List.cons_append, List.nil_append] at N'); (try dsimp only); (try k_lift B'); (try k_fold)))
  k_with "MINE due" => (first | rfl | exact due_t (by assumption) | exact due_f (by assumption) | exact due_g (by assumption) | exact due_n | exact due_f (not_t (by assumption)) | exact due_t (not_f (by assumption)) | exact due_t (not_nt (by assumption)))
  k_with "MINE at" => (((try simp only [stored_nil, stored_ih, stored_ia, stored_ha, stored_iha]); first | exact ⟨none, by with_unfolding_all rfl, by walk_at "MINE due"⟩ | exact ⟨some (_, _), by with_unfolding_all rfl, by walk_at "MINE due"⟩))
  k_with "MINE gts" => ((repeat (first | exact List.forall_mem_nil _ | refine List.forall_mem_cons.mpr ⟨by ((try dsimp only); (try dsimp only [envOf]); (try dsimp only [envOfC]); omega), ?_⟩)))
  k_with "MINE due2" => (first | exact due_t (k' := 0) (by assumption) | exact due_f (by assumption) | exact due_g (by assumption) | exact due_n | exact due_f (not_t (by assumption)) | exact due_t (not_f (by assumption)) | exact due_t (not_nt (by assumption)))
  k_with "MINE periods" => ((rename pick _ _ _ = _ => hE9; (repeat ((rename _ = (_ : Int) * 2 ^ (rangeKs _ _).length => q9); (try rw [period_of q9] at hE9); clear q9))))
  k_with "MINE now" => ((repeat ((rename _ = (_ : Int) * 2 ^ (rangeKs _ _).length => q9); (first | rw [period_of0 q9] | rw [period_of q9] | skip); clear q9)))
  k_with "call ref" => ((k_here; (with_reducible show wpAny _ _ (call (Value.ref 22) _) _ _ _); k_dflt (refine (period_ok (by omega) (by omega) (by omega) (by omega) (by omega) (by omega)).use (by k_asm) (by k_asm) (by k_asm) (by k_asm) (by k_asm) (by exact fun _ h => nomatch h) (by first | exact rfl | assumption) (by ktr_room) (by ktr_units) ?_); intro r' tl' h' tk' F' N' hL9 hO9 hP'; k_dflt (obtain ⟨e9, t', e8⟩ := hP'); subst e9; subst e8; clear hL9 hO9; (try simp only [List.nil_append] at N'); (try dsimp only); (try k_sweep); (try k_fold)))
  k_with "call builtin:dict.get" => ((k_here; k_dflt (refine get_T2 (knd := PySem.strKind _ _) (by k_asm) (by k_mem) (by k_asm) (by k_asm) (strKind_is _ _ _ _) (by assumption) ?_ ?_) <;> (first | (intro e9; subst e9) | (intro t9 u9 e9; subst e9))))
  k_fill
  intro dp un gd cn cs a ccd cl outer A₀ base h₀ L m s Q E news B F X N hsub T hk hdp hun hret
  refine wpAny_call ?_
  k_dflt walk_at "MINE enter"
  k_steps
  all_goals exact end_says hret N hsub (by assumption) (by assumption) (by assumption) (by assumption) (by assumption) (by assumption) (by k_mem) (by (try dsimp only [envOf]); omega) (by walk_at "MINE sub") (by assumption) (by assumption) (by walk_at "MINE at") (by walk_at "MINE at") (by walk_at "MINE at")
end
end Mine
end
section
namespace Mine
section
variable {w : World} {loose : List Str} {mean : ExcName → Option Value} {mg mb : Str → Option Value} {d : Addr} {o : Obj} {kvs : List (Str × Value)} {gi gh ga : Option (Int × Tok)} {bl : Bool}
set_option maxRecDepth 100000 in
set_option maxHeartbeats 8000000 in
theorem ntimer_none (lo : (d == sysModules) = false) (hd : o.IsDictOf (strKind PySem.Challenge.rw_no0048_01.row.prog w) kvs)
    (hi : (valueAt kvs (Str.ofString "initial")).getD .none = toV gi) (hh : (valueAt kvs (Str.ofString "handshake")).getD .none = toV gh) (ha : (valueAt kvs (Str.ofString "application")).getD .none = toV ga) :
    CallsTo w loose mean mg mb 55 [.ref d, .none, .bool bl] [(d, o)] 2 (IsTriple (NT (early (tm gi) (tm gh) (tm ga)) none bl)) := by
  unfold CallsTo
  w_top off
  k_with_none
  k_with "UnrEndW" => (k_dflt ktu_end)
  k_with "InvEndN" => (k_dflt kst_close)
  k_with "callWith" => (((with_reducible show wpAny _ _ (callWith _ (Value.builtin _) (_ :: _) _ _) _ _ _); refine callWith_method1 ?_))
  k_with "ite" => ((k_here; k_openite; first | refine ite_pos (by with_reducible assumption) ?_ | refine ite_neg (by with_reducible assumption) ?_ | refine ite_isFalse (by with_reducible assumption) ?_ | (refine split_dec ?_ ?_ <;> intro _) | (refine split_bool ?_ ?_ <;> intro _)))
  k_with "call builtin:list.pop" => ((k_here; k_dflt (refine pop0 (by k_asm) (by k_asm) (by assumption) (by assumption) (by assumption) (by k_upd) ?_); intro h' i' t' F' N' hI' hn'; (try k_sweep)))
  k_with "call builtin:dict.get" => ((k_here; k_dflt (refine get_T (knd := PySem.strKind _ _) (by k_asm) (by k_mem) (by k_asm) (by k_asm) (strKind_is _ _ _ _) (by assumption) ?_)))
  k_with "getMethod ref" => ((k_here; (with_reducible show wpAny _ _ (getMethod (Value.ref _) (Str.ofString "get") _) _ _ _); k_dflt (refine kdg_method (knd := PySem.strKind _ _) (by k_asm) (by k_mem) (by k_asm) ?_)))
  k_with "newTuple" => ((k_here; k_dflt (refine newTuple_L (by k_asm) (by k_asm) ?_ (by kmk_size)); intro D' h' F' N' l1 l2; (try k_lt l1); (try dsimp only [envOf] at l2); (try dsimp only [envOfC] at l2); (try k_lt2 l2); (try k_sweep)))
  k_with "newList" => ((k_here; k_dflt (refine newList_L (by k_asm) (by k_asm) ?_ (by kmk_size)); intro D' h' F' N' l1 l2; (try k_lt l1); (try dsimp only [envOf] at l2); (try dsimp only [envOfC] at l2); (try k_lt2 l2); (try k_sweep)))
  k_with "call type:list" => ((k_here; (with_reducible show wpAny _ _ (call (Value.type _) [Value.ref _]) _ _ _); k_dflt (refine list_copyL (by k_asm) (by k_asm) (by k_mem) ?_ (by ((rename IntsAre _ _ => hI9); (have q9 := IntsAre.length hI9); simp only [List.size_toArray]; rw [PySem.sizeLine_eq]; omega))); intro D' c' h' F' N' l1 l2; (try k_lt l1); (try dsimp only [envOf] at l2); (try dsimp only [envOfC] at l2); (try k_lt2 l2); (try k_sweep)))
  k_with "eval Dict nil nil" => ((k_here; k_dflt (refine newDict_L (by k_asm) (by k_asm) (TopRead.nolimit (by k_asm)) ?_); intro d' h' o' F' N' l1 l2 lo' hs' fs'; (try k_lt l1); (try dsimp only [envOf] at l2); (try dsimp only [envOfC] at l2); (try k_lt2 l2); (try k_sweep)))
  k_with "exec For Name Name cons nil" => ((k_here; (rename Fr _ _ _ _ => lF'); (with_unfolding_all refine For_turnsG lF' (by exact rfl) ?_)))
  k_with "eval ListComp" => ((k_here; (first | (lct_look; k_dflt (refine comp_X (_F₀ := by k_asm) (by with_unfolding_all rfl) (by decide) (by rfl) (by decide) (by rfl) ?_)) | (lcf_look; k_dflt (refine comp_XU (_F₀ := by k_asm) (by with_unfolding_all rfl) (by decide) (by rfl) (by decide) (by rfl) ?_)))))
  k_with "subscriptTail" => ((k_here; (with_reducible show wpAny _ _ (subscriptTail _ _ (Value.ref _) (Value.str _ _)) _ _ _); k_dflt (first | refine item_T (knd := PySem.strKind _ _) (by k_asm) (by k_mem) (by k_asm) (strKind_is _ _ _ _) (by assumption) ?_ | refine kda_item (knd := PySem.strKind _ _) (by k_asm) (by k_mem) (by k_asm) (strKind_is _ _ _ _) (by assumption) ?_)))
  k_with "SrcXU" => ((k_here; k_dflt (refine SrcXU.tupK (by rfl) (by k_asm) (by k_asm) (by k_asm) (by k_is) (by exact rfl) (by exact rfl) (by exact Nat.le_of_ble_eq_true rfl) ?_); intro g'; lcg_lit))
  k_with "SrcX" => ((k_here; k_dflt (first | (refine SrcX.tupN (by rfl) (by k_asm) (by k_asm) (by k_mem) (by exact Nat.le_of_ble_eq_true rfl) ?_) | (refine SrcX.keys (by rfl) (by k_asm) (by k_asm) (by k_mem) (by assumption) (by assumption) (by first | exact times_len (by assumption) | exact Nat.le_of_ble_eq_true rfl) ?_)); intro g'; (try lct_lit)))
  k_with "CompRestT" => ((with_unfolding_all (refine LCt.CompRestT.succ ?_; intro v' I' oI' C' oC' D' m' h' tk' E' hv' hC' hx' F' N' off' ne'; (obtain ⟨t9', hv9'⟩ := hv'; lcg_open hv9'); (have offc' := off'); (try simp only [LCg.Off3, and_true] at off'))))
  k_with "MINE enter" => ((refine enterR (by k_asm) (by k_asm) (by k_asm) (by k_asm) (by assumption) (by k_asm) (by exact rfl) (by exact rfl) (by assumption) (by k_is) (by k_is) (by ktr_room) (by exact BindsTo.of_eq rfl) (by exact locs rfl) ?_ (by exact rfl) (by exact rfl) (by exact rfl) (by decide); intro g' L' h' FG' F' N' B' X' T' hlt' hLL' hkept'; (try dsimp only); (try k_lift B'); (try k_fold)))
  k_with "MINE sub" => (exact SubL.mem (by k_subL))
  k_with "MINE early" => ((first | rfl | ((simp only [early, pick, tm, Option.map]; (repeat ((first | rw [if_pos (by omega)] | rw [if_neg (by omega)]); (try simp only [pick])))); done)))
  k_with "MINE slot" => (first | exact Slot.gone | exact Slot.nil | exact Slot.time _ _ (by omega) (by omega))
  k_with "MINE times" => (((try simp only [stored_nil, stored_ih, stored_ia, stored_ha, stored_iha]); first | exact ⟨[], [], [], rfl, by walk_at "MINE slot", by walk_at "MINE slot", by walk_at "MINE slot"⟩ | exact ⟨[_], [], [], rfl, by walk_at "MINE slot", by walk_at "MINE slot", by walk_at "MINE slot"⟩ | exact ⟨[], [_], [], rfl, by walk_at "MINE slot", by walk_at "MINE slot", by walk_at "MINE slot"⟩ | exact ⟨[], [], [_], rfl, by walk_at "MINE slot", by walk_at "MINE slot", by walk_at "MINE slot"⟩ | exact ⟨[_], [_], [], rfl, by walk_at "MINE slot", by walk_at "MINE slot", by walk_at "MINE slot"⟩ | exact ⟨[_], [], [_], rfl, by walk_at "MINE slot", by walk_at "MINE slot", by walk_at "MINE slot"⟩ | exact ⟨[], [_], [_], rfl, by walk_at "MINE slot", by walk_at "MINE slot", by walk_at "MINE slot"⟩ | exact ⟨[_], [_], [_], rfl, by walk_at "MINE slot", by walk_at "MINE slot", by walk_at "MINE slot"⟩))
  k_with "MINE enterC" => ((refine enterRC (by k_asm) (by k_asm) (by k_asm) (by k_asm) (by assumption) (by k_asm) (by exact rfl) (by exact rfl) (by assumption) (by k_is) (by k_is) (by ktr_room) (by exact BindsTo.of_eq rfl) (by exact rfl) (by decide +kernel) ?_ (by exact rfl) (by exact rfl) (by exact rfl); intro g' L' h' tk' cells' FG' F' N' Y' B' X' T' l1 hlt' hLL' hkept'; (try k_lt l1); k_cells Y'; (try simp only [List.cons_append, List.nil_append] at N'); (try dsimp only); (try k_lift B'); (try k_fold)))
  k_with "MINE due" => (first | rfl | exact due_t (by assumption) | exact due_f (by assumption) | exact due_g (by assumption) | exact due_n | exact due_f (not_t (by assumption)) | exact due_t (not_f (by assumption)) | exact due_t (not_nt (by assumption)))
  k_with "MINE at" => (((try simp only [stored_nil, stored_ih, stored_ia, stored_ha, stored_iha]); first | exact ⟨none, by with_unfolding_all rfl, by walk_at "MINE due"⟩ | exact ⟨some (_, _), by with_unfolding_all rfl, by walk_at "MINE due"⟩))
  k_with "MINE gts" => ((repeat (first | exact List.forall_mem_nil _ | refine List.forall_mem_cons.mpr ⟨by ((try dsimp only); (try dsimp only [envOf]); (try dsimp only [envOfC]); omega), ?_⟩)))
  k_with "MINE due2" => (first | exact due_t (k' := 0) (by assumption) | exact due_f (by assumption) | exact due_g (by assumption) | exact due_n | exact due_f (not_t (by assumption)) | exact due_t (not_f (by assumption)) | exact due_t (not_nt (by assumption)))
  k_with "MINE periods" => ((rename pick _ _ _ = _ => hE9; (repeat ((rename _ = (_ : Int) * 2 ^ (rangeKs _ _).length => q9); (try rw [period_of q9] at hE9); clear q9))))
  k_with "MINE now" => ((repeat ((rename _ = (_ : Int) * 2 ^ (rangeKs _ _).length => q9); (first | rw [period_of0 q9] | rw [period_of q9] | skip); clear q9)))
  k_with "call ref" => ((k_here; (with_reducible show wpAny _ _ (call (Value.ref 29) _) _ _ _); k_dflt (refine use1A (by k_asm) (by k_asm) (by k_asm) (by k_asm) (by k_asm) (by k_mem) (earliest_ok (by assumption) (by assumption) (by assumption) (by assumption) (by assumption)) (by first | exact rfl | assumption) (by ktr_room) (by ktr_units) ?_); intro r' tl' h' tk' F' N' hL9 hO9 hP'; (generalize hE9 : early _ _ _ = e9 at hP'); rcases e9 with _ | ⟨t9, s9⟩ <;> (first | (k_dflt (obtain ⟨e9, e8⟩ := hP'); subst e9; subst e8; clear hL9 hO9; (try simp only [List.nil_append] at N'); (try dsimp only); (try k_sweep); (try k_fold)) | (k_dflt (obtain ⟨x', k1', k2', e9, e8⟩ := hP'); subst e9; subst e8; (have l1 := hO9 _ (List.mem_singleton.mpr rfl)); (have l2 := hL9 _ (List.mem_singleton.mpr rfl)); clear hL9 hO9; (try dsimp only at l1 l2); (try k_lt l1); (try dsimp only [envOf] at l2); (try dsimp only [envOfC] at l2); (try k_lt2 l2); (try simp only [List.singleton_append, List.cons_append, List.nil_append] at N'); (try dsimp only); (try k_sweep); (try k_fold)))))
  k_fill
  intro dp un gd cn cs a ccd cl outer A₀ base h₀ L m s Q E news B F X N hsub T hk hdp hun hret
  refine wpAny_call ?_
  k_dflt walk_at "MINE enter"
  k_steps
  all_goals (first
    | exact end_any hret N hsub (by assumption) (by assumption) (by assumption) (by assumption) (by walk_at "MINE sub") (isTriple_none (nt_none (by assumption)))
    | exact end_triple hret N hsub (by assumption) (by assumption) (by assumption) (by assumption) (by assumption) (by assumption) (by k_mem) (by (try dsimp only [envOf]); omega) (by walk_at "MINE sub") (nt_loss (by assumption)))
set_option maxRecDepth 100000 in
set_option maxHeartbeats 8000000 in
theorem ntimer_some {x : Addr} {t : Int} {sp : Str} {k1 k2 : Tok} (lo : (d == sysModules) = false) (hd : o.IsDictOf (strKind PySem.Challenge.rw_no0048_01.row.prog w) kvs)
    (hi : (valueAt kvs (Str.ofString "initial")).getD .none = toV gi) (hh : (valueAt kvs (Str.ofString "handshake")).getD .none = toV gh) (ha : (valueAt kvs (Str.ofString "application")).getD .none = toV ga) :
    CallsTo w loose mean mg mb 55 [.ref d, .ref x, .bool bl] [(d, o), (x, tupOf [.int t k1, .str sp k2])] 2 (IsTriple (NT (early (tm gi) (tm gh) (tm ga)) (some (t, sp)) bl)) := by
  unfold CallsTo
  w_top off
  k_with_none
  k_with "UnrEndW" => (k_dflt ktu_end)
  k_with "InvEndN" => (k_dflt kst_close)
  k_with "callWith" => (((with_reducible show wpAny _ _ (callWith _ (Value.builtin _) (_ :: _) _ _) _ _ _); refine callWith_method1 ?_))
  k_with "ite" => ((k_here; k_openite; first | refine ite_pos (by with_reducible assumption) ?_ | refine ite_neg (by with_reducible assumption) ?_ | refine ite_isFalse (by with_reducible assumption) ?_ | (refine split_dec ?_ ?_ <;> intro _) | (refine split_bool ?_ ?_ <;> intro _)))
  k_with "call builtin:list.pop" => ((k_here; k_dflt (refine pop0 (by k_asm) (by k_asm) (by assumption) (by assumption) (by assumption) (by k_upd) ?_); intro h' i' t' F' N' hI' hn'; (try k_sweep)))
  k_with "call builtin:dict.get" => ((k_here; k_dflt (refine get_T (knd := PySem.strKind _ _) (by k_asm) (by k_mem) (by k_asm) (by k_asm) (strKind_is _ _ _ _) (by assumption) ?_)))
  k_with "getMethod ref" => ((k_here; (with_reducible show wpAny _ _ (getMethod (Value.ref _) (Str.ofString "get") _) _ _ _); k_dflt (refine kdg_method (knd := PySem.strKind _ _) (by k_asm) (by k_mem) (by k_asm) ?_)))
  k_with "newTuple" => ((k_here; k_dflt (refine newTuple_L (by k_asm) (by k_asm) ?_ (by kmk_size)); intro D' h' F' N' l1 l2; (try k_lt l1); (try dsimp only [envOf] at l2); (try dsimp only [envOfC] at l2); (try k_lt2 l2); (try k_sweep)))
  k_with "newList" => ((k_here; k_dflt (refine newList_L (by k_asm) (by k_asm) ?_ (by kmk_size)); intro D' h' F' N' l1 l2; (try k_lt l1); (try dsimp only [envOf] at l2); (try dsimp only [envOfC] at l2); (try k_lt2 l2); (try k_sweep)))
  k_with "call type:list" => ((k_here; (with_reducible show wpAny _ _ (call (Value.type _) [Value.ref _]) _ _ _); k_dflt (refine list_copyL (by k_asm) (by k_asm) (by k_mem) ?_ (by ((rename IntsAre _ _ => hI9); (have q9 := IntsAre.length hI9); simp only [List.size_toArray]; rw [PySem.sizeLine_eq]; omega))); intro D' c' h' F' N' l1 l2; (try k_lt l1); (try dsimp only [envOf] at l2); (try dsimp only [envOfC] at l2); (try k_lt2 l2); (try k_sweep)))
  k_with "eval Dict nil nil" => ((k_here; k_dflt (refine newDict_L (by k_asm) (by k_asm) (TopRead.nolimit (by k_asm)) ?_); intro d' h' o' F' N' l1 l2 lo' hs' fs'; (try k_lt l1); (try dsimp only [envOf] at l2); (try dsimp only [envOfC] at l2); (try k_lt2 l2); (try k_sweep)))
  k_with "exec For Name Name cons nil" => ((k_here; (rename Fr _ _ _ _ => lF'); (with_unfolding_all refine For_turnsG lF' (by exact rfl) ?_)))
  k_with "eval ListComp" => ((k_here; (first | (lct_look; k_dflt (refine comp_X (_F₀ := by k_asm) (by with_unfolding_all rfl) (by decide) (by rfl) (by decide) (by rfl) ?_)) | (lcf_look; k_dflt (refine comp_XU (_F₀ := by k_asm) (by with_unfolding_all rfl) (by decide) (by rfl) (by decide) (by rfl) ?_)))))
  k_with "subscriptTail" => ((k_here; (with_reducible show wpAny _ _ (subscriptTail _ _ (Value.ref _) (Value.str _ _)) _ _ _); k_dflt (first | refine item_T (knd := PySem.strKind _ _) (by k_asm) (by k_mem) (by k_asm) (strKind_is _ _ _ _) (by assumption) ?_ | refine kda_item (knd := PySem.strKind _ _) (by k_asm) (by k_mem) (by k_asm) (strKind_is _ _ _ _) (by assumption) ?_)))
  k_with "SrcXU" => ((k_here; k_dflt (refine SrcXU.tupK (by rfl) (by k_asm) (by k_asm) (by k_asm) (by k_is) (by exact rfl) (by exact rfl) (by exact Nat.le_of_ble_eq_true rfl) ?_); intro g'; lcg_lit))
  k_with "SrcX" => ((k_here; k_dflt (first | (refine SrcX.tupN (by rfl) (by k_asm) (by k_asm) (by k_mem) (by exact Nat.le_of_ble_eq_true rfl) ?_) | (refine SrcX.keys (by rfl) (by k_asm) (by k_asm) (by k_mem) (by assumption) (by assumption) (by first | exact times_len (by assumption) | exact Nat.le_of_ble_eq_true rfl) ?_)); intro g'; (try lct_lit)))
  k_with "CompRestT" => ((with_unfolding_all (refine LCt.CompRestT.succ ?_; intro v' I' oI' C' oC' D' m' h' tk' E' hv' hC' hx' F' N' off' ne'; (obtain ⟨t9', hv9'⟩ := hv'; lcg_open hv9'); (have offc' := off'); (try simp only [LCg.Off3, and_true] at off'))))
  k_with "MINE enter" => ((refine enterR (by k_asm) (by k_asm) (by k_asm) (by k_asm) (by assumption) (by k_asm) (by exact rfl) (by exact rfl) (by assumption) (by k_is) (by k_is) (by ktr_room) (by exact BindsTo.of_eq rfl) (by exact locs rfl) ?_ (by exact rfl) (by exact rfl) (by exact rfl) (by decide); intro g' L' h' FG' F' N' B' X' T' hlt' hLL' hkept'; (try dsimp only); (try k_lift B'); (try k_fold)))
  k_with "MINE sub" => (exact SubL.mem (by k_subL))
  k_with "MINE early" => ((first | rfl | ((simp only [early, pick, tm, Option.map]; (repeat ((first | rw [if_pos (by omega)] | rw [if_neg (by omega)]); (try simp only [pick])))); done)))
  k_with "MINE slot" => (first | exact Slot.gone | exact Slot.nil | exact Slot.time _ _ (by omega) (by omega))
  k_with "MINE times" => (((try simp only [stored_nil, stored_ih, stored_ia, stored_ha, stored_iha]); first | exact ⟨[], [], [], rfl, by walk_at "MINE slot", by walk_at "MINE slot", by walk_at "MINE slot"⟩ | exact ⟨[_], [], [], rfl, by walk_at "MINE slot", by walk_at "MINE slot", by walk_at "MINE slot"⟩ | exact ⟨[], [_], [], rfl, by walk_at "MINE slot", by walk_at "MINE slot", by walk_at "MINE slot"⟩ | exact ⟨[], [], [_], rfl, by walk_at "MINE slot", by walk_at "MINE slot", by walk_at "MINE slot"⟩ | exact ⟨[_], [_], [], rfl, by walk_at "MINE slot", by walk_at "MINE slot", by walk_at "MINE slot"⟩ | exact ⟨[_], [], [_], rfl, by walk_at "MINE slot", by walk_at "MINE slot", by walk_at "MINE slot"⟩ | exact ⟨[], [_], [_], rfl, by walk_at "MINE slot", by walk_at "MINE slot", by walk_at "MINE slot"⟩ | exact ⟨[_], [_], [_], rfl, by walk_at "MINE slot", by walk_at "MINE slot", by walk_at "MINE slot"⟩))
  k_with "MINE enterC" => ((refine enterRC (by k_asm) (by k_asm) (by k_asm) (by k_asm) (by assumption) (by k_asm) (by exact rfl) (by exact rfl) (by assumption) (by k_is) (by k_is) (by ktr_room) (by exact BindsTo.of_eq rfl) (by exact rfl) (by decide +kernel) ?_ (by exact rfl) (by exact rfl) (by exact rfl); intro g' L' h' tk' cells' FG' F' N' Y' B' X' T' l1 hlt' hLL' hkept'; (try k_lt l1); k_cells Y'; (try simp only [List.cons_append, List.nil_append] at N'); (try dsimp only); (try k_lift B'); (try k_fold)))
  k_with "MINE due" => (first | rfl | exact due_t (by assumption) | exact due_f (by assumption) | exact due_g (by assumption) | exact due_n | exact due_f (not_t (by assumption)) | exact due_t (not_f (by assumption)) | exact due_t (not_nt (by assumption)))
  k_with "MINE at" => (((try simp only [stored_nil, stored_ih, stored_ia, stored_ha, stored_iha]); first | exact ⟨none, by with_unfolding_all rfl, by walk_at "MINE due"⟩ | exact ⟨some (_, _), by with_unfolding_all rfl, by walk_at "MINE due"⟩))
  k_with "MINE gts" => ((repeat (first | exact List.forall_mem_nil _ | refine List.forall_mem_cons.mpr ⟨by ((try dsimp only); (try dsimp only [envOf]); (try dsimp only [envOfC]); omega), ?_⟩)))
  k_with "MINE due2" => (first | exact due_t (k' := 0) (by assumption) | exact due_f (by assumption) | exact due_g (by assumption) | exact due_n | exact due_f (not_t (by assumption)) | exact due_t (not_f (by assumption)) | exact due_t (not_nt (by assumption)))
  k_with "MINE periods" => ((rename pick _ _ _ = _ => hE9; (repeat ((rename _ = (_ : Int) * 2 ^ (rangeKs _ _).length => q9); (try rw [period_of q9] at hE9); clear q9))))
  k_with "MINE now" => ((repeat ((rename _ = (_ : Int) * 2 ^ (rangeKs _ _).length => q9); (first | rw [period_of0 q9] | rw [period_of q9] | skip); clear q9)))
  k_with "call ref" => ((k_here; (with_reducible show wpAny _ _ (call (Value.ref 29) _) _ _ _); k_dflt (refine use1A (by k_asm) (by k_asm) (by k_asm) (by k_asm) (by k_asm) (by k_mem) (earliest_ok (by assumption) (by assumption) (by assumption) (by assumption) (by assumption)) (by first | exact rfl | assumption) (by ktr_room) (by ktr_units) ?_); intro r' tl' h' tk' F' N' hL9 hO9 hP'; (generalize hE9 : early _ _ _ = e9 at hP'); rcases e9 with _ | ⟨t9, s9⟩ <;> (first | (k_dflt (obtain ⟨e9, e8⟩ := hP'); subst e9; subst e8; clear hL9 hO9; (try simp only [List.nil_append] at N'); (try dsimp only); (try k_sweep); (try k_fold)) | (k_dflt (obtain ⟨x', k1', k2', e9, e8⟩ := hP'); subst e9; subst e8; (have l1 := hO9 _ (List.mem_singleton.mpr rfl)); (have l2 := hL9 _ (List.mem_singleton.mpr rfl)); clear hL9 hO9; (try dsimp only at l1 l2); (try k_lt l1); (try dsimp only [envOf] at l2); (try dsimp only [envOfC] at l2); (try k_lt2 l2); (try simp only [List.singleton_append, List.cons_append, List.nil_append] at N'); (try dsimp only); (try k_sweep); (try k_fold)))))
  k_fill
  intro dp un gd cn cs a ccd cl outer A₀ base h₀ L m s Q E news B F X N hsub T hk hdp hun hret
  refine wpAny_call ?_
  k_dflt walk_at "MINE enter"
  k_steps
  all_goals (first
    | exact end_any hret N hsub (by assumption) (by assumption) (by assumption) (by assumption) (by walk_at "MINE sub") (isTriple_none (nt_block (by assumption) (by assumption)))
    | exact end_triple hret N hsub (by assumption) (by assumption) (by assumption) (by assumption) (by assumption) (by assumption) (by k_mem) (by (try dsimp only [envOf]); omega) (by walk_at "MINE sub") (by first | exact nt_loss (by assumption) | exact nt_probe (by assumption) (by assumption)))
end
end Mine
end
section
namespace Mine
section
variable {w : World} {loose : List Str} {mean : ExcName → Option Value} {mg mb : Str → Option Value} {d : Addr} {o : Obj} {kvs : List (Str × Value)} {gi gh ga : Option (Int × Tok)} {bl : Bool}
theorem ntimer_letter {et : Option (Int × Str)} {x : Addr} {ox : Obj} {r : Value} (P : PairAt et x ox r) (lo : (d == sysModules) = false) (hd : o.IsDictOf (strKind PySem.Challenge.rw_no0048_01.row.prog w) kvs)
    (hi : (valueAt kvs (Str.ofString "initial")).getD .none = toV gi) (hh : (valueAt kvs (Str.ofString "handshake")).getD .none = toV gh) (ha : (valueAt kvs (Str.ofString "application")).getD .none = toV ga) :
    CallsTo w loose mean mg mb 55 [.ref d, r, .bool bl] [(d, o), (x, ox)] 2 (IsTriple (NT (early (tm gi) (tm gh) (tm ga)) et bl)) := by
  cases et with
  | none =>
    have e : r = .none := P
    subst e
    exact (ntimer_none lo hd hi hh ha).weaken fun p hp => by rw [List.mem_singleton.mp hp]; exact List.mem_cons_self
  | some p =>
    obtain ⟨t, sp⟩ := p
    obtain ⟨k1, k2, rfl, rfl⟩ := P
    exact ntimer_some lo hd hi hh ha
theorem ntimer_go {et : Option (Int × Str)} {x : Addr} {ox : Obj} {r : Value}
    {dp un : Nat} {gd : Option (List Code)} {cn : Str} {cs : Scope} {a : Addr} {ccd : Value} {cl : List (Str × Addr)} {outer : List Env} {A₀ : Around} {base h₀ : Heap} {L : Addr} {m : Str → Option Value} {s : Shared} {Q E : Value → Shared → Prop} {news : List (Addr × Obj)}
    (P : PairAt et x ox r) (B : Below A₀ base outer h₀) (F : Fr h₀ L s.heap m) (X : (hd.heap_39 w.params).In h₀) (N : News h₀ L s.heap news) (T : Top hd.view_39 loose mean mg mb h₀) (m1 : (d, o) ∈ news) (m2 : (x, ox) ∈ news)
    (lo : (d == sysModules) = false) (hd : o.IsDictOf (strKind PySem.Challenge.rw_no0048_01.row.prog w) kvs)
    (hi : (valueAt kvs (Str.ofString "initial")).getD .none = toV gi) (hh : (valueAt kvs (Str.ofString "handshake")).getD .none = toV gh) (ha : (valueAt kvs (Str.ofString "application")).getD .none = toV ga)
    (hk : cs.kind = .function) (hdp : dp + 2 < recursionLimit) (hu : un + 8 * 2 < cLine) (ret : Ret h₀ L m news s Q (IsTriple (NT (early (tm gi) (tm gh) (tm ga)) et bl))) :
    wpAny (model PySem.Challenge.rw_no0048_01.row.prog w) (ktrTop dp un gd cn cs L a ccd cl outer) (call (.ref 55) [.ref d, r, .bool bl]) Q E s :=
  use2A B F X N T m1 m2 (ntimer_letter P lo hd hi hh ha) hk hdp hu ret
end
end Mine
end
section
namespace Mine
section
variable {w : World} {loose : List Str} {mean : ExcName → Option Value} {mg mb : Str → Option Value}
set_option maxRecDepth 100000 in
set_option maxHeartbeats 8000000 in
theorem pdue_ok {d : Addr} {o : Obj} {kvs : List (Str × Value)} {gi gh ga : Option (Int × Tok)} {b dl c now : Int} {tb td tc tn : Tok} {conf val keys : Bool} (hb0 : 0 ≤ b) (hb1 : b ≤ 10000) (hd0 : 0 ≤ dl) (hd1 : dl ≤ 10000) (hc0 : 0 ≤ c) (hc1 : c ≤ 4)
    (lo : (d == sysModules) = false) (hd : o.IsDictOf (strKind PySem.Challenge.rw_no0048_01.row.prog w) kvs)
    (hi : (valueAt kvs (Str.ofString "initial")).getD .none = toV gi) (hh : (valueAt kvs (Str.ofString "handshake")).getD .none = toV gh) (ha : (valueAt kvs (Str.ofString "application")).getD .none = toV ga) :
    CallsTo w loose mean mg mb 48 [.ref d, .int b tb, .int dl td, .int c tc, .bool conf, .bool val, .bool keys, .int now tn] [(d, o)] 3 (IsPair (PD (tm gi) (tm gh) (tm ga) b dl c conf val keys now)) := by
  unfold CallsTo
  w_top off
  k_with_none
  k_with "UnrEndW" => (k_dflt ktu_end)
  k_with "InvEndN" => (k_dflt kst_close)
  k_with "callWith" => (((with_reducible show wpAny _ _ (callWith _ (Value.builtin _) (_ :: _) _ _) _ _ _); refine callWith_method1 ?_))
  k_with "ite" => ((k_here; k_openite; first | refine ite_pos (by with_reducible assumption) ?_ | refine ite_neg (by with_reducible assumption) ?_ | refine ite_isFalse (by with_reducible assumption) ?_ | (refine split_dec ?_ ?_ <;> intro _) | (refine split_bool ?_ ?_ <;> intro _)))
  k_with "call builtin:list.pop" => ((k_here; k_dflt (refine pop0 (by k_asm) (by k_asm) (by assumption) (by assumption) (by assumption) (by k_upd) ?_); intro h' i' t' F' N' hI' hn'; (try k_sweep)))
  k_with "call builtin:dict.get" => ((k_here; k_dflt (refine get_T (knd := PySem.strKind _ _) (by k_asm) (by k_mem) (by k_asm) (by k_asm) (strKind_is _ _ _ _) (by assumption) ?_)))
  k_with "getMethod ref" => ((k_here; (with_reducible show wpAny _ _ (getMethod (Value.ref _) (Str.ofString "get") _) _ _ _); k_dflt (refine kdg_method (knd := PySem.strKind _ _) (by k_asm) (by k_mem) (by k_asm) ?_)))
  k_with "newTuple" => ((k_here; k_dflt (refine newTuple_L (by k_asm) (by k_asm) ?_ (by kmk_size)); intro D' h' F' N' l1 l2; (try k_lt l1); (try dsimp only [envOf] at l2); (try dsimp only [envOfC] at l2); (try k_lt2 l2); (try k_sweep)))
  k_with "newList" => ((k_here; k_dflt (refine newList_L (by k_asm) (by k_asm) ?_ (by kmk_size)); intro D' h' F' N' l1 l2; (try k_lt l1); (try dsimp only [envOf] at l2); (try dsimp only [envOfC] at l2); (try k_lt2 l2); (try k_sweep)))
  k_with "call type:list" => ((k_here; (with_reducible show wpAny _ _ (call (Value.type _) [Value.ref _]) _ _ _); k_dflt (refine list_copyL (by k_asm) (by k_asm) (by k_mem) ?_ (by ((rename IntsAre _ _ => hI9); (have q9 := IntsAre.length hI9); simp only [List.size_toArray]; rw [PySem.sizeLine_eq]; omega))); intro D' c' h' F' N' l1 l2; (try k_lt l1); (try dsimp only [envOf] at l2); (try dsimp only [envOfC] at l2); (try k_lt2 l2); (try k_sweep)))
  k_with "eval Dict nil nil" => ((k_here; k_dflt (refine newDict_L (by k_asm) (by k_asm) (TopRead.nolimit (by k_asm)) ?_); intro d' h' o' F' N' l1 l2 lo' hs' fs'; (try k_lt l1); (try dsimp only [envOf] at l2); (try dsimp only [envOfC] at l2); (try k_lt2 l2); (try k_sweep)))
  k_with "exec For Name Name cons nil" => ((k_here; (rename Fr _ _ _ _ => lF'); (with_unfolding_all refine For_turnsG lF' (by exact rfl) ?_)))
  k_with "eval ListComp" => ((k_here; (first | (lct_look; k_dflt (refine comp_X (_F₀ := by k_asm) (by with_unfolding_all rfl) (by decide) (by rfl) (by decide) (by rfl) ?_)) | (lcf_look; k_dflt (refine comp_XU (_F₀ := by k_asm) (by with_unfolding_all rfl) (by decide) (by rfl) (by decide) (by rfl) ?_)))))
  k_with "subscriptTail" => ((k_here; (with_reducible show wpAny _ _ (subscriptTail _ _ (Value.ref _) (Value.str _ _)) _ _ _); k_dflt (first | refine item_T (knd := PySem.strKind _ _) (by k_asm) (by k_mem) (by k_asm) (strKind_is _ _ _ _) (by assumption) ?_ | refine kda_item (knd := PySem.strKind _ _) (by k_asm) (by k_mem) (by k_asm) (strKind_is _ _ _ _) (by assumption) ?_)))
  k_with "SrcXU" => ((k_here; k_dflt (refine SrcXU.tupK (by rfl) (by k_asm) (by k_asm) (by k_asm) (by k_is) (by exact rfl) (by exact rfl) (by exact Nat.le_of_ble_eq_true rfl) ?_); intro g'; lcg_lit))
  k_with "SrcX" => ((k_here; k_dflt (first | (refine SrcX.tupN (by rfl) (by k_asm) (by k_asm) (by k_mem) (by exact Nat.le_of_ble_eq_true rfl) ?_) | (refine SrcX.keys (by rfl) (by k_asm) (by k_asm) (by k_mem) (by assumption) (by assumption) (by first | exact times_len (by assumption) | exact Nat.le_of_ble_eq_true rfl) ?_)); intro g'; (try lct_lit)))
  k_with "CompRestT" => ((with_unfolding_all (refine LCt.CompRestT.succ ?_; intro v' I' oI' C' oC' D' m' h' tk' E' hv' hC' hx' F' N' off' ne'; (obtain ⟨t9', hv9'⟩ := hv'; lcg_open hv9'); (have offc' := off'); (try simp only [LCg.Off3, and_true] at off'))))
  k_with "MINE enter" => ((refine enterR (by k_asm) (by k_asm) (by k_asm) (by k_asm) (by assumption) (by k_asm) (by exact rfl) (by exact rfl) (by assumption) (by k_is) (by k_is) (by ktr_room) (by exact BindsTo.of_eq rfl) (by exact locs rfl) ?_ (by exact rfl) (by exact rfl) (by exact rfl) (by decide); intro g' L' h' FG' F' N' B' X' T' hlt' hLL' hkept'; (try dsimp only); (try k_lift B'); (try k_fold)))
  k_with "MINE sub" => (exact SubL.mem (by k_subL))
  k_with "MINE early" => ((first | rfl | ((simp only [early, pick, tm, Option.map]; (repeat ((first | rw [if_pos (by omega)] | rw [if_neg (by omega)]); (try simp only [pick])))); done)))
  k_with "MINE slot" => (first | exact Slot.gone | exact Slot.nil | exact Slot.time _ _ (by omega) (by omega))
  k_with "MINE times" => (((try simp only [stored_nil, stored_ih, stored_ia, stored_ha, stored_iha]); first | exact ⟨[], [], [], rfl, by walk_at "MINE slot", by walk_at "MINE slot", by walk_at "MINE slot"⟩ | exact ⟨[_], [], [], rfl, by walk_at "MINE slot", by walk_at "MINE slot", by walk_at "MINE slot"⟩ | exact ⟨[], [_], [], rfl, by walk_at "MINE slot", by walk_at "MINE slot", by walk_at "MINE slot"⟩ | exact ⟨[], [], [_], rfl, by walk_at "MINE slot", by walk_at "MINE slot", by walk_at "MINE slot"⟩ | exact ⟨[_], [_], [], rfl, by walk_at "MINE slot", by walk_at "MINE slot", by walk_at "MINE slot"⟩ | exact ⟨[_], [], [_], rfl, by walk_at "MINE slot", by walk_at "MINE slot", by walk_at "MINE slot"⟩ | exact ⟨[], [_], [_], rfl, by walk_at "MINE slot", by walk_at "MINE slot", by walk_at "MINE slot"⟩ | exact ⟨[_], [_], [_], rfl, by walk_at "MINE slot", by walk_at "MINE slot", by walk_at "MINE slot"⟩))
  k_with "MINE enterC" => ((refine enterRC (by k_asm) (by k_asm) (by k_asm) (by k_asm) (by assumption) (by k_asm) (by exact rfl) (by exact rfl) (by assumption) (by k_is) (by k_is) (by ktr_room) (by exact BindsTo.of_eq rfl) (by exact rfl) (by decide +kernel) ?_ (by exact rfl) (by exact rfl) (by exact rfl); intro g' L' h' tk' cells' FG' F' N' Y' B' X' T' l1 hlt' hLL' hkept'; (try k_lt l1); k_cells Y'; (try simp only [List.cons_append, List.nil_append] at N'); (try dsimp only); (try k_lift B'); (try k_fold)))
  k_with "MINE due" => (first | rfl | exact due_t (by assumption) | exact due_f (by assumption) | exact due_g (by assumption) | exact due_n | exact due_f (not_t (by assumption)) | exact due_t (not_f (by assumption)) | exact due_t (not_nt (by assumption)))
  k_with "MINE at" => (((try simp only [stored_nil, stored_ih, stored_ia, stored_ha, stored_iha]); first | exact ⟨none, by with_unfolding_all rfl, by walk_at "MINE due"⟩ | exact ⟨some (_, _), by with_unfolding_all rfl, by walk_at "MINE due"⟩))
  k_with "MINE gts" => ((repeat (first | exact List.forall_mem_nil _ | refine List.forall_mem_cons.mpr ⟨by ((try dsimp only); (try dsimp only [envOf]); (try dsimp only [envOfC]); omega), ?_⟩)))
  k_with "MINE due2" => (first | exact due_t (k' := 0) (by assumption) | exact due_f (by assumption) | exact due_g (by assumption) | exact due_n | exact due_f (not_t (by assumption)) | exact due_t (not_f (by assumption)) | exact due_t (not_nt (by assumption)))
  k_with "MINE periods" => ((rename pick _ _ _ = _ => hE9; (repeat ((rename _ = (_ : Int) * 2 ^ (rangeKs _ _).length => q9); (try rw [period_of q9] at hE9); clear q9))))
  k_with "MINE now" => ((repeat ((rename _ = (_ : Int) * 2 ^ (rangeKs _ _).length => q9); (first | rw [period_of0 q9] | rw [period_of q9] | skip); clear q9)))
  k_with "call ref" => ((k_here; (with_reducible show wpAny _ _ (call (Value.ref 22) _) _ _ _); k_dflt (refine (period_ok (by omega) (by omega) (by omega) (by omega) (by omega) (by omega)).use (by k_asm) (by k_asm) (by k_asm) (by k_asm) (by k_asm) (by exact fun _ h => nomatch h) (by first | exact rfl | assumption) (by ktr_room) (by ktr_units) ?_); intro r' tl' h' tk' F' N' hL9 hO9 hP'; k_dflt (obtain ⟨e9, t', e8⟩ := hP'); subst e9; subst e8; clear hL9 hO9; (try simp only [List.nil_append] at N'); (try dsimp only); (try k_sweep); (try k_fold)))
  k_with "call ref" => ((k_here; (with_reducible show wpAny _ _ (call (Value.ref 29) _) _ _ _); k_dflt (refine use1A (by k_asm) (by k_asm) (by k_asm) (by k_asm) (by k_asm) (by k_mem) (earliest_ok (by assumption) (by assumption) (by assumption) (by assumption) (by assumption)) (by first | exact rfl | assumption) (by ktr_room) (by ktr_units) ?_); intro r' tl' h' tk' F' N' hL9 hO9 hP'; (generalize hE9 : early _ _ _ = e9 at hP'); rcases e9 with _ | ⟨t9, s9⟩ <;> (first | (k_dflt (obtain ⟨e9, e8⟩ := hP'); subst e9; subst e8; clear hL9 hO9; (try simp only [List.nil_append] at N'); (try dsimp only); (try k_sweep); (try k_fold)) | (k_dflt (obtain ⟨x', k1', k2', e9, e8⟩ := hP'); subst e9; subst e8; (have l1 := hO9 _ (List.mem_singleton.mpr rfl)); (have l2 := hL9 _ (List.mem_singleton.mpr rfl)); clear hL9 hO9; (try dsimp only at l1 l2); (try k_lt l1); (try dsimp only [envOf] at l2); (try dsimp only [envOfC] at l2); (try k_lt2 l2); (try simp only [List.singleton_append, List.cons_append, List.nil_append] at N'); (try dsimp only); (try k_sweep); (try k_fold)))))
  k_with "call ref" => ((k_here; (with_reducible show wpAny _ _ (call (Value.ref 41) _) _ _ _); k_dflt (refine use1A (by k_asm) (by k_asm) (by k_asm) (by k_asm) (by k_asm) (by k_mem) (anything_ok (by assumption) (by assumption) (by assumption) (by assumption) (by assumption)) (by first | exact rfl | assumption) (by ktr_room) (by ktr_units) ?_); intro r' tl' h' tk' F' N' hL9 hO9 hP'; k_dflt (obtain ⟨e9, e8⟩ := hP'); subst e9; subst e8; clear hL9 hO9; (try simp only [List.nil_append] at N'); (try dsimp only); (try k_sweep); (try k_fold)))
  k_with "call ref" => ((k_here; (with_reducible show wpAny _ _ (call (Value.ref 36) _) _ _ _); k_dflt (refine use1A (by k_asm) (by k_asm) (by k_asm) (by k_asm) (by k_asm) (by k_mem) (ptimes_ok (by omega) (by omega) (by omega) (by omega) (by omega) (by omega) (by assumption) (by assumption) (by assumption) (by assumption) (by assumption)) (by first | exact rfl | assumption) (by ktr_room) (by ktr_units) ?_); intro r' tl' h' tk' F' N' hL9 hO9 hP'; k_dflt (obtain ⟨d', o', kvs', e9, e8, hD', lo', ⟨gi', hi', ei'⟩, ⟨gh', hh', eh'⟩, ⟨ga', ha', ea'⟩⟩ := hP'); subst e9; subst e8; (have l1 := hO9 _ (List.mem_singleton.mpr rfl)); (have l2 := hL9 _ (List.mem_singleton.mpr rfl)); clear hL9 hO9; (try dsimp only at l1 l2); (try k_lt l1); (try dsimp only [envOf] at l2); (try dsimp only [envOfC] at l2); (try k_lt2 l2); (try simp only [List.singleton_append, List.cons_append, List.nil_append] at N'); (try dsimp only); (try k_sweep); (try k_fold)))
  k_fill
  intro dp un gd cn cs a ccd cl outer A₀ base h₀ L m s Q E news B F X N hsub T hk hdp hun hret
  refine wpAny_call ?_
  k_dflt walk_at "MINE enter"
  k_steps
  all_goals (first
    | exact end_any hret N hsub (by assumption) (by assumption) (by assumption) (by assumption) (by walk_at "MINE sub") (isPair_none (by first | exact pd_1 (by assumption) (by assumption) (by assumption) (by assumption) (by assumption) | exact pd_2 (by assumption) (by assumption)))
    | exact end_pair hret N hsub (by assumption) (by assumption) (by assumption) (by assumption) (by assumption) (by assumption) (by k_mem) (by (try dsimp only [envOf]); omega) (by walk_at "MINE sub") (by first | exact pd_1 (by assumption) (by assumption) (by assumption) (by assumption) (by assumption) | exact pd_3 (by assumption) (by assumption) (by assumption) | exact pd_4 (by assumption) (by assumption) (by assumption)))
end
end Mine
end
section
local macro_rules | `(tactic| lcg_off) => `(tactic| assumption)

namespace Mine
section
variable {w : World} {loose : List Str} {mean : ExcName → Option Value} {mg mb : Str → Option Value}
theorem dbl0 {w0 : Int} : w0 = w0 * 2 ^ ([] : List Int).length := by simp
theorem dbl1 {w0 wt n : Int} {pre : List Int} (h : wt = w0 * 2 ^ pre.length) : wt + wt = w0 * 2 ^ (pre ++ [n]).length := by
  subst h
  rw [List.length_append, List.length_singleton, Int.pow_succ, ← Int.mul_assoc]
  omega
theorem due_s {conf : Bool} {t x : Int} {u : Tok} (h : conf = true) : dueA conf (tm (some (t, u))) x = some (t + x) := by subst h; rfl
theorem due_z {conf : Bool} {x : Int} : dueA conf (tm none) x = none := by cases conf <;> rfl
theorem due_c {conf : Bool} {x : Int} {g : Option Int} (h : conf = false) : dueA conf g x = none := by subst h; rfl
theorem due_c2 {conf : Bool} {x : Int} {g : Option Int} (h : ¬conf = true) : dueA conf g x = none := due_c (by simpa using h)
/-- what a turn adds to the rows -/
def RowAt (e : Option Int) (n : Str) (x : Addr) (ox : Obj) (vs vs' : List Value) : Prop := match e with
  | none => vs' = vs
  | some t => ∃ k1 k2, vs' = vs ++ [.ref x] ∧ ox = tupOf [.int t k1, .str n k2]
theorem RowAt.len {e : Option Int} {n : Str} {x : Addr} {ox : Obj} {vs vs' : List Value} (h : RowAt e n x ox vs vs') : vs'.length ≤ vs.length + 1 := by
  cases e with
  | none =>
    have : vs' = vs := h
    subst this
    omega
  | some t =>
    obtain ⟨k1, k2, rfl, _⟩ := h
    rw [List.length_append, List.length_singleton]
    omega
def RowsC (w : World) (loose : List Str) (mean : ExcName → Option Value) (mg mb : Str → Option Value) (vs : List Value) (rows : List (Addr × Obj)) (e : Option (Int × Str)) : Prop :=
  ∀ (R : Addr) (n : Nat), CallsTo w loose mean mg mb 90 [.ref R] ((R, listOf vs.toArray n) :: rows) 1 (IsRow e rows)
theorem rows_mono {e : Option (Int × Str)} {rows rows' tl : List (Addr × Obj)} {r : Value} (h : IsRow e rows tl r) (hs : ∀ p ∈ rows, p ∈ rows') : IsRow e rows' tl r := by
  obtain ⟨h1, h2⟩ := h
  refine ⟨h1, ?_⟩
  cases e with
  | none => exact h2
  | some p =>
    obtain ⟨x, k, j, e1, hm⟩ := h2
    exact ⟨x, k, j, e1, hs _ hm⟩
theorem first_via {e : Option (Int × Str)} {R : Addr} {vs : List Value} {n : Nat} {rows rows' : List (Addr × Obj)} (C : CallsTo w loose mean mg mb 90 [.ref R] ((R, listOf vs.toArray n) :: rows) 1 (IsRow e rows)) (hs : ∀ p ∈ rows, p ∈ rows') :
    CallsTo w loose mean mg mb 90 [.ref R] ((R, listOf vs.toArray n) :: rows') 1 (IsRow e rows') :=
  fun _ _ _ _ _ _ _ _ _ _ _ _ _ _ _ _ _ _ B F X N sub T hk hd hu ret => C _ _ _ _ _ _ _ _ _ _ _ _ _ _ _ _ _ _ B F X N (fun p hp => by
    rcases List.mem_cons.mp hp with rfl | hp
    · exact sub _ List.mem_cons_self
    · exact sub _ (List.mem_cons_of_mem _ (hs _ hp))) T hk hd hu (fun r tl h' tk' F' N' a b P => ret r tl h' tk' F' N' a b (rows_mono P hs))
theorem rows_all {e1 e2 e3 : Option Int} {x1 x2 x3 : Addr} {o1 o2 o3 : Obj} {v1 v2 v3 : List Value} (r1 : RowAt e1 (Str.ofString "initial") x1 o1 [] v1) (r2 : RowAt e2 (Str.ofString "handshake") x2 o2 v1 v2) (r3 : RowAt e3 (Str.ofString "application") x3 o3 v2 v3) :
    RowsC w loose mean mg mb v3 [(x3, o3), (x2, o2), (x1, o1)] (early e1 e2 e3) := by
  intro R n
  cases e1 <;> cases e2 <;> cases e3 <;> simp only [RowAt] at r1 r2 r3
  · subst r1 r2 r3
    exact first_via first_ok0 (SubL.mem (by k_subL))
  · obtain ⟨_, _, r3, rfl⟩ := r3
    subst r1 r2 r3
    exact first_via first_ok1 (SubL.mem (by k_subL))
  · obtain ⟨_, _, r2, rfl⟩ := r2
    subst r1 r2 r3
    exact first_via first_ok1 (SubL.mem (by k_subL))
  · obtain ⟨_, _, r2, rfl⟩ := r2
    obtain ⟨_, _, r3, rfl⟩ := r3
    subst r1 r2 r3
    exact first_via first_ok2 (SubL.mem (by k_subL))
  · obtain ⟨_, _, r1, rfl⟩ := r1
    subst r1 r2 r3
    exact first_via first_ok1 (SubL.mem (by k_subL))
  · obtain ⟨_, _, r1, rfl⟩ := r1
    obtain ⟨_, _, r3, rfl⟩ := r3
    subst r1 r2 r3
    exact first_via first_ok2 (SubL.mem (by k_subL))
  · obtain ⟨_, _, r1, rfl⟩ := r1
    obtain ⟨_, _, r2, rfl⟩ := r2
    subst r1 r2 r3
    exact first_via first_ok2 (SubL.mem (by k_subL))
  · obtain ⟨_, _, r1, rfl⟩ := r1
    obtain ⟨_, _, r2, rfl⟩ := r2
    obtain ⟨_, _, r3, rfl⟩ := r3
    subst r1 r2 r3
    exact first_via first_ok3 (SubL.mem (by k_subL))
section
variable {dp un : Nat} {gd : Option (List Code)} {cn : Str} {cs : Scope} {a : Addr} {ccd : Value} {cl : List (Str × Addr)} {outer : List Env} {A₀ : Around} {base h₀ : Heap} {L : Addr} {m : Str → Option Value} {s : Shared} {Q E : Value → Shared → Prop} {news : List (Addr × Obj)}
theorem use_rows {vs : List Value} {rows : List (Addr × Obj)} {e : Option (Int × Str)} {R : Addr} {n : Nat} (C : RowsC w loose mean mg mb vs rows e) (B : Below A₀ base outer h₀) (F : Fr h₀ L s.heap m) (X : (hd.heap_39 w.params).In h₀) (N : News h₀ L s.heap news) (T : Top hd.view_39 loose mean mg mb h₀) (hm : (R, listOf vs.toArray n) ∈ news) (sub : ∀ p ∈ rows, p ∈ news)
    (hk : cs.kind = .function) (hd : dp + 1 < recursionLimit) (hu : un + 8 * 1 < cLine) (ret : Ret h₀ L m news s Q (IsRow e rows)) :
    wpAny (model PySem.Challenge.rw_no0048_01.row.prog w) (ktrTop dp un gd cn cs L a ccd cl outer) (call (.ref 90) [.ref R]) Q E s :=
  (C R n).use B F X N T (List.forall_mem_cons.mpr ⟨hm, sub⟩) hk hd hu ret
end
section
variable {h₀ g h' : Heap} {L L' : Addr} {m m' : Str → Option Value} {news news0 led rows : List (Addr × Obj)} {s : Shared} {Q : Value → Shared → Prop} {tk' : Nat}
theorem end_rows {e e' : Option (Int × Str)} {r : Value} (hP : IsRow e rows [] r) (hret : Ret h₀ L m news s Q (IsPair e')) (N : News h₀ L s.heap news) (sub : ∀ p ∈ news0, p ∈ news) (k : Kept g news news0) (F' : Fr g L' h' m') (kF : Fr h₀ L h' m) (kN : News h₀ L h' led)
    (hlt : ∀ q ∈ news, q.1 < L') (hLL : @LT.lt Nat _ L L') (hsub : ∀ p ∈ rows, p ∈ led) (hgt : ∀ p ∈ rows, @LT.lt Nat _ L' p.1) (h0 : ∀ p ∈ news0, p ∈ led) (he : e' = e) : Q r { s with heap := h', toks := tk' } := by
  subst he
  cases e' with
  | none =>
    have e1 : r = .none := hP.2
    subst e1
    exact end_any hret N sub k F' kF kN h0 (isPair_none rfl)
  | some p =>
    obtain ⟨t, sp⟩ := p
    obtain ⟨x, k1, k2, e1, hm⟩ := hP.2
    subst e1
    exact end_row hm hret N sub k F' kF kN hlt hLL hsub hgt h0 rfl
end
section
variable {prog : Program} {A : Around} {E : Value → Shared → Prop} {s : Shared} {h₀ : Heap} {L R : Addr} {m : Str → Option Value} {news rest : List (Addr × Obj)} {n : Str} {vs : List Value} {ei : Option Int}
theorem append_L {l : Addr} {nw news' : List (Addr × Obj)} {v : Value} {k : Nat} {Q : Value → Shared → Prop} (F : Fr h₀ L s.heap m) (N : News h₀ L s.heap nw) (U : Upd l (listOf vs.toArray k) (listOf (vs ++ [v]).toArray (k + 1)) nw news') (hlen : vs.length ≤ 3)
    (h : ∀ h', Fr h₀ L h' m → News h₀ L h' news' → Q .none { s with heap := h' }) : wpAny (model prog w) A (call (.builtin "list.append") [.ref l, v]) Q E s := by
  refine append_K F N (by rw [List.push_toArray]; exact U) h ?_
  rw [List.size_toArray, PySem.sizeLine_eq]
  omega
def JoinR (I : Addr) (h₀ : Heap) (L : Addr) (m : Str → Option Value) (rest : List (Addr × Obj)) (s : Shared) (R : Addr) (n : Str) (ei : Option Int) (vs : List Value) (fl : Flow) (s' : Shared) : Prop :=
  ∃ x ox vs' c h' tk', fl = .next ∧ s' = { s with heap := h', toks := tk' } ∧ Fr h₀ L h' m ∧ News h₀ L h' ((R, listOf vs'.toArray c) :: (x, ox) :: rest) ∧ RowAt ei n x ox vs vs' ∧ @LT.lt Nat _ L x ∧ @Ne Nat x I ∧ @Ne Nat x R
theorem join_R {M : Model} {t : Sem Flow} {Q : Flow → Shared → Prop} {o : Obj} {p q : Addr × Obj} {tl : List (Addr × Obj)} (F : Fr h₀ L s.heap m) (_N : News h₀ L s.heap (p :: q :: (R, o) :: tl)) (n : Str) (ei : Option Int) (vs : List Value)
    (h1 : Joining → wpAny M A t (JoinR p.1 h₀ L m (p :: q :: tl) s R n ei vs) E s)
    (h2 : ∀ x ox vs' c h' tk', Fr h₀ L h' m → News h₀ L h' ((R, listOf vs'.toArray c) :: (x, ox) :: p :: q :: tl) → RowAt ei n x ox vs vs' → @LT.lt Nat _ L x → @Ne Nat x p.1 → @Ne Nat x R → Q .next { s with heap := h', toks := tk' }) : wpAny M A t Q E s :=
  wpAny_mono (h1 .mk) (fun fl s' h => by
    obtain ⟨x, ox, vs', c, h', tk', rfl, rfl, F', N', hr, hx, hi, hR⟩ := h
    exact h2 x ox vs' c h' tk' F' N' hr hx hi hR) fun _ _ h => h
theorem join_R2 {M : Model} {t : Sem Flow} {Q : Flow → Shared → Prop} {o : Obj} {p : Addr × Obj} {tl : List (Addr × Obj)} (F : Fr h₀ L s.heap m) (_N : News h₀ L s.heap (p :: (R, o) :: tl)) (n : Str) (ei : Option Int) (vs : List Value)
    (h1 : Joining → wpAny M A t (JoinR p.1 h₀ L m (p :: tl) s R n ei vs) E s)
    (h2 : ∀ x ox vs' c h' tk', Fr h₀ L h' m → News h₀ L h' ((R, listOf vs'.toArray c) :: (x, ox) :: p :: tl) → RowAt ei n x ox vs vs' → @LT.lt Nat _ L x → @Ne Nat x p.1 → @Ne Nat x R → Q .next { s with heap := h', toks := tk' }) : wpAny M A t Q E s :=
  wpAny_mono (h1 .mk) (fun fl s' h => by
    obtain ⟨x, ox, vs', c, h', tk', rfl, rfl, F', N', hr, hx, hi, hR⟩ := h
    exact h2 x ox vs' c h' tk' F' N' hr hx hi hR) fun _ _ h => h
variable {h' : Heap} {tk' : Nat} {led : List (Addr × Obj)} {c : Nat}
theorem joinR_none {I x : Addr} {vs0 : List Value} (F' : Fr h₀ L h' m) (N' : News h₀ L h' led) (hR : (R, listOf vs.toArray c) ∈ led) (hx : (x, tupOf vs0) ∈ rest) (hlt : @LT.lt Nat _ L x) (hi : @Ne Nat x I) (hxR : @Ne Nat x R) (sub : ∀ p ∈ rest, p ∈ led) (he : ei = none) :
    JoinR I h₀ L m rest s R n ei vs .next { s with heap := h', toks := tk' } := by
  subst he
  refine ⟨x, tupOf vs0, vs, c, h', tk', rfl, rfl, F', fun p hp => ?_, rfl, hlt, hi, hxR⟩
  rcases List.mem_cons.mp hp with rfl | hp
  · exact N' _ hR
  · rcases List.mem_cons.mp hp with rfl | hp
    · exact N' _ (sub _ hx)
    · exact N' _ (sub _ hp)
theorem joinR_some {I x : Addr} {t : Int} {k1 k2 : Tok} (F' : Fr h₀ L h' m) (N' : News h₀ L h' led) (hR : (R, listOf (vs ++ [Value.ref x] : List Value).toArray c) ∈ led) (hx : (x, tupOf [.int t k1, .str n k2]) ∈ led) (hlt : @LT.lt Nat _ L x) (hi : @Ne Nat x I) (hxR : @Ne Nat x R) (sub : ∀ p ∈ rest, p ∈ led) (he : ei = some t) :
    JoinR I h₀ L m rest s R n ei vs .next { s with heap := h', toks := tk' } := by
  subst he
  refine ⟨x, _, _, c, h', tk', rfl, rfl, F', fun p hp => ?_, ⟨k1, k2, rfl, rfl⟩, hlt, hi, hxR⟩
  rcases List.mem_cons.mp hp with rfl | hp
  · exact N' _ hR
  · rcases List.mem_cons.mp hp with rfl | hp
    · exact N' _ hx
    · exact N' _ (sub _ hp)
end
end
end Mine
namespace Mine
section
variable {w : World} {loose : List Str} {mean : ExcName → Option Value} {mg mb : Str → Option Value}
set_option maxRecDepth 100000 in
set_option maxHeartbeats 8000000 in
theorem ldue_ok {d : Addr} {o : Obj} {kvs : List (Str × Value)} {gi gh ga : Option (Int × Tok)} {b dl c now : Int} {tb td tc tn : Tok} {conf val keys : Bool} (hb0 : 0 ≤ b) (hb1 : b ≤ 10000) (hd0 : 0 ≤ dl) (hd1 : dl ≤ 10000) (hc0 : 0 ≤ c) (hc1 : c ≤ 4)
    (lo : (d == sysModules) = false) (hd : o.IsDictOf (strKind PySem.Challenge.rw_no0048_01.row.prog w) kvs) (hT : TimesOf kvs gi gh ga) :
    CallsTo w loose mean mg mb 95 [.ref d, .int b tb, .int dl td, .int c tc, .bool conf, .bool val, .bool keys, .int now tn] [(d, o)] 12 (IsPair (PD (tm gi) (tm gh) (tm ga) b dl c conf val keys now)) := by
  unfold CallsTo
  w_top off
  k_with_none
  k_with "UnrEndW" => (k_dflt ktu_end)
  k_with "InvEndN" => (k_dflt kst_close)
  k_with "callWith" => (((with_reducible show wpAny _ _ (callWith _ (Value.builtin _) (_ :: _) _ _) _ _ _); refine callWith_method1 ?_))
  k_with "ite" => ((k_here; k_openite; first | refine ite_pos (by with_reducible assumption) ?_ | refine ite_neg (by with_reducible assumption) ?_ | refine ite_isFalse (by with_reducible assumption) ?_ | (refine split_dec ?_ ?_ <;> intro _) | (refine split_bool ?_ ?_ <;> intro _)))
  k_with "call builtin:list.pop" => ((k_here; k_dflt (refine pop0 (by k_asm) (by k_asm) (by assumption) (by assumption) (by assumption) (by k_upd) ?_); intro h' i' t' F' N' hI' hn'; (try k_sweep)))
  k_with "call builtin:dict.get" => ((k_here; k_dflt (refine get_T (knd := PySem.strKind _ _) (by k_asm) (by k_mem) (by k_asm) (by k_asm) (strKind_is _ _ _ _) (by assumption) ?_)))
  k_with "getMethod ref" => ((k_here; (with_reducible show wpAny _ _ (getMethod (Value.ref _) (Str.ofString "get") _) _ _ _); k_dflt (refine kdg_method (knd := PySem.strKind _ _) (by k_asm) (by k_mem) (by k_asm) ?_)))
  k_with "newTuple" => ((k_here; k_dflt (refine newTuple_L (by k_asm) (by k_asm) ?_ (by kmk_size)); intro D' h' F' N' l1 l2; (try k_lt l1); (try dsimp only [envOf] at l2); (try dsimp only [envOfC] at l2); (try k_lt2 l2); (try k_sweep)))
  k_with "newList" => ((k_here; k_dflt (refine newList_L (by k_asm) (by k_asm) ?_ (by kmk_size)); intro D' h' F' N' l1 l2; (try k_lt l1); (try dsimp only [envOf] at l2); (try dsimp only [envOfC] at l2); (try k_lt2 l2); (try k_sweep)))
  k_with "call type:list" => ((k_here; (with_reducible show wpAny _ _ (call (Value.type _) [Value.ref _]) _ _ _); k_dflt (refine list_copyL (by k_asm) (by k_asm) (by k_mem) ?_ (by ((rename IntsAre _ _ => hI9); (have q9 := IntsAre.length hI9); simp only [List.size_toArray]; rw [PySem.sizeLine_eq]; omega))); intro D' c' h' F' N' l1 l2; (try k_lt l1); (try dsimp only [envOf] at l2); (try dsimp only [envOfC] at l2); (try k_lt2 l2); (try k_sweep)))
  k_with "eval Dict nil nil" => ((k_here; k_dflt (refine newDict_L (by k_asm) (by k_asm) (TopRead.nolimit (by k_asm)) ?_); intro d' h' o' F' N' l1 l2 lo' hs' fs'; (try k_lt l1); (try dsimp only [envOf] at l2); (try dsimp only [envOfC] at l2); (try k_lt2 l2); (try k_sweep)))
  k_with "exec For Name Name cons nil" => ((k_here; (rename Fr _ _ _ _ => lF'); (with_unfolding_all refine For_turnsG lF' (by exact rfl) ?_)))
  k_with "eval ListComp" => ((k_here; (first | (lct_look; k_dflt (refine comp_X (_F₀ := by k_asm) (by with_unfolding_all rfl) (by decide) (by rfl) (by decide) (by rfl) ?_)) | (lcf_look; k_dflt (refine comp_XU (_F₀ := by k_asm) (by with_unfolding_all rfl) (by decide) (by rfl) (by decide) (by rfl) ?_)))))
  k_with "subscriptTail" => ((k_here; (with_reducible show wpAny _ _ (subscriptTail _ _ (Value.ref _) (Value.str _ _)) _ _ _); k_dflt (first | refine item_T (knd := PySem.strKind _ _) (by k_asm) (by k_mem) (by k_asm) (strKind_is _ _ _ _) (by assumption) ?_ | refine kda_item (knd := PySem.strKind _ _) (by k_asm) (by k_mem) (by k_asm) (strKind_is _ _ _ _) (by assumption) ?_)))
  k_with "SrcXU" => ((k_here; k_dflt (refine SrcXU.tupK (by rfl) (by k_asm) (by k_asm) (by k_asm) (by k_is) (by exact rfl) (by exact rfl) (by exact Nat.le_of_ble_eq_true rfl) ?_); intro g'; lcg_lit))
  k_with "SrcX" => ((k_here; k_dflt (first | (refine SrcX.tupN (by rfl) (by k_asm) (by k_asm) (by k_mem) (by exact Nat.le_of_ble_eq_true rfl) ?_) | (refine SrcX.keys (by rfl) (by k_asm) (by k_asm) (by k_mem) (by assumption) (by assumption) (by first | exact times_len (by assumption) | exact Nat.le_of_ble_eq_true rfl) ?_)); intro g'; (try lct_lit)))
  k_with "CompRestT" => ((with_unfolding_all (refine LCt.CompRestT.succ ?_; intro v' I' oI' C' oC' D' m' h' tk' E' hv' hC' hx' F' N' off' ne'; (obtain ⟨t9', hv9'⟩ := hv'; lcg_open hv9'); (have offc' := off'); (try simp only [LCg.Off3, and_true] at off'))))
  k_with "MINE enter" => ((refine enterR (by k_asm) (by k_asm) (by k_asm) (by k_asm) (by assumption) (by k_asm) (by exact rfl) (by exact rfl) (by assumption) (by k_is) (by k_is) (by ktr_room) (by exact BindsTo.of_eq rfl) (by exact locs rfl) ?_ (by exact rfl) (by exact rfl) (by exact rfl) (by decide); intro g' L' h' FG' F' N' B' X' T' hlt' hLL' hkept'; (try dsimp only); (try k_lift B'); (try k_fold)))
  k_with "MINE sub" => (exact SubL.mem (by k_subL))
  k_with "MINE early" => ((first | rfl | ((simp only [early, pick, tm, Option.map]; (repeat ((first | rw [if_pos (by omega)] | rw [if_neg (by omega)]); (try simp only [pick])))); done)))
  k_with "MINE slot" => (first | exact Slot.gone | exact Slot.nil | exact Slot.time _ _ (by omega) (by omega))
  k_with "MINE times" => (((try simp only [stored_nil, stored_ih, stored_ia, stored_ha, stored_iha]); first | exact ⟨[], [], [], rfl, by walk_at "MINE slot", by walk_at "MINE slot", by walk_at "MINE slot"⟩ | exact ⟨[_], [], [], rfl, by walk_at "MINE slot", by walk_at "MINE slot", by walk_at "MINE slot"⟩ | exact ⟨[], [_], [], rfl, by walk_at "MINE slot", by walk_at "MINE slot", by walk_at "MINE slot"⟩ | exact ⟨[], [], [_], rfl, by walk_at "MINE slot", by walk_at "MINE slot", by walk_at "MINE slot"⟩ | exact ⟨[_], [_], [], rfl, by walk_at "MINE slot", by walk_at "MINE slot", by walk_at "MINE slot"⟩ | exact ⟨[_], [], [_], rfl, by walk_at "MINE slot", by walk_at "MINE slot", by walk_at "MINE slot"⟩ | exact ⟨[], [_], [_], rfl, by walk_at "MINE slot", by walk_at "MINE slot", by walk_at "MINE slot"⟩ | exact ⟨[_], [_], [_], rfl, by walk_at "MINE slot", by walk_at "MINE slot", by walk_at "MINE slot"⟩))
  k_with "MINE enterC" => ((refine enterRC (by k_asm) (by k_asm) (by k_asm) (by k_asm) (by assumption) (by k_asm) (by exact rfl) (by exact rfl) (by assumption) (by k_is) (by k_is) (by ktr_room) (by exact BindsTo.of_eq rfl) (by exact rfl) (by decide +kernel) ?_ (by exact rfl) (by exact rfl) (by exact rfl); intro g' L' h' tk' cells' FG' F' N' Y' B' X' T' l1 hlt' hLL' hkept'; (try k_lt l1); k_cells Y'; (try simp only [List.cons_append, List.nil_append] at N'); (try dsimp only); (try k_lift B'); (try k_fold)))
  k_with "MINE due" => (first | rfl | exact due_t (by assumption) | exact due_f (by assumption) | exact due_g (by assumption) | exact due_n | exact due_f (not_t (by assumption)) | exact due_t (not_f (by assumption)) | exact due_t (not_nt (by assumption)))
  k_with "MINE at" => (((try simp only [stored_nil, stored_ih, stored_ia, stored_ha, stored_iha]); first | exact ⟨none, by with_unfolding_all rfl, by walk_at "MINE due"⟩ | exact ⟨some (_, _), by with_unfolding_all rfl, by walk_at "MINE due"⟩))
  k_with "MINE gts" => ((repeat (first | exact List.forall_mem_nil _ | refine List.forall_mem_cons.mpr ⟨by ((try dsimp only); (try dsimp only [envOf]); (try dsimp only [envOfC]); omega), ?_⟩)))
  k_with "MINE due2" => (first | exact due_t (k' := 0) (by assumption) | exact due_f (by assumption) | exact due_g (by assumption) | exact due_n | exact due_f (not_t (by assumption)) | exact due_t (not_f (by assumption)) | exact due_t (not_nt (by assumption)))
  k_with "MINE periods" => ((rename pick _ _ _ = _ => hE9; (repeat ((rename _ = (_ : Int) * 2 ^ (rangeKs _ _).length => q9); (try rw [period_of q9] at hE9); clear q9))))
  k_with "MINE now" => ((repeat ((rename _ = (_ : Int) * 2 ^ (rangeKs _ _).length => q9); (first | rw [period_of0 q9] | rw [period_of q9] | skip); clear q9)))
  k_with "call ref" => ((k_here; (with_reducible show wpAny _ _ (call (Value.ref 90) _) _ _ _); k_dflt (first | (refine (first_ok3).use (by k_asm) (by k_asm) (by k_asm) (by k_asm) (by k_asm) (by exact SubL.mem (by k_subL)) (by first | exact rfl | assumption) (by ktr_room) (by ktr_units) ?_) | (refine (first_ok2).use (by k_asm) (by k_asm) (by k_asm) (by k_asm) (by k_asm) (by exact SubL.mem (by k_subL)) (by first | exact rfl | assumption) (by ktr_room) (by ktr_units) ?_) | (refine (first_ok1).use (by k_asm) (by k_asm) (by k_asm) (by k_asm) (by k_asm) (by exact SubL.mem (by k_subL)) (by first | exact rfl | assumption) (by ktr_room) (by ktr_units) ?_) | (refine (first_ok0).use (by k_asm) (by k_asm) (by k_asm) (by k_asm) (by k_asm) (by exact SubL.mem (by k_subL)) (by first | exact rfl | assumption) (by ktr_room) (by ktr_units) ?_)); intro r' tl' h' tk' F' N' hL9 hO9 hP'; k_dflt (obtain ⟨e9, hP2'⟩ := hP'); subst e9; clear hL9 hO9; (first | (have e8 : r' = .none := hP2'; subst e8) | (generalize hE9 : pick _ _ _ = e7 at hP2'; rcases e7 with _ | ⟨t9, s9⟩; (exact (pick_some hE9).elim); k_dflt (obtain ⟨x', k1', k2', e8, hm'⟩ := hP2'); subst e8)); (try simp only [List.nil_append] at N'); (try dsimp only); (try k_sweep); (try k_fold)))
  k_with "CompRestT" => ((k_dflt (refine rest_keys inc1 ?_ ?_); rotate_left; intro ys' hys'; rotate_left; (intro n' v' t' I' oI' C' oC' D' m' h' tk' ys' E' hm' hC' hx' F' N' off' ne'); (have hval' := valueAt_mem (by assumption) hm'); rcases times_val (by assumption) hm' with e9 | ⟨t9, u9, e9⟩ <;> (subst e9; (have offc' := off'); (try simp only [LCg.Off3, and_true] at off'))))
  k_with "CompEnd" => (k_dflt lcg_end)
  k_with "And" => (first | exact ⟨rfl, rfl, _, rfl⟩ | exact ⟨rfl, rfl⟩)
  k_with "compareOp NotEq ref ref" => ((k_here; k_dflt (refine ne_empty (by k_asm) (by k_mem) (by k_mem) (by assumption) (times_lay (by assumption)) (by ktr_units) ?_); rw [times_any (by assumption)]; (try simp only [anyT, tm, Option.map_some, Option.map_none, Option.isSome_some, Option.isSome_none, Bool.or_true, Bool.true_or, Bool.or_false])))
  k_with "call builtin:dict.get" => ((k_here; k_dflt (refine get_T2 (knd := PySem.strKind _ _) (by k_asm) (by k_mem) (by k_asm) (by k_asm) (strKind_is _ _ _ _) (by assumption) ?_ ?_) <;> (first | (intro e9; subst e9) | (intro t9 u9 e9; subst e9))))
  k_with "call builtin:list.append" => ((k_here; k_dflt (refine append_L (by k_asm) (by k_asm) (by k_upd) (by first | assumption | exact Nat.zero_le _) ?_); intro h' F' N'; (try k_sweep)))
  k_with "MINE ei" => (((rename _ = (_ : Int) * 2 ^ (rangeKs _ _).length => q9); (try rw [period_of q9]); first | done | rfl | exact due_s (by assumption) | exact due_z | exact due_c (by assumption) | exact due_c2 (by assumption) | exact due_c (not_t (by assumption)) | exact due_s (not_f (by assumption)) | exact due_s (not_nt (by assumption))))
  k_with "JoinR" => (k_dflt (first | exact joinR_some (by k_asm) (by k_asm) (by k_mem) (by k_mem) (by (try dsimp only [envOfC]); omega) (by k_ne) (by k_ne) (by walk_at "MINE sub") (by walk_at "MINE ei") | exact joinR_none (by k_asm) (by k_asm) (by k_mem) (by k_mem) (by (try dsimp only [envOfC]); omega) (by k_ne) (by k_ne) (by walk_at "MINE sub") (by walk_at "MINE ei")))
  k_with "MINE to if" => (repeat' ((fail_if_success (with_reducible show wpAny _ _ (exec (PySem.Stmt.If _ _ _ ⟨68, _, _, _⟩) _) _ _ _)); (first | (k_unfold; (try dsimp only)) | (k_end; wrow_close) | walk1 | (dsimp only; walk1) | (leave1; walk_say "STEP leave1"; try dsimp only) | fail "no step")))
  k_with "call ref" => ((k_here; (with_reducible show wpAny _ _ (call (Value.ref 90) _) _ _ _); k_dflt (refine use_rows (by assumption) (by k_asm) (by k_asm) (by k_asm) (by k_asm) (by k_asm) (by k_mem) (by walk_at "MINE sub") (by first | exact rfl | assumption) (by ktr_room) (by ktr_units) ?_); intro r' tl' h' tk' F' N' hL9 hO9 hP'; (have e9 := hP'.1); subst e9; clear hL9 hO9; (try simp only [List.nil_append] at N'); (try dsimp only); (try k_sweep); (try k_fold)))
  k_fill
  intro dp un gd cn cs a ccd cl outer A₀ base h₀ L m s Q E news B F X N hsub T hk hdp hun hret
  obtain ⟨hi, hh, ha⟩ := times_get hT
  k_with "pyIter ref" => k_state_given ["wait!"] (fun w₀ pre wt => wt = w₀ * 2 ^ pre.length) "wait"
  k_with "state" => (first | exact dbl0 | exact dbl1 (by assumption))
  refine wpAny_call ?_
  k_dflt walk_at "MINE enterC"
  walk_at "MINE to if"
  rename Fr _ _ _ _ => F1
  rename News _ _ _ _ => N1
  refine join_R F1 N1 (Str.ofString "initial") ((tm gi).map (· + period b 0 c)) [] ?_ ?_
  · intro hJ
    (try k_fold)
    k_steps
  · clear F1 N1
    intro x1 o1 v1 c1 h1 tk1 F2 N2 r1 lx1 ix1 Rx1
    (try dsimp only at ix1)
    (try dsimp only [envOfC] at lx1)
    have len1 : v1.length ≤ 3 := Nat.le_trans r1.len (by simp)
    walk_at "MINE to if"
    rename Fr _ _ _ _ => F3
    rename News _ _ _ _ => N3
    refine join_R2 F3 N3 (Str.ofString "handshake") ((tm gh).map (· + period b 0 c)) v1 ?_ ?_
    · intro hJ
      (try k_fold)
      k_steps
    · clear F3 N3
      intro x2 o2 v2 c2 h2 tk2 F4 N4 r2 lx2 ix2 Rx2
      (try dsimp only at ix2)
      (try dsimp only [envOfC] at lx2)
      have len2 : v2.length ≤ 3 := by
        have q1 := r1.len
        have q2 := r2.len
        simp only [List.length_nil] at q1
        omega
      walk_at "MINE to if"
      rename Fr _ _ _ _ => F5
      rename News _ _ _ _ => N5
      refine join_R2 F5 N5 (Str.ofString "application") (dueA conf (tm ga) (period b dl c)) v2 ?_ ?_
      · intro hJ
        (try k_fold)
        k_steps
      · clear F5 N5
        intro x3 o3 v3 c3 h3 tk3 F6 N6 r3 lx3 ix3 Rx3
        (try dsimp only at ix3)
        (try dsimp only [envOfC] at lx3)
        have hC : RowsC w loose mean mg mb v3 _ _ := rows_all r1 r2 r3
        k_steps
        all_goals (first
          | exact end_rows (by assumption) hret N hsub (by assumption) (by assumption) (by assumption) (by assumption) (by assumption) (by assumption) (by walk_at "MINE sub") (by walk_at "MINE gts") (by walk_at "MINE sub") (pd_1 (by assumption) rfl rfl rfl rfl)
          | exact end_pair hret N hsub (by assumption) (by assumption) (by assumption) (by assumption) (by assumption) (by assumption) (by k_mem) (by (try dsimp only [envOfC]); omega) (by walk_at "MINE sub") (by walk_at "MINE now"; first | exact pd_3 (by assumption) (by assumption) (by assumption) | exact pd_4 (by assumption) (by assumption) (by assumption))
          | exact end_any hret N hsub (by assumption) (by assumption) (by assumption) (by assumption) (by walk_at "MINE sub") (isPair_none (pd_2 (by assumption) (by assumption))))
end
end Mine
end
section
local macro_rules | `(tactic| lcg_off) => `(tactic| ((rename LCg.Off3 _ _ _ _ => o9); exact o9))
namespace Mine
section
variable {w : World} {loose : List Str} {mean : ExcName → Option Value} {mg mb : Str → Option Value}
set_option maxRecDepth 100000 in
set_option maxHeartbeats 8000000 in
theorem tail100 {L fa : Addr} {cd : Value} {h₀ base : Heap} {m : Str → Option Value} {s : Shared} {Q : Flow → Shared → Prop} {E : Value → Shared → Prop} {da : Addr} {oa c1 c3 : Obj} {v3 : Option Value} {kvs : List (Str × Value)} {gi gh ga : Option (Int × Tok)} {b dl c : Int} {tb td tc : Tok}
    (H : LawAt w loose mean mg mb base h₀ L s.heap m [(da, oa), (L + 1 + 1 + 1, c3), (L + 1, c1)])
    (mbase : m (Str.ofString "base") = some (.int b tb)) (mdelay : m (Str.ofString "delay") = some (.int dl td)) (mcount : m (Str.ofString "count") = some (.int c tc))
    (ec1 : c1.data = .cell (some (.ref da))) (ec3 : c3.data = .cell v3)
    (lo : (da == sysModules) = false) (hDa : oa.IsDictOf (strKind PySem.Challenge.rw_no0048_01.row.prog w) kvs) (hTa : TimesOf kvs gi gh ga)
    (hb0 : 1000 ≤ b) (hb1 : b ≤ 10000) (hd0 : 0 ≤ dl) (hd1 : dl ≤ 10000) (hc0 : 0 ≤ c) (hc1 : c ≤ 4) (hlt : @LT.lt Nat _ (L + 1 + 1 + 1) da)
    (hend : ∀ h' tk' m', Fr h₀ L h' m' → Q (.ret (.bool true)) { s with heap := h', toks := tk' }) : lawWp w L fa cd 14 Q E s := by
  obtain ⟨B, F, X, N, T⟩ := H
  unfold lawWp
  revert X
  w_top off
  k_with_none
  k_with "UnrEndW" => (k_dflt ktu_end)
  k_with "InvEndN" => (k_dflt kst_close)
  k_with "callWith" => (((with_reducible show wpAny _ _ (callWith _ (Value.builtin _) (_ :: _) _ _) _ _ _); refine callWith_method1 ?_))
  k_with "ite" => ((k_here; k_openite; first | refine ite_pos (by with_reducible assumption) ?_ | refine ite_neg (by with_reducible assumption) ?_ | refine ite_isFalse (by with_reducible assumption) ?_ | (refine split_dec ?_ ?_ <;> intro _) | (refine split_bool ?_ ?_ <;> intro _)))
  k_with "call builtin:list.pop" => ((k_here; k_dflt (refine pop0 (by k_asm) (by k_asm) (by assumption) (by assumption) (by assumption) (by k_upd) ?_); intro h' i' t' F' N' hI' hn'; (try k_sweep)))
  k_with "call builtin:dict.get" => ((k_here; k_dflt (refine get_T (knd := PySem.strKind _ _) (by k_asm) (by k_mem) (by k_asm) (by k_asm) (strKind_is _ _ _ _) (by assumption) ?_)))
  k_with "getMethod ref" => ((k_here; (with_reducible show wpAny _ _ (getMethod (Value.ref _) (Str.ofString "get") _) _ _ _); k_dflt (refine kdg_method (knd := PySem.strKind _ _) (by k_asm) (by k_mem) (by k_asm) ?_)))
  k_with "newTuple" => ((k_here; k_dflt (refine newTuple_L (by k_asm) (by k_asm) ?_ (by kmk_size)); intro D' h' F' N' l1 l2; (try k_lt l1); (try dsimp only [envOf] at l2); (try dsimp only [envOfC] at l2); (try k_lt2 l2); (try k_sweep)))
  k_with "newList" => ((k_here; k_dflt (refine newList_L (by k_asm) (by k_asm) ?_ (by kmk_size)); intro D' h' F' N' l1 l2; (try k_lt l1); (try dsimp only [envOf] at l2); (try dsimp only [envOfC] at l2); (try k_lt2 l2); (try k_sweep)))
  k_with "call type:list" => ((k_here; (with_reducible show wpAny _ _ (call (Value.type _) [Value.ref _]) _ _ _); k_dflt (refine list_copyL (by k_asm) (by k_asm) (by k_mem) ?_ (by ((rename IntsAre _ _ => hI9); (have q9 := IntsAre.length hI9); simp only [List.size_toArray]; rw [PySem.sizeLine_eq]; omega))); intro D' c' h' F' N' l1 l2; (try k_lt l1); (try dsimp only [envOf] at l2); (try dsimp only [envOfC] at l2); (try k_lt2 l2); (try k_sweep)))
  k_with "eval Dict nil nil" => ((k_here; k_dflt (refine newDict_L (by k_asm) (by k_asm) (TopRead.nolimit (by k_asm)) ?_); intro d' h' o' F' N' l1 l2 lo' hs' fs'; (try k_lt l1); (try dsimp only [envOf] at l2); (try dsimp only [envOfC] at l2); (try k_lt2 l2); (try k_sweep)))
  k_with "exec For Name Name cons nil" => ((k_here; (rename Fr _ _ _ _ => lF'); (with_unfolding_all refine For_turnsG lF' (by exact rfl) ?_)))
  k_with "eval ListComp" => ((k_here; (first | (lct_look; k_dflt (refine comp_X (_F₀ := by k_asm) (by with_unfolding_all rfl) (by decide) (by rfl) (by decide) (by rfl) ?_)) | (lcf_look; k_dflt (refine comp_XU (_F₀ := by k_asm) (by with_unfolding_all rfl) (by decide) (by rfl) (by decide) (by rfl) ?_)))))
  k_with "subscriptTail" => ((k_here; (with_reducible show wpAny _ _ (subscriptTail _ _ (Value.ref _) (Value.str _ _)) _ _ _); k_dflt (first | refine item_T (knd := PySem.strKind _ _) (by k_asm) (by k_mem) (by k_asm) (strKind_is _ _ _ _) (by assumption) ?_ | refine kda_item (knd := PySem.strKind _ _) (by k_asm) (by k_mem) (by k_asm) (strKind_is _ _ _ _) (by assumption) ?_)))
  k_with "SrcXU" => ((k_here; k_dflt (refine SrcXU.tupK (by rfl) (by k_asm) (by k_asm) (by k_asm) (by k_is) (by exact rfl) (by exact rfl) (by exact Nat.le_of_ble_eq_true rfl) ?_); intro g'; lcg_lit))
  k_with "SrcX" => ((k_here; k_dflt (first | (refine SrcX.tupN (by rfl) (by k_asm) (by k_asm) (by k_mem) (by exact Nat.le_of_ble_eq_true rfl) ?_) | (refine SrcX.keys (by rfl) (by k_asm) (by k_asm) (by k_mem) (by assumption) (by assumption) (by first | exact times_len (by assumption) | exact Nat.le_of_ble_eq_true rfl) ?_)); intro g'; (try lct_lit)))
  k_with "CompRestT" => ((with_unfolding_all (refine LCt.CompRestT.succ ?_; intro v' I' oI' C' oC' D' m' h' tk' E' hv' hC' hx' F' N' off' ne'; (obtain ⟨t9', hv9'⟩ := hv'; lcg_open hv9'); (have offc' := off'); (try simp only [LCg.Off3, and_true] at off'))))
  k_with "MINE enter" => ((refine enterR (by k_asm) (by k_asm) (by k_asm) (by k_asm) (by assumption) (by k_asm) (by exact rfl) (by exact rfl) (by assumption) (by k_is) (by k_is) (by ktr_room) (by exact BindsTo.of_eq rfl) (by exact locs rfl) ?_ (by exact rfl) (by exact rfl) (by exact rfl) (by decide); intro g' L' h' FG' F' N' B' X' T' hlt' hLL' hkept'; (try dsimp only); (try k_lift B'); (try k_fold)))
  k_with "MINE sub" => (exact SubL.mem (by k_subL))
  k_with "MINE early" => ((first | rfl | ((simp only [early, pick, tm, Option.map]; (repeat ((first | rw [if_pos (by omega)] | rw [if_neg (by omega)]); (try simp only [pick])))); done)))
  k_with "MINE slot" => (first | exact Slot.gone | exact Slot.nil | exact Slot.time _ _ (by omega) (by omega))
  k_with "MINE times" => (((try simp only [stored_nil, stored_ih, stored_ia, stored_ha, stored_iha]); first | exact ⟨[], [], [], rfl, by walk_at "MINE slot", by walk_at "MINE slot", by walk_at "MINE slot"⟩ | exact ⟨[_], [], [], rfl, by walk_at "MINE slot", by walk_at "MINE slot", by walk_at "MINE slot"⟩ | exact ⟨[], [_], [], rfl, by walk_at "MINE slot", by walk_at "MINE slot", by walk_at "MINE slot"⟩ | exact ⟨[], [], [_], rfl, by walk_at "MINE slot", by walk_at "MINE slot", by walk_at "MINE slot"⟩ | exact ⟨[_], [_], [], rfl, by walk_at "MINE slot", by walk_at "MINE slot", by walk_at "MINE slot"⟩ | exact ⟨[_], [], [_], rfl, by walk_at "MINE slot", by walk_at "MINE slot", by walk_at "MINE slot"⟩ | exact ⟨[], [_], [_], rfl, by walk_at "MINE slot", by walk_at "MINE slot", by walk_at "MINE slot"⟩ | exact ⟨[_], [_], [_], rfl, by walk_at "MINE slot", by walk_at "MINE slot", by walk_at "MINE slot"⟩))
  k_with "MINE enterC" => ((refine enterRC (by k_asm) (by k_asm) (by k_asm) (by k_asm) (by assumption) (by k_asm) (by exact rfl) (by exact rfl) (by assumption) (by k_is) (by k_is) (by ktr_room) (by exact BindsTo.of_eq rfl) (by exact rfl) (by decide +kernel) ?_ (by exact rfl) (by exact rfl) (by exact rfl); intro g' L' h' tk' cells' FG' F' N' Y' B' X' T' l1 hlt' hLL' hkept'; (try k_lt l1); k_cells Y'; (try simp only [List.cons_append, List.nil_append] at N'); (try dsimp only); (try k_lift B'); (try k_fold)))
  k_with "MINE due" => (first | rfl | exact due_t (by assumption) | exact due_f (by assumption) | exact due_g (by assumption) | exact due_n | exact due_f (not_t (by assumption)) | exact due_t (not_f (by assumption)) | exact due_t (not_nt (by assumption)))
  k_with "MINE at" => (((try simp only [stored_nil, stored_ih, stored_ia, stored_ha, stored_iha]); first | exact ⟨none, by with_unfolding_all rfl, by walk_at "MINE due"⟩ | exact ⟨some (_, _), by with_unfolding_all rfl, by walk_at "MINE due"⟩))
  k_with "MINE gts" => ((repeat (first | exact List.forall_mem_nil _ | refine List.forall_mem_cons.mpr ⟨by ((try dsimp only); (try dsimp only [envOf]); (try dsimp only [envOfC]); omega), ?_⟩)))
  k_with "MINE due2" => (first | exact due_t (k' := 0) (by assumption) | exact due_f (by assumption) | exact due_g (by assumption) | exact due_n | exact due_f (not_t (by assumption)) | exact due_t (not_f (by assumption)) | exact due_t (not_nt (by assumption)))
  k_with "MINE periods" => ((rename pick _ _ _ = _ => hE9; (repeat ((rename _ = (_ : Int) * 2 ^ (rangeKs _ _).length => q9); (try rw [period_of q9] at hE9); clear q9))))
  k_with "MINE now" => ((repeat ((rename _ = (_ : Int) * 2 ^ (rangeKs _ _).length => q9); (first | rw [period_of0 q9] | rw [period_of q9] | skip); clear q9)))
  k_with "eval Name" => ((k_here; k_dflt (refine nameX_L (by k_asm) (by assumption) ?_ (by rfl) (by rfl))))
  k_with "call ref" => ((k_here; (with_reducible show wpAny _ _ (call (Value.ref 36) _) _ _ _); k_dflt (refine use1A (by k_asm) (by k_asm) (by k_asm) (by k_asm) (by k_asm) (by k_mem) (ptimes_ok (by omega) (by omega) (by omega) (by omega) (by omega) (by omega) (by assumption) (by assumption) (by assumption) (by assumption) (by assumption)) (by first | exact rfl | assumption) (by ktr_room) (by ktr_units) ?_); intro r' tl' h' tk' F' N' hL9 hO9 hP'; k_dflt (obtain ⟨d', o', kvs', e9, e8, hD', lo', hAi', hAh', hAa'⟩ := hP'); subst e9; subst e8; (have l1 := hO9 _ (List.mem_singleton.mpr rfl)); (have l2 := hL9 _ (List.mem_singleton.mpr rfl)); clear hL9 hO9; (try dsimp only at l1 l2); (try k_lt l1); (try dsimp only [envOf] at l2); (try dsimp only [envOfC] at l2); (try k_lt2 l2); (try simp only [List.singleton_append, List.cons_append, List.nil_append] at N'); (try dsimp only); (try k_sweep); (try k_fold)))
  k_with "subscriptTail" => ((k_here; (with_reducible show wpAny _ _ (subscriptTail _ _ (Value.ref _) (Value.str _ _)) _ _ _); k_dflt (first | refine item_T (knd := PySem.strKind _ _) (by k_asm) (by k_mem) (by k_asm) (strKind_is _ _ _ _) (by assumption) ?_ | refine kda_item (knd := PySem.strKind _ _) (by k_asm) (by k_mem) (by k_asm) (strKind_is _ _ _ _) (by assumption) ?_ | (refine item_At (knd := PySem.strKind _ _) (by k_asm) (by k_mem) (by k_asm) (strKind_is _ _ _ _) (by assumption) ?_; intro t7'; (try dsimp only [tm, dueA, Option.map])))))
  k_with "CompEnd" => (k_dflt lcg_end)
  k_with "And" => (first | exact ⟨rfl, rfl, _, rfl⟩ | exact ⟨rfl, rfl⟩)
  k_with "CompRestT" => ((k_dflt (refine rest_keys (fun _ => false) ?_ ?_); rotate_left; (intro ys' hys'); rotate_left; (intro n' v' t' I' oI' C' oC' D' m' h' tk' ys' E' hm' hC' hx' F' N' off' ne'); (have hval' := valueAt_mem (by assumption) hm'); (rcases times_mem (by assumption) hm' with ⟨e7, e8, e9⟩ | ⟨e7, e8, e9⟩ | ⟨e7, e8, e9⟩) <;> subst e7 <;> subst e8 <;> (rcases e9 with e9 | ⟨t9, u9, e9, b8, b9⟩) <;> (subst e9; (try simp only [toV] at hval'))))
  k_with "compareOp Eq ref ref" => ((k_here; k_dflt (refine eq_empty (by k_asm) (by k_mem) (by k_mem) (by assumption) (times_lay (by assumption)) (by ktr_units) ?_)))
  k_fill
  intro X
  have p1 : 0 < period b 0 c := period_pos (by omega)
  have p2 : 0 < period b dl c := period_pos (by omega)
  obtain ⟨hi, hh, ha⟩ := times_get hTa
  generalize hB : lawBody.drop 14 = bs
  conv at hB => lhs; whnf
  subst hB
  generalize hS : lawScope = sc
  conv at hS => lhs; whnf
  subst hS
  k_steps
  all_goals exact ret_true (hend _ _ _ (by assumption)) none_empty
end
end Mine
end
section
local macro_rules | `(tactic| lcg_off) => `(tactic| ((rename LCg.Off3 _ _ _ _ => o9); exact o9))


namespace Mine
section
variable {w : World} {loose : List Str} {mean : ExcName → Option Value} {mg mb : Str → Option Value}
set_option maxRecDepth 100000 in
set_option maxHeartbeats 8000000 in
theorem tail95 {L fa : Addr} {cd : Value} {h₀ base : Heap} {m : Str → Option Value} {s : Shared} {Q : Flow → Shared → Prop} {E : Value → Shared → Prop} {da : Addr} {oa c1 c3 : Obj} {v3 : Option Value} {kvs : List (Str × Value)} {gi gh ga : Option (Int × Tok)} {b dl c : Int} {tb td tc : Tok}
    (H : LawAt w loose mean mg mb base h₀ L s.heap m [(da, oa), (L + 1 + 1 + 1, c3), (L + 1, c1)])
    (mbase : m (Str.ofString "base") = some (.int b tb)) (mdelay : m (Str.ofString "delay") = some (.int dl td)) (mcount : m (Str.ofString "count") = some (.int c tc))
    (ec1 : c1.data = .cell (some (.ref da))) (ec3 : c3.data = .cell v3)
    (lo : (da == sysModules) = false) (hDa : oa.IsDictOf (strKind PySem.Challenge.rw_no0048_01.row.prog w) kvs) (hTa : TimesOf kvs gi gh ga)
    (hb0 : 1000 ≤ b) (hb1 : b ≤ 10000) (hd0 : 0 ≤ dl) (hd1 : dl ≤ 10000) (hc0 : 0 ≤ c) (hc1 : c ≤ 3) (hlt : @LT.lt Nat _ (L + 1 + 1 + 1) da)
    (hend : ∀ h' tk' m', Fr h₀ L h' m' → Q (.ret (.bool true)) { s with heap := h', toks := tk' }) : lawWp w L fa cd 11 Q E s := by
  obtain ⟨B, F, X, N, T⟩ := H
  unfold lawWp
  revert X
  w_top off
  k_with_none
  k_with "UnrEndW" => (k_dflt ktu_end)
  k_with "InvEndN" => (k_dflt kst_close)
  k_with "callWith" => (((with_reducible show wpAny _ _ (callWith _ (Value.builtin _) (_ :: _) _ _) _ _ _); refine callWith_method1 ?_))
  k_with "ite" => ((k_here; k_openite; first | refine ite_pos (by with_reducible assumption) ?_ | refine ite_neg (by with_reducible assumption) ?_ | refine ite_isFalse (by with_reducible assumption) ?_ | (refine split_dec ?_ ?_ <;> intro _) | (refine split_bool ?_ ?_ <;> intro _)))
  k_with "call builtin:list.pop" => ((k_here; k_dflt (refine pop0 (by k_asm) (by k_asm) (by assumption) (by assumption) (by assumption) (by k_upd) ?_); intro h' i' t' F' N' hI' hn'; (try k_sweep)))
  k_with "call builtin:dict.get" => ((k_here; k_dflt (refine get_T (knd := PySem.strKind _ _) (by k_asm) (by k_mem) (by k_asm) (by k_asm) (strKind_is _ _ _ _) (by assumption) ?_)))
  k_with "getMethod ref" => ((k_here; (with_reducible show wpAny _ _ (getMethod (Value.ref _) (Str.ofString "get") _) _ _ _); k_dflt (refine kdg_method (knd := PySem.strKind _ _) (by k_asm) (by k_mem) (by k_asm) ?_)))
  k_with "newTuple" => ((k_here; k_dflt (refine newTuple_L (by k_asm) (by k_asm) ?_ (by kmk_size)); intro D' h' F' N' l1 l2; (try k_lt l1); (try dsimp only [envOf] at l2); (try dsimp only [envOfC] at l2); (try k_lt2 l2); (try k_sweep)))
  k_with "newList" => ((k_here; k_dflt (refine newList_L (by k_asm) (by k_asm) ?_ (by kmk_size)); intro D' h' F' N' l1 l2; (try k_lt l1); (try dsimp only [envOf] at l2); (try dsimp only [envOfC] at l2); (try k_lt2 l2); (try k_sweep)))
  k_with "call type:list" => ((k_here; (with_reducible show wpAny _ _ (call (Value.type _) [Value.ref _]) _ _ _); k_dflt (refine list_copyL (by k_asm) (by k_asm) (by k_mem) ?_ (by ((rename IntsAre _ _ => hI9); (have q9 := IntsAre.length hI9); simp only [List.size_toArray]; rw [PySem.sizeLine_eq]; omega))); intro D' c' h' F' N' l1 l2; (try k_lt l1); (try dsimp only [envOf] at l2); (try dsimp only [envOfC] at l2); (try k_lt2 l2); (try k_sweep)))
  k_with "eval Dict nil nil" => ((k_here; k_dflt (refine newDict_L (by k_asm) (by k_asm) (TopRead.nolimit (by k_asm)) ?_); intro d' h' o' F' N' l1 l2 lo' hs' fs'; (try k_lt l1); (try dsimp only [envOf] at l2); (try dsimp only [envOfC] at l2); (try k_lt2 l2); (try k_sweep)))
  k_with "exec For Name Name cons nil" => ((k_here; (rename Fr _ _ _ _ => lF'); (with_unfolding_all refine For_turnsG lF' (by exact rfl) ?_)))
  k_with "eval ListComp" => ((k_here; (first | (lct_look; k_dflt (refine comp_X (_F₀ := by k_asm) (by with_unfolding_all rfl) (by decide) (by rfl) (by decide) (by rfl) ?_)) | (lcf_look; k_dflt (refine comp_XU (_F₀ := by k_asm) (by with_unfolding_all rfl) (by decide) (by rfl) (by decide) (by rfl) ?_)))))
  k_with "subscriptTail" => ((k_here; (with_reducible show wpAny _ _ (subscriptTail _ _ (Value.ref _) (Value.str _ _)) _ _ _); k_dflt (first | refine item_T (knd := PySem.strKind _ _) (by k_asm) (by k_mem) (by k_asm) (strKind_is _ _ _ _) (by assumption) ?_ | refine kda_item (knd := PySem.strKind _ _) (by k_asm) (by k_mem) (by k_asm) (strKind_is _ _ _ _) (by assumption) ?_)))
  k_with "SrcXU" => ((k_here; k_dflt (refine SrcXU.tupK (by rfl) (by k_asm) (by k_asm) (by k_asm) (by k_is) (by exact rfl) (by exact rfl) (by exact Nat.le_of_ble_eq_true rfl) ?_); intro g'; lcg_lit))
  k_with "SrcX" => ((k_here; k_dflt (first | (refine SrcX.tupN (by rfl) (by k_asm) (by k_asm) (by k_mem) (by exact Nat.le_of_ble_eq_true rfl) ?_) | (refine SrcX.keys (by rfl) (by k_asm) (by k_asm) (by k_mem) (by assumption) (by assumption) (by first | exact times_len (by assumption) | exact Nat.le_of_ble_eq_true rfl) ?_)); intro g'; (try lct_lit)))
  k_with "CompRestT" => ((with_unfolding_all (refine LCt.CompRestT.succ ?_; intro v' I' oI' C' oC' D' m' h' tk' E' hv' hC' hx' F' N' off' ne'; (obtain ⟨t9', hv9'⟩ := hv'; lcg_open hv9'); (have offc' := off'); (try simp only [LCg.Off3, and_true] at off'))))
  k_with "MINE enter" => ((refine enterR (by k_asm) (by k_asm) (by k_asm) (by k_asm) (by assumption) (by k_asm) (by exact rfl) (by exact rfl) (by assumption) (by k_is) (by k_is) (by ktr_room) (by exact BindsTo.of_eq rfl) (by exact locs rfl) ?_ (by exact rfl) (by exact rfl) (by exact rfl) (by decide); intro g' L' h' FG' F' N' B' X' T' hlt' hLL' hkept'; (try dsimp only); (try k_lift B'); (try k_fold)))
  k_with "MINE sub" => (exact SubL.mem (by k_subL))
  k_with "MINE early" => ((first | rfl | ((simp only [early, pick, tm, Option.map]; (repeat ((first | rw [if_pos (by omega)] | rw [if_neg (by omega)]); (try simp only [pick])))); done)))
  k_with "MINE slot" => (first | exact Slot.gone | exact Slot.nil | exact Slot.time _ _ (by omega) (by omega))
  k_with "MINE times" => (((try simp only [stored_nil, stored_ih, stored_ia, stored_ha, stored_iha]); first | exact ⟨[], [], [], rfl, by walk_at "MINE slot", by walk_at "MINE slot", by walk_at "MINE slot"⟩ | exact ⟨[_], [], [], rfl, by walk_at "MINE slot", by walk_at "MINE slot", by walk_at "MINE slot"⟩ | exact ⟨[], [_], [], rfl, by walk_at "MINE slot", by walk_at "MINE slot", by walk_at "MINE slot"⟩ | exact ⟨[], [], [_], rfl, by walk_at "MINE slot", by walk_at "MINE slot", by walk_at "MINE slot"⟩ | exact ⟨[_], [_], [], rfl, by walk_at "MINE slot", by walk_at "MINE slot", by walk_at "MINE slot"⟩ | exact ⟨[_], [], [_], rfl, by walk_at "MINE slot", by walk_at "MINE slot", by walk_at "MINE slot"⟩ | exact ⟨[], [_], [_], rfl, by walk_at "MINE slot", by walk_at "MINE slot", by walk_at "MINE slot"⟩ | exact ⟨[_], [_], [_], rfl, by walk_at "MINE slot", by walk_at "MINE slot", by walk_at "MINE slot"⟩))
  k_with "MINE enterC" => ((refine enterRC (by k_asm) (by k_asm) (by k_asm) (by k_asm) (by assumption) (by k_asm) (by exact rfl) (by exact rfl) (by assumption) (by k_is) (by k_is) (by ktr_room) (by exact BindsTo.of_eq rfl) (by exact rfl) (by decide +kernel) ?_ (by exact rfl) (by exact rfl) (by exact rfl); intro g' L' h' tk' cells' FG' F' N' Y' B' X' T' l1 hlt' hLL' hkept'; (try k_lt l1); k_cells Y'; (try simp only [List.cons_append, List.nil_append] at N'); (try dsimp only); (try k_lift B'); (try k_fold)))
  k_with "MINE due" => (first | rfl | exact due_t (by assumption) | exact due_f (by assumption) | exact due_g (by assumption) | exact due_n | exact due_f (not_t (by assumption)) | exact due_t (not_f (by assumption)) | exact due_t (not_nt (by assumption)))
  k_with "MINE at" => (((try simp only [stored_nil, stored_ih, stored_ia, stored_ha, stored_iha]); first | exact ⟨none, by with_unfolding_all rfl, by walk_at "MINE due"⟩ | exact ⟨some (_, _), by with_unfolding_all rfl, by walk_at "MINE due"⟩))
  k_with "MINE gts" => ((repeat (first | exact List.forall_mem_nil _ | refine List.forall_mem_cons.mpr ⟨by ((try dsimp only); (try dsimp only [envOf]); (try dsimp only [envOfC]); omega), ?_⟩)))
  k_with "MINE due2" => (first | exact due_t (k' := 0) (by assumption) | exact due_f (by assumption) | exact due_g (by assumption) | exact due_n | exact due_f (not_t (by assumption)) | exact due_t (not_f (by assumption)) | exact due_t (not_nt (by assumption)))
  k_with "MINE periods" => ((rename pick _ _ _ = _ => hE9; (repeat ((rename _ = (_ : Int) * 2 ^ (rangeKs _ _).length => q9); (try rw [period_of q9] at hE9); clear q9))))
  k_with "MINE now" => ((repeat ((rename _ = (_ : Int) * 2 ^ (rangeKs _ _).length => q9); (first | rw [period_of0 q9] | rw [period_of q9] | skip); clear q9)))
  k_with "call ref" => ((k_here; (with_reducible show wpAny _ _ (call (Value.ref 22) _) _ _ _); k_dflt (refine (period_ok (by omega) (by omega) (by omega) (by omega) (by omega) (by omega)).use (by k_asm) (by k_asm) (by k_asm) (by k_asm) (by k_asm) (by exact fun _ h => nomatch h) (by first | exact rfl | assumption) (by ktr_room) (by ktr_units) ?_); intro r' tl' h' tk' F' N' hL9 hO9 hP'; k_dflt (obtain ⟨e9, t', e8⟩ := hP'); subst e9; subst e8; clear hL9 hO9; (try simp only [List.nil_append] at N'); (try dsimp only); (try k_sweep); (try k_fold)))
  k_with "call ref" => ((k_here; (with_reducible show wpAny _ _ (call (Value.ref 41) _) _ _ _); k_dflt (refine use1A (by k_asm) (by k_asm) (by k_asm) (by k_asm) (by k_asm) (by k_mem) (anything_ok (by assumption) (by assumption) (by assumption) (by assumption) (by assumption)) (by first | exact rfl | assumption) (by ktr_room) (by ktr_units) ?_); intro r' tl' h' tk' F' N' hL9 hO9 hP'; k_dflt (obtain ⟨e9, e8⟩ := hP'); subst e9; subst e8; clear hL9 hO9; (try simp only [List.nil_append] at N'); (try dsimp only); (try k_sweep); (try k_fold)))
  k_with "eval Name" => ((k_here; k_dflt (refine nameX_L (by k_asm) (by first | assumption | exact rfl) ?_ (by rfl) (by rfl))))
  k_with "subscriptTail" => ((k_here; (with_reducible show wpAny _ _ (subscriptTail _ _ (Value.ref _) (Value.str _ _)) _ _ _); k_dflt (first | refine item_T (knd := PySem.strKind _ _) (by k_asm) (by k_mem) (by k_asm) (strKind_is _ _ _ _) (by assumption) ?_ | refine kda_item (knd := PySem.strKind _ _) (by k_asm) (by k_mem) (by k_asm) (strKind_is _ _ _ _) (by assumption) ?_ | (refine item_At (knd := PySem.strKind _ _) (by k_asm) (by k_mem) (by k_asm) (strKind_is _ _ _ _) (by assumption) ?_; intro t7'; (try dsimp only [tm, dueA, Option.map])))))
  k_with "CompEnd" => (k_dflt lcg_end)
  k_with "And" => (first | exact ⟨rfl, rfl, _, rfl⟩ | exact ⟨rfl, rfl⟩)
  k_with "ite" => ((k_here; k_openite; first | refine ite_neg ne_self_int ?_ | refine ite_neg ne_self_bool ?_))
  k_with "CompRestT" => ((k_dflt (refine rest_keys inc1 ?_ ?_); rotate_left; (intro ys' hys'); rotate_left; (intro n' v' t' I' oI' C' oC' D' m' h' tk' ys' E' hm' hC' hx' F' N' off' ne'); (have hval' := valueAt_mem (by assumption) hm'); rcases times_val (by assumption) hm' with e9 | ⟨t9, u9, e9⟩ <;> (subst e9)))
  k_with "compareOp NotEq ref ref" => ((k_here; k_dflt (refine ne_empty (by k_asm) (by k_mem) (by k_mem) (by assumption) (times_lay (by assumption)) (by ktr_units) ?_); rw [times_any (by assumption)]))
  k_with "MINE to" => (repeat' ((fail_if_success (with_reducible show wpAny _ _ (execs (PySem.Stmt.Assign _ _ ⟨100, _, _, _⟩ :: _) _) _ _ _)); (first | (k_unfold; (try dsimp only)) | (k_end; wrow_close) | walk1 | (dsimp only; walk1) | (leave1; walk_say "STEP leave1"; try dsimp only) | fail "no step")))
  k_with "call ref" => ((k_here; (with_reducible show wpAny _ _ (call (Value.ref 22) _) _ _ _); k_dflt (refine (period_ok (by omega) (by omega) (by omega) (by omega) (by omega) (by omega)).use (by k_asm) (by k_asm) (by k_asm) (by k_asm) (by k_asm) (by exact fun _ h => nomatch h) (by first | exact rfl | assumption) (by ktr_room) (by ktr_units) ?_); intro r' tl' h' tk' F' N' hL9 hO9 hP'; k_dflt (obtain ⟨e9, t', e8⟩ := hP'); (first | rw [period_zero] at e8 | rw [period_succ (by omega)] at e8 | skip); subst e9; subst e8; clear hL9 hO9; (try simp only [List.nil_append] at N'); (try dsimp only); (try k_sweep); (try k_fold)))
  k_fill
  intro X
  obtain ⟨hi, hh, ha⟩ := times_get hTa
  generalize hB : lawBody.drop 11 = bs
  conv at hB => lhs; whnf
  subst hB
  generalize hS : lawScope = sc
  conv at hS => lhs; whnf
  subst hS
  walk_at "MINE to"
  dsimp only
  rename Fr _ _ _ _ => F9
  rename News _ _ _ _ => N9
  exact tail100 ⟨B, F9, X, news_sub N9 (by walk_at "MINE sub"), T⟩ mbase mdelay mcount ec1 ec3 lo hDa hTa hb0 hb1 hd0 hd1 hc0 (by omega) hlt (fun h' tk' m' F' => hend h' tk' m' F')
end
end Mine
end
section
local macro_rules | `(tactic| lcg_off) => `(tactic| ((rename LCg.Off3 _ _ _ _ => o9); exact o9))


namespace Mine
section
variable {w : World} {loose : List Str} {mean : ExcName → Option Value} {mg mb : Str → Option Value}
set_option maxRecDepth 100000 in
set_option maxHeartbeats 8000000 in
theorem tail93 {L fa : Addr} {cd : Value} {h₀ base : Heap} {m : Str → Option Value} {s : Shared} {Q : Flow → Shared → Prop} {E : Value → Shared → Prop} {da dL xT xD xF : Addr} {oa oL oT oD oF c1 c2 c3 : Obj} {v3 : Option Value} {kvs kvL : List (Str × Value)} {gi gh ga li lh la : Option (Int × Tok)} {b dl c : Int} {tb td tc : Tok}
    {rT rD rF : Value} {et : Option (Int × Str × Str)}
    (H : LawAt w loose mean mg mb base h₀ L s.heap m [(xT, oT), (xD, oD), (xF, oF), (dL, oL), (da, oa), (L + 1 + 1 + 1, c3), (L + 1 + 1, c2), (L + 1, c1)])
    (mbase : m (Str.ofString "base") = some (.int b tb)) (mdelay : m (Str.ofString "delay") = some (.int dl td)) (mcount : m (Str.ofString "count") = some (.int c tc))
    (mtimer : m (Str.ofString "timer") = some rT) (mdue : m (Str.ofString "due") = some rD) (mfirst : m (Str.ofString "first") = some rF)
    (pT : TripleAt et xT oT rT) (pD : TripleAt et xD oD rD) (pF : PairAt (early (tm li) (tm lh) (tm la)) xF oF rF)
    (hg : ∀ t sp kd, et = some (t, sp, kd) → PyData.canLay0 (.str sp) = true ∧ PyData.canLay0 (.str kd) = true)
    (ec1 : c1.data = .cell (some (.ref da))) (ec2 : c2.data = .cell (some (.ref dL))) (ec3 : c3.data = .cell v3)
    (loL : (dL == sysModules) = false) (hDL : oL.IsDictOf (strKind PySem.Challenge.rw_no0048_01.row.prog w) kvL)
    (hi : (valueAt kvL (Str.ofString "initial")).getD .none = toV li) (hh : (valueAt kvL (Str.ofString "handshake")).getD .none = toV lh) (ha : (valueAt kvL (Str.ofString "application")).getD .none = toV la)
    (lo : (da == sysModules) = false) (hDa : oa.IsDictOf (strKind PySem.Challenge.rw_no0048_01.row.prog w) kvs) (hTa : TimesOf kvs gi gh ga)
    (hb0 : 1000 ≤ b) (hb1 : b ≤ 10000) (hd0 : 0 ≤ dl) (hd1 : dl ≤ 10000) (hc0 : 0 ≤ c) (hc1 : c ≤ 3) (hlt : @LT.lt Nat _ (L + 1 + 1 + 1) da)
    (hend : ∀ h' tk' m', Fr h₀ L h' m' → Q (.ret (.bool true)) { s with heap := h', toks := tk' }) : lawWp w L fa cd 10 Q E s := by
  obtain ⟨B, F, X, N, T⟩ := H
  unfold lawWp
  revert X
  w_top off
  k_with_none
  k_with "UnrEndW" => (k_dflt ktu_end)
  k_with "InvEndN" => (k_dflt kst_close)
  k_with "callWith" => (((with_reducible show wpAny _ _ (callWith _ (Value.builtin _) (_ :: _) _ _) _ _ _); refine callWith_method1 ?_))
  k_with "ite" => ((k_here; k_openite; first | refine ite_pos (by with_reducible assumption) ?_ | refine ite_neg (by with_reducible assumption) ?_ | refine ite_isFalse (by with_reducible assumption) ?_ | (refine split_dec ?_ ?_ <;> intro _) | (refine split_bool ?_ ?_ <;> intro _)))
  k_with "call builtin:list.pop" => ((k_here; k_dflt (refine pop0 (by k_asm) (by k_asm) (by assumption) (by assumption) (by assumption) (by k_upd) ?_); intro h' i' t' F' N' hI' hn'; (try k_sweep)))
  k_with "call builtin:dict.get" => ((k_here; k_dflt (refine get_T (knd := PySem.strKind _ _) (by k_asm) (by k_mem) (by k_asm) (by k_asm) (strKind_is _ _ _ _) (by assumption) ?_)))
  k_with "getMethod ref" => ((k_here; (with_reducible show wpAny _ _ (getMethod (Value.ref _) (Str.ofString "get") _) _ _ _); k_dflt (refine kdg_method (knd := PySem.strKind _ _) (by k_asm) (by k_mem) (by k_asm) ?_)))
  k_with "newTuple" => ((k_here; k_dflt (refine newTuple_L (by k_asm) (by k_asm) ?_ (by kmk_size)); intro D' h' F' N' l1 l2; (try k_lt l1); (try dsimp only [envOf] at l2); (try dsimp only [envOfC] at l2); (try k_lt2 l2); (try k_sweep)))
  k_with "newList" => ((k_here; k_dflt (refine newList_L (by k_asm) (by k_asm) ?_ (by kmk_size)); intro D' h' F' N' l1 l2; (try k_lt l1); (try dsimp only [envOf] at l2); (try dsimp only [envOfC] at l2); (try k_lt2 l2); (try k_sweep)))
  k_with "call type:list" => ((k_here; (with_reducible show wpAny _ _ (call (Value.type _) [Value.ref _]) _ _ _); k_dflt (refine list_copyL (by k_asm) (by k_asm) (by k_mem) ?_ (by ((rename IntsAre _ _ => hI9); (have q9 := IntsAre.length hI9); simp only [List.size_toArray]; rw [PySem.sizeLine_eq]; omega))); intro D' c' h' F' N' l1 l2; (try k_lt l1); (try dsimp only [envOf] at l2); (try dsimp only [envOfC] at l2); (try k_lt2 l2); (try k_sweep)))
  k_with "eval Dict nil nil" => ((k_here; k_dflt (refine newDict_L (by k_asm) (by k_asm) (TopRead.nolimit (by k_asm)) ?_); intro d' h' o' F' N' l1 l2 lo' hs' fs'; (try k_lt l1); (try dsimp only [envOf] at l2); (try dsimp only [envOfC] at l2); (try k_lt2 l2); (try k_sweep)))
  k_with "exec For Name Name cons nil" => ((k_here; (rename Fr _ _ _ _ => lF'); (with_unfolding_all refine For_turnsG lF' (by exact rfl) ?_)))
  k_with "eval ListComp" => ((k_here; (first | (lct_look; k_dflt (refine comp_X (_F₀ := by k_asm) (by with_unfolding_all rfl) (by decide) (by rfl) (by decide) (by rfl) ?_)) | (lcf_look; k_dflt (refine comp_XU (_F₀ := by k_asm) (by with_unfolding_all rfl) (by decide) (by rfl) (by decide) (by rfl) ?_)))))
  k_with "subscriptTail" => ((k_here; (with_reducible show wpAny _ _ (subscriptTail _ _ (Value.ref _) (Value.str _ _)) _ _ _); k_dflt (first | refine item_T (knd := PySem.strKind _ _) (by k_asm) (by k_mem) (by k_asm) (strKind_is _ _ _ _) (by assumption) ?_ | refine kda_item (knd := PySem.strKind _ _) (by k_asm) (by k_mem) (by k_asm) (strKind_is _ _ _ _) (by assumption) ?_)))
  k_with "SrcXU" => ((k_here; k_dflt (refine SrcXU.tupK (by rfl) (by k_asm) (by k_asm) (by k_asm) (by k_is) (by exact rfl) (by exact rfl) (by exact Nat.le_of_ble_eq_true rfl) ?_); intro g'; lcg_lit))
  k_with "SrcX" => ((k_here; k_dflt (first | (refine SrcX.tupN (by rfl) (by k_asm) (by k_asm) (by k_mem) (by exact Nat.le_of_ble_eq_true rfl) ?_) | (refine SrcX.keys (by rfl) (by k_asm) (by k_asm) (by k_mem) (by assumption) (by assumption) (by first | exact times_len (by assumption) | exact Nat.le_of_ble_eq_true rfl) ?_)); intro g'; (try lct_lit)))
  k_with "CompRestT" => ((with_unfolding_all (refine LCt.CompRestT.succ ?_; intro v' I' oI' C' oC' D' m' h' tk' E' hv' hC' hx' F' N' off' ne'; (obtain ⟨t9', hv9'⟩ := hv'; lcg_open hv9'); (have offc' := off'); (try simp only [LCg.Off3, and_true] at off'))))
  k_with "MINE enter" => ((refine enterR (by k_asm) (by k_asm) (by k_asm) (by k_asm) (by assumption) (by k_asm) (by exact rfl) (by exact rfl) (by assumption) (by k_is) (by k_is) (by ktr_room) (by exact BindsTo.of_eq rfl) (by exact locs rfl) ?_ (by exact rfl) (by exact rfl) (by exact rfl) (by decide); intro g' L' h' FG' F' N' B' X' T' hlt' hLL' hkept'; (try dsimp only); (try k_lift B'); (try k_fold)))
  k_with "MINE sub" => (exact SubL.mem (by k_subL))
  k_with "MINE early" => ((first | rfl | ((simp only [early, pick, tm, Option.map]; (repeat ((first | rw [if_pos (by omega)] | rw [if_neg (by omega)]); (try simp only [pick])))); done)))
  k_with "MINE slot" => (first | exact Slot.gone | exact Slot.nil | exact Slot.time _ _ (by omega) (by omega))
  k_with "MINE times" => (((try simp only [stored_nil, stored_ih, stored_ia, stored_ha, stored_iha]); first | exact ⟨[], [], [], rfl, by walk_at "MINE slot", by walk_at "MINE slot", by walk_at "MINE slot"⟩ | exact ⟨[_], [], [], rfl, by walk_at "MINE slot", by walk_at "MINE slot", by walk_at "MINE slot"⟩ | exact ⟨[], [_], [], rfl, by walk_at "MINE slot", by walk_at "MINE slot", by walk_at "MINE slot"⟩ | exact ⟨[], [], [_], rfl, by walk_at "MINE slot", by walk_at "MINE slot", by walk_at "MINE slot"⟩ | exact ⟨[_], [_], [], rfl, by walk_at "MINE slot", by walk_at "MINE slot", by walk_at "MINE slot"⟩ | exact ⟨[_], [], [_], rfl, by walk_at "MINE slot", by walk_at "MINE slot", by walk_at "MINE slot"⟩ | exact ⟨[], [_], [_], rfl, by walk_at "MINE slot", by walk_at "MINE slot", by walk_at "MINE slot"⟩ | exact ⟨[_], [_], [_], rfl, by walk_at "MINE slot", by walk_at "MINE slot", by walk_at "MINE slot"⟩))
  k_with "MINE enterC" => ((refine enterRC (by k_asm) (by k_asm) (by k_asm) (by k_asm) (by assumption) (by k_asm) (by exact rfl) (by exact rfl) (by assumption) (by k_is) (by k_is) (by ktr_room) (by exact BindsTo.of_eq rfl) (by exact rfl) (by decide +kernel) ?_ (by exact rfl) (by exact rfl) (by exact rfl); intro g' L' h' tk' cells' FG' F' N' Y' B' X' T' l1 hlt' hLL' hkept'; (try k_lt l1); k_cells Y'; (try simp only [List.cons_append, List.nil_append] at N'); (try dsimp only); (try k_lift B'); (try k_fold)))
  k_with "MINE due" => (first | rfl | exact due_t (by assumption) | exact due_f (by assumption) | exact due_g (by assumption) | exact due_n | exact due_f (not_t (by assumption)) | exact due_t (not_f (by assumption)) | exact due_t (not_nt (by assumption)))
  k_with "MINE at" => (((try simp only [stored_nil, stored_ih, stored_ia, stored_ha, stored_iha]); first | exact ⟨none, by with_unfolding_all rfl, by walk_at "MINE due"⟩ | exact ⟨some (_, _), by with_unfolding_all rfl, by walk_at "MINE due"⟩))
  k_with "MINE gts" => ((repeat (first | exact List.forall_mem_nil _ | refine List.forall_mem_cons.mpr ⟨by ((try dsimp only); (try dsimp only [envOf]); (try dsimp only [envOfC]); omega), ?_⟩)))
  k_with "MINE due2" => (first | exact due_t (k' := 0) (by assumption) | exact due_f (by assumption) | exact due_g (by assumption) | exact due_n | exact due_f (not_t (by assumption)) | exact due_t (not_f (by assumption)) | exact due_t (not_nt (by assumption)))
  k_with "MINE periods" => ((rename pick _ _ _ = _ => hE9; (repeat ((rename _ = (_ : Int) * 2 ^ (rangeKs _ _).length => q9); (try rw [period_of q9] at hE9); clear q9))))
  k_with "MINE now" => ((repeat ((rename _ = (_ : Int) * 2 ^ (rangeKs _ _).length => q9); (first | rw [period_of0 q9] | rw [period_of q9] | skip); clear q9)))
  k_with "eval Name" => ((k_here; k_dflt (refine nameX_L (by k_asm) (by first | assumption | exact rfl) ?_ (by rfl) (by rfl))))
  k_with "subscriptTail" => ((k_here; (with_reducible show wpAny _ _ (subscriptTail _ _ (Value.ref _) (Value.str _ _)) _ _ _); k_dflt (first | refine item_T (knd := PySem.strKind _ _) (by k_asm) (by k_mem) (by k_asm) (strKind_is _ _ _ _) (by assumption) ?_ | refine kda_item (knd := PySem.strKind _ _) (by k_asm) (by k_mem) (by k_asm) (strKind_is _ _ _ _) (by assumption) ?_ | (refine item_At (knd := PySem.strKind _ _) (by k_asm) (by k_mem) (by k_asm) (strKind_is _ _ _ _) (by assumption) ?_; intro t7'; (try dsimp only [tm, dueA, Option.map])))))
  k_with "CompEnd" => (k_dflt lcg_end)
  k_with "And" => (first | exact ⟨rfl, rfl, _, rfl⟩ | exact ⟨rfl, rfl⟩)
  k_with "ite" => ((k_here; k_openite; first | refine ite_neg ne_self_int ?_ | refine ite_neg ne_self_bool ?_))
  k_with "MINE to" => (repeat' ((fail_if_success (with_reducible show wpAny _ _ (execs (PySem.Stmt.If _ _ _ ⟨95, _, _, _⟩ :: _) _) _ _ _)); (first | (k_unfold; (try dsimp only)) | (k_end; wrow_close) | walk1 | (dsimp only; walk1) | (leave1; walk_say "STEP leave1"; try dsimp only) | fail "no step")))
  k_with "compareOp NotEq" => ((k_here; k_dflt (first | (refine ne_pairA (by assumption) (by assumption) (by k_asm) (by k_mem) (by k_mem) (by exact good_early) (by ktr_units) ?_) | (refine ne_tripleA (by assumption) (by assumption) (by k_asm) (by k_mem) (by k_mem) (by assumption) (by ktr_units) ?_))))
  k_with "call ref" => ((k_here; (with_reducible show wpAny _ _ (call (Value.ref 29) _) _ _ _); k_dflt (refine use1A (by k_asm) (by k_asm) (by k_asm) (by k_asm) (by k_asm) (by k_mem) (earliest_ok (by assumption) (by assumption) (by assumption) (by assumption) (by assumption)) (by first | exact rfl | assumption) (by ktr_room) (by ktr_units) ?_); intro r' tl' h' tk' F' N' hL9 hO9 hP'; k_dflt (refine Exists.elim (pair_letterD hP' (by k_mem) N' hO9) ?_; intro x' hx9'; obtain ⟨ox', N', hP', hx'⟩ := hx9'); clear hL9 hO9; (try simp only [List.cons_append, List.nil_append] at N'); (try dsimp only); (try k_sweep); (try k_fold)))
  k_fill
  intro X
  generalize hB : lawBody.drop 10 = bs
  conv at hB => lhs; whnf
  subst hB
  generalize hS : lawScope = sc
  conv at hS => lhs; whnf
  subst hS
  walk_at "MINE to"
  dsimp only
  rename Fr _ _ _ _ => F9
  rename News _ _ _ _ => N9
  exact tail95 ⟨B, F9, X, news_sub N9 (by walk_at "MINE sub"), T⟩ mbase mdelay mcount ec1 ec3 lo hDa hTa hb0 hb1 hd0 hd1 hc0 hc1 hlt (fun h' tk' m' F' => hend h' tk' m' F')
end
end Mine
end
section
local macro_rules | `(tactic| lcg_off) => `(tactic| ((rename LCg.Off3 _ _ _ _ => o9); exact o9))



local macro_rules | `(tactic| lcg_off) => `(tactic| ((rename LCg.Off3 _ _ _ _ => o9); first | with_reducible exact o9 | (refine And.intro ⟨by k_ne, by k_ne, by k_ne⟩ ?_; with_reducible exact o9)))
namespace Mine
section
variable {w : World} {loose : List Str} {mean : ExcName → Option Value} {mg mb : Str → Option Value}
set_option maxRecDepth 100000 in
set_option maxHeartbeats 8000000 in
theorem tail88 {L fa : Addr} {cd : Value} {h₀ base : Heap} {m : Str → Option Value} {s : Shared} {Q : Flow → Shared → Prop} {E : Value → Shared → Prop} {da dL xT xP : Addr} {oa oL oT oP c1 c2 c3 : Obj} {v3 : Option Value} {kvs kvL : List (Str × Value)} {gi gh ga li lh la : Option (Int × Tok)} {b dl c : Int} {tb td tc : Tok}
    {rT rP : Value} {ep : Option (Int × Str)} {bl : Bool}
    (H : LawAt w loose mean mg mb base h₀ L s.heap m [(xT, oT), (xP, oP), (dL, oL), (da, oa), (L + 1 + 1 + 1, c3), (L + 1 + 1, c2), (L + 1, c1)])
    (mbase : m (Str.ofString "base") = some (.int b tb)) (mdelay : m (Str.ofString "delay") = some (.int dl td)) (mcount : m (Str.ofString "count") = some (.int c tc))
    (mtimer : m (Str.ofString "timer") = some rT) (mtold : m (Str.ofString "told") = some rP) (mblock : m (Str.ofString "blocked") = some (.bool bl))
    (pT : TripleAt (NT (early (tm li) (tm lh) (tm la)) ep bl) xT oT rT) (pP : PairAt ep xP oP rP) (hgp : GoodP ep)
    (ec1 : c1.data = .cell (some (.ref da))) (ec2 : c2.data = .cell (some (.ref dL))) (ec3 : c3.data = .cell v3)
    (loL : (dL == sysModules) = false) (hDL : oL.IsDictOf (strKind PySem.Challenge.rw_no0048_01.row.prog w) kvL)
    (hi : (valueAt kvL (Str.ofString "initial")).getD .none = toV li) (hh : (valueAt kvL (Str.ofString "handshake")).getD .none = toV lh) (ha : (valueAt kvL (Str.ofString "application")).getD .none = toV la)
    (lo : (da == sysModules) = false) (hDa : oa.IsDictOf (strKind PySem.Challenge.rw_no0048_01.row.prog w) kvs) (hTa : TimesOf kvs gi gh ga)
    (hb0 : 1000 ≤ b) (hb1 : b ≤ 10000) (hd0 : 0 ≤ dl) (hd1 : dl ≤ 10000) (hc0 : 0 ≤ c) (hc1 : c ≤ 3) (hlt : @LT.lt Nat _ (L + 1 + 1 + 1) da)
    (hend : ∀ h' tk' m', Fr h₀ L h' m' → Q (.ret (.bool true)) { s with heap := h', toks := tk' }) : lawWp w L fa cd 8 Q E s := by
  obtain ⟨B, F, X, N, T⟩ := H
  unfold lawWp
  revert X
  w_top off
  k_with_none
  k_with "UnrEndW" => (k_dflt ktu_end)
  k_with "InvEndN" => (k_dflt kst_close)
  k_with "callWith" => (((with_reducible show wpAny _ _ (callWith _ (Value.builtin _) (_ :: _) _ _) _ _ _); refine callWith_method1 ?_))
  k_with "ite" => ((k_here; k_openite; first | refine ite_pos (by with_reducible assumption) ?_ | refine ite_neg (by with_reducible assumption) ?_ | refine ite_isFalse (by with_reducible assumption) ?_ | (refine split_dec ?_ ?_ <;> intro _) | (refine split_bool ?_ ?_ <;> intro _)))
  k_with "call builtin:list.pop" => ((k_here; k_dflt (refine pop0 (by k_asm) (by k_asm) (by assumption) (by assumption) (by assumption) (by k_upd) ?_); intro h' i' t' F' N' hI' hn'; (try k_sweep)))
  k_with "call builtin:dict.get" => ((k_here; k_dflt (refine get_T (knd := PySem.strKind _ _) (by k_asm) (by k_mem) (by k_asm) (by k_asm) (strKind_is _ _ _ _) (by assumption) ?_)))
  k_with "getMethod ref" => ((k_here; (with_reducible show wpAny _ _ (getMethod (Value.ref _) (Str.ofString "get") _) _ _ _); k_dflt (refine kdg_method (knd := PySem.strKind _ _) (by k_asm) (by k_mem) (by k_asm) ?_)))
  k_with "newTuple" => ((k_here; k_dflt (refine newTuple_L (by k_asm) (by k_asm) ?_ (by kmk_size)); intro D' h' F' N' l1 l2; (try k_lt l1); (try dsimp only [envOf] at l2); (try dsimp only [envOfC] at l2); (try k_lt2 l2); (try k_sweep)))
  k_with "newList" => ((k_here; k_dflt (refine newList_L (by k_asm) (by k_asm) ?_ (by kmk_size)); intro D' h' F' N' l1 l2; (try k_lt l1); (try dsimp only [envOf] at l2); (try dsimp only [envOfC] at l2); (try k_lt2 l2); (try k_sweep)))
  k_with "call type:list" => ((k_here; (with_reducible show wpAny _ _ (call (Value.type _) [Value.ref _]) _ _ _); k_dflt (refine list_copyL (by k_asm) (by k_asm) (by k_mem) ?_ (by ((rename IntsAre _ _ => hI9); (have q9 := IntsAre.length hI9); simp only [List.size_toArray]; rw [PySem.sizeLine_eq]; omega))); intro D' c' h' F' N' l1 l2; (try k_lt l1); (try dsimp only [envOf] at l2); (try dsimp only [envOfC] at l2); (try k_lt2 l2); (try k_sweep)))
  k_with "eval Dict nil nil" => ((k_here; k_dflt (refine newDict_L (by k_asm) (by k_asm) (TopRead.nolimit (by k_asm)) ?_); intro d' h' o' F' N' l1 l2 lo' hs' fs'; (try k_lt l1); (try dsimp only [envOf] at l2); (try dsimp only [envOfC] at l2); (try k_lt2 l2); (try k_sweep)))
  k_with "exec For Name Name cons nil" => ((k_here; (rename Fr _ _ _ _ => lF'); (with_unfolding_all refine For_turnsG lF' (by exact rfl) ?_)))
  k_with "eval ListComp" => ((k_here; (first | (lct_look; k_dflt (refine comp_X (_F₀ := by k_asm) (by with_unfolding_all rfl) (by decide) (by rfl) (by decide) (by rfl) ?_)) | (lcf_look; k_dflt (refine comp_XU (_F₀ := by k_asm) (by with_unfolding_all rfl) (by decide) (by rfl) (by decide) (by rfl) ?_)))))
  k_with "subscriptTail" => ((k_here; (with_reducible show wpAny _ _ (subscriptTail _ _ (Value.ref _) (Value.str _ _)) _ _ _); k_dflt (first | refine item_T (knd := PySem.strKind _ _) (by k_asm) (by k_mem) (by k_asm) (strKind_is _ _ _ _) (by assumption) ?_ | refine kda_item (knd := PySem.strKind _ _) (by k_asm) (by k_mem) (by k_asm) (strKind_is _ _ _ _) (by assumption) ?_)))
  k_with "SrcXU" => ((k_here; k_dflt (refine SrcXU.tupK (by rfl) (by k_asm) (by k_asm) (by k_asm) (by k_is) (by exact rfl) (by exact rfl) (by exact Nat.le_of_ble_eq_true rfl) ?_); intro g'; lcg_lit))
  k_with "SrcX" => ((k_here; k_dflt (first | (refine SrcX.tupN (by rfl) (by k_asm) (by k_asm) (by k_mem) (by exact Nat.le_of_ble_eq_true rfl) ?_) | (refine SrcX.keys (by rfl) (by k_asm) (by k_asm) (by k_mem) (by assumption) (by assumption) (by first | exact times_len (by assumption) | exact Nat.le_of_ble_eq_true rfl) ?_)); intro g'; (try lct_lit)))
  k_with "CompRestT" => ((with_unfolding_all (refine LCt.CompRestT.succ ?_; intro v' I' oI' C' oC' D' m' h' tk' E' hv' hC' hx' F' N' off' ne'; (obtain ⟨t9', hv9'⟩ := hv'; lcg_open hv9'); (have offc' := off'); (try simp only [LCg.Off3, and_true] at off'))))
  k_with "MINE enter" => ((refine enterR (by k_asm) (by k_asm) (by k_asm) (by k_asm) (by assumption) (by k_asm) (by exact rfl) (by exact rfl) (by assumption) (by k_is) (by k_is) (by ktr_room) (by exact BindsTo.of_eq rfl) (by exact locs rfl) ?_ (by exact rfl) (by exact rfl) (by exact rfl) (by decide); intro g' L' h' FG' F' N' B' X' T' hlt' hLL' hkept'; (try dsimp only); (try k_lift B'); (try k_fold)))
  k_with "MINE sub" => (exact SubL.mem (by k_subL))
  k_with "MINE early" => ((first | rfl | ((simp only [early, pick, tm, Option.map]; (repeat ((first | rw [if_pos (by omega)] | rw [if_neg (by omega)]); (try simp only [pick])))); done)))
  k_with "MINE slot" => (first | exact Slot.gone | exact Slot.nil | exact Slot.time _ _ (by omega) (by omega))
  k_with "MINE times" => (((try simp only [stored_nil, stored_ih, stored_ia, stored_ha, stored_iha]); first | exact ⟨[], [], [], rfl, by walk_at "MINE slot", by walk_at "MINE slot", by walk_at "MINE slot"⟩ | exact ⟨[_], [], [], rfl, by walk_at "MINE slot", by walk_at "MINE slot", by walk_at "MINE slot"⟩ | exact ⟨[], [_], [], rfl, by walk_at "MINE slot", by walk_at "MINE slot", by walk_at "MINE slot"⟩ | exact ⟨[], [], [_], rfl, by walk_at "MINE slot", by walk_at "MINE slot", by walk_at "MINE slot"⟩ | exact ⟨[_], [_], [], rfl, by walk_at "MINE slot", by walk_at "MINE slot", by walk_at "MINE slot"⟩ | exact ⟨[_], [], [_], rfl, by walk_at "MINE slot", by walk_at "MINE slot", by walk_at "MINE slot"⟩ | exact ⟨[], [_], [_], rfl, by walk_at "MINE slot", by walk_at "MINE slot", by walk_at "MINE slot"⟩ | exact ⟨[_], [_], [_], rfl, by walk_at "MINE slot", by walk_at "MINE slot", by walk_at "MINE slot"⟩))
  k_with "MINE enterC" => ((refine enterRC (by k_asm) (by k_asm) (by k_asm) (by k_asm) (by assumption) (by k_asm) (by exact rfl) (by exact rfl) (by assumption) (by k_is) (by k_is) (by ktr_room) (by exact BindsTo.of_eq rfl) (by exact rfl) (by decide +kernel) ?_ (by exact rfl) (by exact rfl) (by exact rfl); intro g' L' h' tk' cells' FG' F' N' Y' B' X' T' l1 hlt' hLL' hkept'; (try k_lt l1); k_cells Y'; (try simp only [List.cons_append, List.nil_append] at N'); (try dsimp only); (try k_lift B'); (try k_fold)))
  k_with "MINE due" => (first | rfl | exact due_t (by assumption) | exact due_f (by assumption) | exact due_g (by assumption) | exact due_n | exact due_f (not_t (by assumption)) | exact due_t (not_f (by assumption)) | exact due_t (not_nt (by assumption)))
  k_with "MINE at" => (((try simp only [stored_nil, stored_ih, stored_ia, stored_ha, stored_iha]); first | exact ⟨none, by with_unfolding_all rfl, by walk_at "MINE due"⟩ | exact ⟨some (_, _), by with_unfolding_all rfl, by walk_at "MINE due"⟩))
  k_with "MINE gts" => ((repeat (first | exact List.forall_mem_nil _ | refine List.forall_mem_cons.mpr ⟨by ((try dsimp only); (try dsimp only [envOf]); (try dsimp only [envOfC]); omega), ?_⟩)))
  k_with "MINE due2" => (first | exact due_t (k' := 0) (by assumption) | exact due_f (by assumption) | exact due_g (by assumption) | exact due_n | exact due_f (not_t (by assumption)) | exact due_t (not_f (by assumption)) | exact due_t (not_nt (by assumption)))
  k_with "MINE periods" => ((rename pick _ _ _ = _ => hE9; (repeat ((rename _ = (_ : Int) * 2 ^ (rangeKs _ _).length => q9); (try rw [period_of q9] at hE9); clear q9))))
  k_with "MINE now" => ((repeat ((rename _ = (_ : Int) * 2 ^ (rangeKs _ _).length => q9); (first | rw [period_of0 q9] | rw [period_of q9] | skip); clear q9)))
  k_with "eval Name" => ((k_here; k_dflt (refine nameX_L (by k_asm) (by first | assumption | exact rfl) ?_ (by rfl) (by rfl))))
  k_with "subscriptTail" => ((k_here; (with_reducible show wpAny _ _ (subscriptTail _ _ (Value.ref _) (Value.str _ _)) _ _ _); k_dflt (first | refine item_T (knd := PySem.strKind _ _) (by k_asm) (by k_mem) (by k_asm) (strKind_is _ _ _ _) (by assumption) ?_ | refine kda_item (knd := PySem.strKind _ _) (by k_asm) (by k_mem) (by k_asm) (strKind_is _ _ _ _) (by assumption) ?_ | (refine item_At (knd := PySem.strKind _ _) (by k_asm) (by k_mem) (by k_asm) (strKind_is _ _ _ _) (by assumption) ?_; intro t7'; (try dsimp only [tm, dueA, Option.map])))))
  k_with "CompEnd" => (k_dflt lcg_end)
  k_with "And" => (first | exact ⟨rfl, rfl, _, rfl⟩ | exact ⟨rfl, rfl⟩)
  k_with "ite" => ((k_here; k_openite; first | refine ite_neg ne_self_int ?_ | refine ite_neg ne_self_bool ?_))
  k_with "call ref" => ((k_here; (with_reducible show wpAny _ _ (call (Value.ref 90) _) _ _ _); k_dflt (first | (refine (first_ok3).use (by k_asm) (by k_asm) (by k_asm) (by k_asm) (by k_asm) (by exact SubL.mem (by k_subL)) (by first | exact rfl | assumption) (by ktr_room) (by ktr_units) ?_) | (refine (first_ok2).use (by k_asm) (by k_asm) (by k_asm) (by k_asm) (by k_asm) (by exact SubL.mem (by k_subL)) (by first | exact rfl | assumption) (by ktr_room) (by ktr_units) ?_) | (refine (first_ok1).use (by k_asm) (by k_asm) (by k_asm) (by k_asm) (by k_asm) (by exact SubL.mem (by k_subL)) (by first | exact rfl | assumption) (by ktr_room) (by ktr_units) ?_) | (refine (first_ok0).use (by k_asm) (by k_asm) (by k_asm) (by k_asm) (by k_asm) (by exact SubL.mem (by k_subL)) (by first | exact rfl | assumption) (by ktr_room) (by ktr_units) ?_)); intro r' tl' h' tk' F' N' hL9 hO9 hP'; k_dflt (obtain ⟨e9, hP2'⟩ := hP'); subst e9; clear hL9 hO9; (first | (have e8 : r' = .none := hP2'; subst e8) | (generalize hE9 : pick _ _ _ = e7 at hP2'; rcases e7 with _ | ⟨t9, s9⟩; (exact (pick_some hE9).elim); k_dflt (obtain ⟨x', k1', k2', e8, hm'⟩ := hP2'); subst e8)); (try simp only [List.nil_append] at N'); (try dsimp only); (try k_sweep); (try k_fold)))
  k_with "call builtin:dict.get" => ((k_here; k_dflt (refine get_T2 (knd := PySem.strKind _ _) (by k_asm) (by k_mem) (by k_asm) (by k_asm) (strKind_is _ _ _ _) (by assumption) ?_ ?_) <;> (first | (intro e9; subst e9) | (intro t9 u9 e9; subst e9))))
  k_with "CompRestT" => ((with_unfolding_all (refine LCt.CompRestT.succ ?_; intro v' I' oI' C' oC' D' m' h' tk' E' hv' hC' hx' F' N' off' ne'; lcg_open hv'; (have offc' := off'); (try simp only [LCg.Off3, and_true] at off'))))
  k_with "CompEnd" => (k_dflt lcg_end)
  k_with "MINE to call" => (repeat' ((fail_if_success (with_reducible show wpAny _ _ (eval (Expr.Call (Expr.Name (Str.ofString "_law_first") _) _ _ _) _) _ _ _)); (first | (k_unfold; (try dsimp only)) | (k_end; wrow_close) | walk1 | (dsimp only; walk1) | (leave1; walk_say "STEP leave1"; try dsimp only) | fail "no step")))
  k_with "MINE to if" => (repeat' ((fail_if_success (with_reducible show wpAny _ _ (exec (PySem.Stmt.If _ _ _ ⟨89, _, _, _⟩) _) _ _ _)); (first | (k_unfold; (try dsimp only)) | (k_end; wrow_close) | walk1 | (dsimp only; walk1) | (leave1; walk_say "STEP leave1"; try dsimp only) | fail "no step")))
  k_with "JoinP" => (k_dflt (first | exact joinP_none rfl (by k_asm) (by k_asm) (by k_mem) (by walk_at "MINE sub") | exact joinP_row (by assumption) (by assumption) (by k_asm) (by k_asm) (by walk_at "MINE sub") (by walk_at "MINE sub") (by walk_at "MINE gts")))
  k_with "JoinT" => (k_dflt (first | exact joinT_none (by first | exact nt_none2 (by assumption) (by assumption) | exact nt_block2 (by assumption) (by assumption)) (by k_asm) (by k_asm) (by k_mem) (by walk_at "MINE sub") | exact joinT_some (by k_asm) (by k_asm) (by k_mem) (by first | exact nt_loss (by assumption) | exact nt_probe2 (by assumption) (by assumption) (by assumption)) (by walk_at "MINE sub") (by (try dsimp only); omega)))
  k_fill
  intro X
  generalize hB : lawBody.drop 8 = bs
  conv at hB => lhs; whnf
  subst hB
  generalize hS : lawScope = sc
  conv at hS => lhs; whnf
  subst hS
  walk_at "MINE to call"
  rename Fr _ _ _ _ => F1
  rename News _ _ _ _ => N1
  refine join_P (d := L + 1) (od := c1) (e := early (tm li) (tm lh) (tm la)) F1 N1 (by k_mem) ?_ ?_
  · intro hJ
    (try k_fold)
    k_steps
  · clear F1 N1
    intro rF xF oF h2 tk2 F2 N2 pF hxF
    walk_at "MINE to if"
    rename Fr _ _ _ _ => F3
    rename News _ _ _ _ => N3
    refine join_T (d := L + 1) (od := c1) (n := Str.ofString "due") (e := NT (early (tm li) (tm lh) (tm la)) ep bl) F3 N3 (by k_mem) ?_ ?_
    · intro hJ
      (try k_fold)
      refine pair_cases pF ?_ ?_
      · intro eF e9
        subst e9
        refine pair_cases pP ?_ ?_
        · intro eP e8
          subst e8
          k_steps
        · intro tP sP kP jP eP e8 e7
          subst e8 e7
          k_steps
      · intro tF sF kF jF eF e9 e8
        subst e9 e8
        k_steps
    · clear F3 N3
      intro rD xD oD h4 tk4 F4 N4 pD hxD
      (try k_unfold)
      dsimp only
      exact tail93 ⟨B, F4, X, news_sub N4 (by walk_at "MINE sub"), T⟩ mbase mdelay mcount mtimer rfl rfl pT pD pF (good_NT good_early hgp) ec1 ec2 ec3 loL hDL hi hh ha lo hDa hTa hb0 hb1 hd0 hd1 hc0 hc1 hlt (fun h' tk' m' F' => hend h' tk' m' F')
end
end Mine
end
section
namespace Mine
theorem law_cut {M : Model} {A : Around} {E : Value → Shared → Prop} {s : Shared} {t : Sem Flow} {Q : Flow → Shared → Prop} {h₀ : Heap} {L : Addr} {m : Str → Option Value} (F : Fr h₀ L s.heap m) (h1 : ∀ Q' E', (∀ h' tk' m', Fr h₀ L h' m' → Q' (.ret (.bool true)) { s with heap := h', toks := tk' }) → wpAny M A t Q' E' s)
    (h2 : ∀ h' tk' m', Fr h₀ L h' m' → Q (.ret (.bool true)) { s with heap := h', toks := tk' }) : wpAny M A t Q E s := h1 Q E h2
end Mine
open Mine
set_option maxRecDepth 100000 in
set_option maxHeartbeats 40000000 in
theorem Mine.law_walk : PySem.Challenge.rw_no0048_01.Holds := by
  w_top off
  k_with_none
  k_with "UnrEndW" => (k_dflt ktu_end)
  k_with "InvEndN" => (k_dflt kst_close)
  k_with "callWith" => (((with_reducible show wpAny _ _ (callWith _ (Value.builtin _) (_ :: _) _ _) _ _ _); refine callWith_method1 ?_))
  k_with "ite" => ((k_here; k_openite; first | refine ite_pos (by with_reducible assumption) ?_ | refine ite_neg (by with_reducible assumption) ?_ | refine ite_isFalse (by with_reducible assumption) ?_ | (refine split_dec ?_ ?_ <;> intro _) | (refine split_bool ?_ ?_ <;> intro _)))
  k_with "call builtin:list.pop" => ((k_here; k_dflt (refine pop0 (by k_asm) (by k_asm) (by assumption) (by assumption) (by assumption) (by k_upd) ?_); intro h' i' t' F' N' hI' hn'; (try k_sweep)))
  k_with "call builtin:dict.get" => ((k_here; k_dflt (refine get_T (knd := PySem.strKind _ _) (by k_asm) (by k_mem) (by k_asm) (by k_asm) (strKind_is _ _ _ _) (by assumption) ?_)))
  k_with "getMethod ref" => ((k_here; (with_reducible show wpAny _ _ (getMethod (Value.ref _) (Str.ofString "get") _) _ _ _); k_dflt (refine kdg_method (knd := PySem.strKind _ _) (by k_asm) (by k_mem) (by k_asm) ?_)))
  k_with "newTuple" => ((k_here; k_dflt (refine newTuple_L (by k_asm) (by k_asm) ?_ (by kmk_size)); intro D' h' F' N' l1 l2; (try k_lt l1); (try dsimp only [envOf] at l2); (try dsimp only [envOfC] at l2); (try k_lt2 l2); (try k_sweep)))
  k_with "newList" => ((k_here; k_dflt (refine newList_L (by k_asm) (by k_asm) ?_ (by kmk_size)); intro D' h' F' N' l1 l2; (try k_lt l1); (try dsimp only [envOf] at l2); (try dsimp only [envOfC] at l2); (try k_lt2 l2); (try k_sweep)))
  k_with "call type:list" => ((k_here; (with_reducible show wpAny _ _ (call (Value.type _) [Value.ref _]) _ _ _); k_dflt (refine list_copyL (by k_asm) (by k_asm) (by k_mem) ?_ (by ((rename IntsAre _ _ => hI9); (have q9 := IntsAre.length hI9); simp only [List.size_toArray]; rw [PySem.sizeLine_eq]; omega))); intro D' c' h' F' N' l1 l2; (try k_lt l1); (try dsimp only [envOf] at l2); (try dsimp only [envOfC] at l2); (try k_lt2 l2); (try k_sweep)))
  k_with "eval Dict nil nil" => ((k_here; k_dflt (refine newDict_L (by k_asm) (by k_asm) (TopRead.nolimit (by k_asm)) ?_); intro d' h' o' F' N' l1 l2 lo' hs' fs'; (try k_lt l1); (try dsimp only [envOf] at l2); (try dsimp only [envOfC] at l2); (try k_lt2 l2); (try k_sweep)))
  k_with "exec For Name Name cons nil" => ((k_here; (rename Fr _ _ _ _ => lF'); (with_unfolding_all refine For_turnsG lF' (by exact rfl) ?_)))
  k_with "eval ListComp" => ((k_here; (first | (lct_look; k_dflt (refine comp_X (_F₀ := by k_asm) (by with_unfolding_all rfl) (by decide) (by rfl) (by decide) (by rfl) ?_)) | (lcf_look; k_dflt (refine comp_XU (_F₀ := by k_asm) (by with_unfolding_all rfl) (by decide) (by rfl) (by decide) (by rfl) ?_)))))
  k_with "subscriptTail" => ((k_here; (with_reducible show wpAny _ _ (subscriptTail _ _ (Value.ref _) (Value.str _ _)) _ _ _); k_dflt (first | refine item_T (knd := PySem.strKind _ _) (by k_asm) (by k_mem) (by k_asm) (strKind_is _ _ _ _) (by assumption) ?_ | refine kda_item (knd := PySem.strKind _ _) (by k_asm) (by k_mem) (by k_asm) (strKind_is _ _ _ _) (by assumption) ?_)))
  k_with "SrcXU" => ((k_here; k_dflt (refine SrcXU.tupK (by rfl) (by k_asm) (by k_asm) (by k_asm) (by k_is) (by exact rfl) (by exact rfl) (by exact Nat.le_of_ble_eq_true rfl) ?_); intro g'; lcg_lit))
  k_with "SrcX" => ((k_here; k_dflt (first | (refine SrcX.tupN (by rfl) (by k_asm) (by k_asm) (by k_mem) (by exact Nat.le_of_ble_eq_true rfl) ?_) | (refine SrcX.keys (by rfl) (by k_asm) (by k_asm) (by k_mem) (by assumption) (by assumption) (by first | exact times_len (by assumption) | exact Nat.le_of_ble_eq_true rfl) ?_)); intro g'; (try lct_lit)))
  k_with "CompRestT" => ((with_unfolding_all (refine LCt.CompRestT.succ ?_; intro v' I' oI' C' oC' D' m' h' tk' E' hv' hC' hx' F' N' off' ne'; (obtain ⟨t9', hv9'⟩ := hv'; lcg_open hv9'); (have offc' := off'); (try simp only [LCg.Off3, and_true] at off'))))
  k_with "MINE enter" => ((refine enterR (by k_asm) (by k_asm) (by k_asm) (by k_asm) (by assumption) (by k_asm) (by exact rfl) (by exact rfl) (by assumption) (by k_is) (by k_is) (by ktr_room) (by exact BindsTo.of_eq rfl) (by exact locs rfl) ?_ (by exact rfl) (by exact rfl) (by exact rfl) (by decide); intro g' L' h' FG' F' N' B' X' T' hlt' hLL' hkept'; (try dsimp only); (try k_lift B'); (try k_fold)))
  k_with "MINE sub" => (exact SubL.mem (by k_subL))
  k_with "MINE early" => ((first | rfl | ((simp only [early, pick, tm, Option.map]; (repeat ((first | rw [if_pos (by omega)] | rw [if_neg (by omega)]); (try simp only [pick])))); done)))
  k_with "MINE slot" => (first | exact Slot.gone | exact Slot.nil | exact Slot.time _ _ (by omega) (by omega))
  k_with "MINE times" => (((try simp only [stored_nil, stored_ih, stored_ia, stored_ha, stored_iha]); first | exact ⟨[], [], [], rfl, by walk_at "MINE slot", by walk_at "MINE slot", by walk_at "MINE slot"⟩ | exact ⟨[_], [], [], rfl, by walk_at "MINE slot", by walk_at "MINE slot", by walk_at "MINE slot"⟩ | exact ⟨[], [_], [], rfl, by walk_at "MINE slot", by walk_at "MINE slot", by walk_at "MINE slot"⟩ | exact ⟨[], [], [_], rfl, by walk_at "MINE slot", by walk_at "MINE slot", by walk_at "MINE slot"⟩ | exact ⟨[_], [_], [], rfl, by walk_at "MINE slot", by walk_at "MINE slot", by walk_at "MINE slot"⟩ | exact ⟨[_], [], [_], rfl, by walk_at "MINE slot", by walk_at "MINE slot", by walk_at "MINE slot"⟩ | exact ⟨[], [_], [_], rfl, by walk_at "MINE slot", by walk_at "MINE slot", by walk_at "MINE slot"⟩ | exact ⟨[_], [_], [_], rfl, by walk_at "MINE slot", by walk_at "MINE slot", by walk_at "MINE slot"⟩))
  k_with "MINE enterC" => ((refine enterRC (by k_asm) (by k_asm) (by k_asm) (by k_asm) (by assumption) (by k_asm) (by exact rfl) (by exact rfl) (by assumption) (by k_is) (by k_is) (by ktr_room) (by exact BindsTo.of_eq rfl) (by exact rfl) (by decide +kernel) ?_ (by exact rfl) (by exact rfl) (by exact rfl); intro g' L' h' tk' cells' FG' F' N' Y' B' X' T' l1 hlt' hLL' hkept'; (try k_lt l1); k_cells Y'; (try simp only [List.cons_append, List.nil_append] at N'); (try dsimp only); (try k_lift B'); (try k_fold)))
  k_with "MINE due" => (first | rfl | exact due_t (by assumption) | exact due_f (by assumption) | exact due_g (by assumption) | exact due_n | exact due_f (not_t (by assumption)) | exact due_t (not_f (by assumption)) | exact due_t (not_nt (by assumption)))
  k_with "MINE at" => (((try simp only [stored_nil, stored_ih, stored_ia, stored_ha, stored_iha]); first | exact ⟨none, by with_unfolding_all rfl, by walk_at "MINE due"⟩ | exact ⟨some (_, _), by with_unfolding_all rfl, by walk_at "MINE due"⟩))
  k_with "MINE gts" => ((repeat (first | exact List.forall_mem_nil _ | refine List.forall_mem_cons.mpr ⟨by ((try dsimp only); (try dsimp only [envOf]); (try dsimp only [envOfC]); omega), ?_⟩)))
  k_with "MINE due2" => (first | exact due_t (k' := 0) (by assumption) | exact due_f (by assumption) | exact due_g (by assumption) | exact due_n | exact due_f (not_t (by assumption)) | exact due_t (not_f (by assumption)) | exact due_t (not_nt (by assumption)))
  k_with "MINE periods" => ((rename pick _ _ _ = _ => hE9; (repeat ((rename _ = (_ : Int) * 2 ^ (rangeKs _ _).length => q9); (try rw [period_of q9] at hE9); clear q9))))
  k_with "MINE now" => ((repeat ((rename _ = (_ : Int) * 2 ^ (rangeKs _ _).length => q9); (first | rw [period_of0 q9] | rw [period_of q9] | skip); clear q9)))
  k_with "call ref" => ((k_here; (with_reducible show wpAny _ _ (call (Value.ref 69) _) _ _ _); k_dflt (refine drawA (take_ok (by decide) (by decide)) (by k_asm) (by k_asm) (by k_asm) (by k_asm) (by k_asm) (by assumption) (by k_mem) (by k_mem) (by k_ne) (by first | exact rfl | assumption) (by ktr_room) (by ktr_units) ?_); intro r' ob' ol' tl' h' tk' F' hN' hB' hL9 hO9 hP'; k_dflt (obtain ⟨e9, i', t', e8, h0', h1'⟩ := hP'); subst e9; subst e8; clear hL9 hO9; k_dflt (refine led_in hN' (by k_upd) (by k_upd) ?_); clear hN'; intro N'; (try simp only [List.nil_append] at N'); (try dsimp only); (try k_sweep); (try k_fold)))
  k_with "call ref" => ((k_here; (with_reducible show wpAny _ _ (call (Value.ref 76) _) _ _ _); k_dflt (refine box_ok (by assumption) (by assumption) (by omega) (by k_asm) (by k_asm) (by k_asm) (by k_asm) (by k_asm) (by first | exact rfl | assumption) (by ktr_room) (by ktr_units) ?_); intro r' tl' h' tk' F' N' hL9 hO9 hP'; k_dflt (obtain ⟨b', l', ob', ol', e9, e8, hlb', hB'⟩ := hP'); subst e9; subst e8; (have l1 := hO9 _ (List.mem_cons_self)); (have l3 := hO9 _ (List.mem_cons_of_mem _ List.mem_cons_self)); clear hL9 hO9; (try dsimp only at l1 l3); (try k_lt l1); (try k_lt l3); (try simp only [List.cons_append, List.nil_append] at N'); (try dsimp only); (try (generalize bindL _ _ _ = m9 at F')); (try k_sweep); (try k_fold)))
  k_with "call ref" => ((k_here; (with_reducible show wpAny _ _ (call (Value.ref 83) _) _ _ _); k_dflt (refine drawA (times_ok) (by k_asm) (by k_asm) (by k_asm) (by k_asm) (by k_asm) (by assumption) (by k_mem) (by k_mem) (by k_ne) (by first | exact rfl | assumption) (by ktr_room) (by ktr_units) ?_); intro r' ob' ol' tl' h' tk' F' hN' hB' hL9 hO9 hP'; k_dflt (obtain ⟨d', o', kvs', gi', gh', ga', e9, e8, hD', lo', hT'⟩ := hP'); subst e9; subst e8; (have l1 := hO9 _ (List.mem_singleton.mpr rfl)); (have l2 := hL9 _ (List.mem_singleton.mpr rfl)); clear hL9 hO9; (try dsimp only at l1 l2); (try k_lt l1); (try dsimp only [envOf] at l2); (try dsimp only [envOfC] at l2); (try k_lt2 l2); k_dflt (refine led_in hN' (by k_upd) (by k_upd) ?_); clear hN'; intro N'; (try simp only [List.singleton_append, List.cons_append, List.nil_append] at N'); k_dflt (obtain ⟨hi', hh', ha'⟩ := times_get hT'); (try dsimp only); (try k_sweep); (try k_fold)))
  k_with "call ref" => ((k_here; (with_reducible show wpAny _ _ (call (Value.ref 48) _) _ _ _); k_dflt (refine use1A (by k_asm) (by k_asm) (by k_asm) (by k_asm) (by k_asm) (by k_mem) (pdue_ok (by omega) (by omega) (by omega) (by omega) (by omega) (by omega) (by assumption) (by assumption) (by assumption) (by assumption) (by assumption)) (by first | exact rfl | assumption) (by ktr_room) (by ktr_units) ?_); intro r' tl' h' tk' F' N' hL9 hO9 hP'; k_dflt (refine Exists.elim (pair_letterD hP' (by k_mem) N' hO9) ?_; intro x' hx9'; obtain ⟨ox', N', hP', hx'⟩ := hx9'); clear hL9 hO9; (try simp only [List.cons_append, List.nil_append] at N'); (try dsimp only); (try k_sweep); (try k_fold)))
  k_with "call ref" => ((k_here; (with_reducible show wpAny _ _ (call (Value.ref 95) _) _ _ _); k_dflt (refine use1A (by k_asm) (by k_asm) (by k_asm) (by k_asm) (by k_asm) (by k_mem) (ldue_ok (by omega) (by omega) (by omega) (by omega) (by omega) (by omega) (by assumption) (by assumption) (by assumption)) (by first | exact rfl | assumption) (by ktr_room) (by ktr_units) ?_); intro r' tl' h' tk' F' N' hL9 hO9 hP'; k_dflt (refine Exists.elim (pair_letterD hP' (by k_mem) N' hO9) ?_; intro x' hx9'; obtain ⟨ox', N', hP', hx'⟩ := hx9'); clear hL9 hO9; (try simp only [List.cons_append, List.nil_append] at N'); (try dsimp only); (try k_sweep); (try k_fold)))
  k_with "call ref" => ((k_here; (with_reducible show wpAny _ _ (call (Value.ref 55) _) _ _ _); k_dflt (refine ntimer_go (by assumption) (by k_asm) (by k_asm) (by k_asm) (by k_asm) (by k_asm) (by k_mem) (by k_mem) (by assumption) (by assumption) (by assumption) (by assumption) (by assumption) (by first | exact rfl | assumption) (by ktr_room) (by ktr_units) ?_); intro r' tl' h' tk' F' N' hL9 hO9 hP'; k_dflt (refine Exists.elim (triple_letterD hP' (by k_mem) N' hO9) ?_; intro x' hx9'; obtain ⟨ox', N', hP', hx'⟩ := hx9'); clear hL9 hO9; (try simp only [List.cons_append, List.nil_append] at N'); (try dsimp only); (try k_sweep); (try k_fold)))
  k_with "compareOp NotEq" => ((k_here; k_dflt (first | (refine ne_pairA (by assumption) (by assumption) (by k_asm) (by k_mem) (by k_mem) (by first | exact good_PD | exact good_early) (by ktr_units) ?_) | (refine ne_tripleA (by assumption) (by assumption) (by k_asm) (by k_mem) (by k_mem) (by exact good_NT good_early good_PD) (by ktr_units) ?_))))
  k_with "MINE two" => (exact List.forall_mem_cons.mpr ⟨by k_mem, List.forall_mem_cons.mpr ⟨by k_mem, List.forall_mem_nil _⟩⟩)
  k_with "MINE clean0" => (( (try clear ‹Dflts _ _ _ _ _ _›); (try clear ‹True›); (repeat clear ‹ReadsAllW _ _ _ _ _ _›); (repeat clear ‹Reads _ _ _ _›); (repeat clear ‹Well _ _ _ _›); (repeat clear ‹ReadsAll _ _ _ _›); (repeat clear ‹WData.layableAll _ = _›); (repeat clear ‹WShape.hasAll _ _ _ = _›); (repeat clear ‹PyData.layable0 _ = _›); (repeat clear ‹PyData.layableAll0 _ = _›); (repeat clear ‹Spec.Shape.has _ _ = _›); (repeat clear ‹Heap.CodeRec _ _ _›); (repeat clear ‹BMod _ _ _ _ _›); (repeat clear ‹TopW _ _ _›); (repeat clear ‹TopE _ _ _ _›); (repeat clear ‹Tables _ _ _ _›); (repeat clear ‹Glob _ _ _ _ _ _ _ _›); (repeat clear ‹LooseAre _ _ _›); (repeat clear ‹Flt.MathXP _ _ _›); (repeat clear ‹_ = (#[] : Array _)›); (repeat clear ‹Heap.get? _ _ = _›)))
  k_with "MINE to88" => (repeat' ((fail_if_success (with_reducible show wpAny _ _ (execs (PySem.Stmt.Assign _ _ ⟨88, _, _, _⟩ :: _) _) _ _ _)); (first | (k_unfold; (try dsimp only)) | (k_end; wrow_close) | walk1 | (dsimp only; walk1) | (leave1; walk_say "STEP leave1"; try dsimp only) | fail "no step")))
  refine hd ?_
  k_go0
  refine law_cut (by k_asm) ?_ ?_
  rotate_left
  · intro h' tk' m' F'
    dsimp only
    k_steps
  · intro Q' E' hend
    clear ‹CellsAre _ _ _›
    rename _ = Data.cell _ => d3
    obtain ⟨v3, e3⟩ : ∃ v, _ = Data.cell v := ⟨_, d3⟩
    clear d3
    rename _ = Data.cell (bindC _ _ _ _) => d2
    obtain ⟨v2, e2⟩ : ∃ v, _ = Data.cell v := ⟨_, d2⟩
    clear d2
    rename _ = Data.cell (bindC _ _ _ _) => d1
    obtain ⟨v1, e1⟩ : ∃ v, _ = Data.cell v := ⟨_, d1⟩
    clear d1
    rename Heap.IsList _ _ _ => l0
    rename IntsAre _ _ => i0
    rename Fr _ _ _ _ => F0
    rename News _ _ _ _ => N0
    rename Frag.In _ _ => X0
    rename Top _ _ _ _ _ _ => T0
    rename Below _ _ _ _ => B0
    rename ¬ (_ : Int) < _ => len0
    have len1 := lenOf len0
    clear len0
    walk_at "MINE clean0"
    dsimp only
    (try dsimp only at F0)
    walk_at "MINE to88"
    k_unfold
    dsimp only
    rename Fr _ _ _ _ => F9
    rename News _ _ _ _ => N9
    exact tail88 ⟨B0, F9, X0, thin [true, false, true, false, false, true, false, true, false, false, false, true, true, true] N9, T0⟩ rfl rfl rfl rfl rfl rfl (by assumption) (by assumption) good_PD (by assumption) (by assumption) (by assumption)
      (by assumption) (by assumption) (by assumption) (by assumption) (by assumption) (by assumption) (by assumption) (by assumption) (by omega) (by omega) (by omega) (by omega) (by omega) (by omega) (by omega) (fun h' tk' m' F' => hend h' tk' m' F')
end
theorem PySem.Challenge.cw_no0048_01_holds : PySem.Challenge.rw_no0048_01.Holds := by
  exact Mine.law_walk
