import PyProof.Rows.All
import Wide.All
import OpenK.AllK
import Wide.FinOn
import Lean
import PySem.Challenge.RW_nm0109_01
set_option Elab.async false
set_option maxRecDepth 100000
set_option maxHeartbeats 8000000
section
open PySem PySem.W PyProof.Rows
namespace Mine
open_top hd for PySem.Challenge.rw_nm0109_01
end Mine
end
local macro_rules | `(tactic| walk_at $s:str) => `(tactic| k_extra $s)
section
open PySem PySem.W PySem.Spec PySem.Calls PyProof.Rows PyProof.V
namespace Mine
section
variable {prog : Program} {w : World} {A₀ A : Around} {s : Shared} {base h₀ : Heap} {outer : List Env} {L : Addr} {m : Str → Option Value} {env : Env} {K : Frag}
  {R : Result → Shared → Prop} {name qual : Str} {params : Arguments} {body : List Stmt} {scope : Scope} {dV kV doc pm cdv ct oc : Value} {an od : Option Addr} {osl : Array (Option Value)} {f : Addr} {args : Args} {binds : List (Str × Value)}
  {p : Program} {loose : List Str} {mean : ExcName → Option Value} {mg mb : Str → Option Value}
/-- a call of a def of the text, its ground the very heap of the call: what the caller had is kept -/
theorem enter0
    (B : Below A₀ base outer h₀) (F : Fr h₀ L s.heap m) (X₀ : K.In h₀) (T : Top p loose mean mg mb h₀) (hA : A.frames = some (env :: outer)) (hf : env.frame = some L) (hke : env.scope.kind = .function)
    (ho : K.lookup f = some ⟨oc, od, .func (fnOf name qual params body scope dV kV doc pm an cdv ct), osl⟩) (hcd : codeIn K cdv qual = true) (hroom : A.depth < recursionLimit)
    (hbind : BindsTo s (fnOf name qual params body scope dV kV doc pm an cdv ct) args binds) (hloc : ∀ y ∈ binds, scope.names.lookup y.1 = some .local)
    (h : ∀ L' h₁, Fr h₀ L s.heap m → Fr s.heap L' h₁ (fun y => binds.reverse.lookup y) → News s.heap L' h₁ [] → Below A base (env :: outer) s.heap → K.In s.heap → Top p loose mean mg mb s.heap →
      wpAny (model prog w) (A.deeper (envOf qual scope L' f cdv)) (execs body (envOf qual scope L' f cdv))
        (fun fl s' => LeaveK h₀ L m s.heap R (match fl with | .ret v => v | _ => .none) s')
        (fun e s' => wpAny (model prog w) (A.deeper (envOf qual scope L' f cdv)) (leaving (envOf qual scope L' f cdv) e) (fun _ s'' => R (.error e) s'') (fun e' s'' => R (.error e') s'') s')
        { s with heap := h₁, toks := s.toks + binds.length })
    (hco : scope.isCoroutine = false) (hgen : scope.isGenerator = false) (hk : scope.kind = .function)
    (hcell : ∀ x ∈ scope.names, x.2 ≠ .cell) : codeAny (model prog w) A (.call (.ref f) args) R s := by
  obtain ⟨FG, BG, st, lv⟩ := groundX (R := R) B F (News.nil (h₀ := h₀) (L := L)) hA hf hke
  refine codeAny_call_def (fd := fnOf name qual params body scope dV kV doc pm an cdv ct) (body := body) (binds := binds) hroom ((X₀.keeps F.keep) _ _ ho) rfl (T.nolimit.keeps F.keep) (codeRec_of (X₀.keeps F.keep) hcd) rfl hbind hcell hloc (fun h₁ hns hk₁ => ?_) hco hgen hk
  exact wpAny_mono (h s.heap.objs.size h₁ F ⟨hns, fun b o e => hk₁ b o e, Nat.le_refl _⟩ News.nil BG (X₀.keeps F.keep) (T.keeps F.keep)) (fun fl s' hl => lv _ _ hl) fun _ _ y => y
end
section
variable {prog : Program} {w : World} {A : Around} {E : Value → Shared → Prop} {s : Shared} {env : Env} {h₀ : Heap} {target : Expr} {body : List Stmt} {Q : Flow → Shared → Prop} {ws : List (Addr × String)} {keep : List (Addr × Obj)}
/-- a loop by an invariant J over what is left, the frame's names and the ledger -/
theorem items_inv (J : List Itm → (Str → Option Value) → List (Addr × Obj) → Prop)
    (fin : ∀ m news, J [] m news → ∀ h tk, Fr h₀ env.locals h m → News h₀ env.locals h news → Q .next { s with heap := h, toks := tk })
    (step : ∀ a r m news, J (a :: r) m news → ∀ v h tk, a.Is v h → Fr h₀ env.locals h m → AllObj ws (fun its => News h₀ env.locals h (its ++ news) →
      wpAny (model prog w) A (assign target env v) (fun _ s₂ => wpAny (model prog w) A (execs body env) (UnrPostW h₀ env.locals { s with heap := h, toks := tk } its (fun m' n' => SubL keep n' ∧ J r m' n') Q) E s₂) E { s with heap := h, toks := tk })) :
    ∀ xs m news, J xs m news → ItemsRest prog w A E h₀ env target body Q s ws keep xs m news
  | [], m, news, hJ => fun h tk F N => fin m news hJ h tk F N
  | a :: r, m, news, hJ => by
    intro v h tk ha F
    have st := step a r m news hJ v h tk ha F
    have go : ∀ (ws : List (Addr × String)) (k k' : List (Addr × Obj) → Prop), (∀ its, k its → k' its) → AllObj ws k → AllObj ws k' := by
      intro ws
      induction ws with
      | nil => intro k k' hk x; exact hk _ x
      | cons w r ih => intro k k' hk x o hc; exact ih _ _ (fun its => hk _) (x o hc)
    refine go ws _ _ (fun its x N => ?_) st
    refine wpAny_mono (x N) (fun _ s₂ y => wpAny_mono y (fun fl s₃ z => ?_) fun _ _ e => e) fun _ _ e => e
    have fold : UnrEndW h₀ env.locals { s with heap := h, toks := tk } its (fun m' n' => SubL keep n' ∧ J r m' n') s₃ →
        UnrEndW h₀ env.locals { s with heap := h, toks := tk } its (fun m' n' => SubL keep n' ∧ ItemsRest prog w A E h₀ env target body Q s ws keep r m' n') s₃ := by
      rintro ⟨h', tk', m', n', e, F', N', ho, hk, hj⟩
      exact ⟨h', tk', m', n', e, F', N', ho, hk, items_inv J fin step r m' n' hj⟩
    cases fl with
    | ret v => exact z
    | brk => exact z
    | next => exact fold z
    | cont => exact fold z
/-- the keys of a dict of the ground -/
theorem iter_dictK {K : Type} [DecidableEq K] {knd : KeyKind prog w K} {enc : K → PyData} {D : List (PyData × PyData)} {d : Addr} {m₀ : Str → Option Value} {news : List (Addr × Obj)}
    (hh : A.handled = none) (F : Fr h₀ env.locals s.heap m₀) (N : News h₀ env.locals s.heap news) (T : TabAt knd enc h₀ d D)
    (hkey : ∀ k v, knd.is k v = true → ∃ t, v = kyVal (enc k) t)
    (rest₀ : ∀ I : Addr, (∀ p ∈ news, p.1 < I) → ItemsRest prog w A E h₀ env target body Q s [(I, "dict_keyiterator")] [] (D.map (fun p => Itm.tok (kyVal p.1))) m₀ news) :
    wpAny (model prog w) A (pyIter (.ref d)) (fun it s₂ => TurnsAt prog w A h₀ env target body Q E it s₂) E s := by
  have T1 : TabAt knd enc s.heap d D := T.keep F.keep
  obtain ⟨lo, kvs0, hdo0, _⟩ := T
  obtain ⟨od, hg, _⟩ := Heap.dictOf_iff.mp hdo0
  obtain ⟨_, kvs, hdo, hf⟩ := T1
  obtain ⟨ep, hat⟩ := hdo.dictAt
  have hne : d ≠ s.heap.objs.size := Nat.ne_of_lt hat.lt_size
  refine wpAny_pyIter_dict lo hat ?_
  refine ktg_core (tk0 := s.toks) (keep := []) (KTurns.ofWalks (Walks.dictKeys (knd := knd) hh s.heap.objs.size d hne kvs ep) fun i v s Q E st q => letGo_keyiter st.1 q) (by rw [List.length_map]; exact hf.length.symm) ?_ ?_ ?_ ?_ ?_ ?_ ?_ ?_ (F.push _) (fun p hp => ⟨Heap.get?_push_of_some _ (N p hp).1, (N p hp).2⟩) trivial (rest₀ _ fun p hp => Heap.lt_size (N p hp).1)
  · rintro i v h ⟨k, x, hx, hk⟩
    obtain ⟨dv, hD, hfl⟩ := hf.at hx
    exact ⟨.tok (kyVal (enc k)), by rw [List.getElem?_map, hD]; rfl, hkey k v hk⟩
  · rintro i h ⟨⟨oi, g, c, _⟩, _⟩
    exact ⟨[(s.heap.objs.size, oi)], ⟨⟨rfl, c⟩, trivial⟩, fun p hp => by rw [List.mem_singleton.mp hp]; exact g⟩
  · intro b hb
    have hb' : b = s.heap.objs.size := by simpa using hb
    rw [hb']
    exact ⟨List.mem_cons_self .., next_is_new F⟩
  · intro b hb
    simpa using hb
  · intro b hb
    have hb' : b = s.heap.objs.size ∨ b = d := by simpa using hb
    rcases hb' with e | e
    · exact .inl (by simp [e])
    · exact .inr (.inr ⟨od, by rw [e]; exact hg⟩)
  · intro hI
    have hb' : env.locals = s.heap.objs.size ∨ env.locals = d := by simpa using hI
    rcases hb' with e | e
    · exact absurd F.ns.lt (e ▸ Nat.lt_irrefl _)
    · exact absurd (Heap.lt_size hg) (Nat.not_lt.mpr (e ▸ F.above))
  · intro p hp hI
    exact absurd (Heap.lt_size (N p hp).1) ((List.mem_singleton.mp hI) ▸ Nat.lt_irrefl _)
  · exact ⟨⟨_, Heap.get?_push_size _ rfl, rfl, rfl⟩, hat.push _⟩
end
end Mine
end
section
open PySem PySem.W PySem.Calls PyProof.Rows PyProof.V
namespace Mine
noncomputable def NL : List (Int × Str) := [
  (32, ⟨#[108, 111, 99, 97, 108, 46, 103, 101, 116]⟩),
  (65, ⟨#[105, 51, 50, 46, 99, 111, 110, 115, 116]⟩),
  (33, ⟨#[108, 111, 99, 97, 108, 46, 115, 101, 116]⟩),
  (34, ⟨#[108, 111, 99, 97, 108, 46, 116, 101, 101]⟩),
  (66, ⟨#[105, 54, 52, 46, 99, 111, 110, 115, 116]⟩),
  (2, ⟨#[98, 108, 111, 99, 107]⟩),
  (3, ⟨#[108, 111, 111, 112]⟩),
  (4, ⟨#[105, 102]⟩),
  (5, ⟨#[101, 108, 115, 101]⟩),
  (11, ⟨#[101, 110, 100]⟩),
  (12, ⟨#[98, 114]⟩),
  (13, ⟨#[98, 114, 95, 105, 102]⟩),
  (14, ⟨#[98, 114, 95, 116, 97, 98, 108, 101]⟩),
  (15, ⟨#[114, 101, 116, 117, 114, 110]⟩),
  (16, ⟨#[99, 97, 108, 108]⟩),
  (17, ⟨#[99, 97, 108, 108, 95, 105, 110, 100, 105, 114, 101, 99, 116]⟩),
  (26, ⟨#[100, 114, 111, 112]⟩),
  (27, ⟨#[115, 101, 108, 101, 99, 116]⟩),
  (28, ⟨#[115, 101, 108, 101, 99, 116]⟩),
  (0, ⟨#[117, 110, 114, 101, 97, 99, 104, 97, 98, 108, 101]⟩),
  (1, ⟨#[110, 111, 112]⟩),
  (18, ⟨#[114, 101, 116, 117, 114, 110, 95, 99, 97, 108, 108]⟩),
  (19, ⟨#[114, 101, 116, 117, 114, 110, 95, 99, 97, 108, 108, 95, 105, 110, 100, 105, 114, 101, 99, 116]⟩),
  (35, ⟨#[103, 108, 111, 98, 97, 108, 46, 103, 101, 116]⟩),
  (36, ⟨#[103, 108, 111, 98, 97, 108, 46, 115, 101, 116]⟩),
  (37, ⟨#[116, 97, 98, 108, 101, 46, 103, 101, 116]⟩),
  (38, ⟨#[116, 97, 98, 108, 101, 46, 115, 101, 116]⟩),
  (40, ⟨#[105, 51, 50, 46, 108, 111, 97, 100]⟩),
  (41, ⟨#[105, 54, 52, 46, 108, 111, 97, 100]⟩),
  (44, ⟨#[105, 51, 50, 46, 108, 111, 97, 100, 56, 95, 115]⟩),
  (45, ⟨#[105, 51, 50, 46, 108, 111, 97, 100, 56, 95, 117]⟩),
  (46, ⟨#[105, 51, 50, 46, 108, 111, 97, 100, 49, 54, 95, 115]⟩),
  (47, ⟨#[105, 51, 50, 46, 108, 111, 97, 100, 49, 54, 95, 117]⟩),
  (48, ⟨#[105, 54, 52, 46, 108, 111, 97, 100, 56, 95, 115]⟩),
  (49, ⟨#[105, 54, 52, 46, 108, 111, 97, 100, 56, 95, 117]⟩),
  (50, ⟨#[105, 54, 52, 46, 108, 111, 97, 100, 49, 54, 95, 115]⟩),
  (51, ⟨#[105, 54, 52, 46, 108, 111, 97, 100, 49, 54, 95, 117]⟩),
  (52, ⟨#[105, 54, 52, 46, 108, 111, 97, 100, 51, 50, 95, 115]⟩),
  (53, ⟨#[105, 54, 52, 46, 108, 111, 97, 100, 51, 50, 95, 117]⟩),
  (54, ⟨#[105, 51, 50, 46, 115, 116, 111, 114, 101]⟩),
  (55, ⟨#[105, 54, 52, 46, 115, 116, 111, 114, 101]⟩),
  (58, ⟨#[105, 51, 50, 46, 115, 116, 111, 114, 101, 56]⟩),
  (59, ⟨#[105, 51, 50, 46, 115, 116, 111, 114, 101, 49, 54]⟩),
  (60, ⟨#[105, 54, 52, 46, 115, 116, 111, 114, 101, 56]⟩),
  (61, ⟨#[105, 54, 52, 46, 115, 116, 111, 114, 101, 49, 54]⟩),
  (62, ⟨#[105, 54, 52, 46, 115, 116, 111, 114, 101, 51, 50]⟩),
  (63, ⟨#[109, 101, 109, 111, 114, 121, 46, 115, 105, 122, 101]⟩),
  (64, ⟨#[109, 101, 109, 111, 114, 121, 46, 103, 114, 111, 119]⟩),
  (167, ⟨#[105, 51, 50, 46, 119, 114, 97, 112, 95, 105, 54, 52]⟩),
  (172, ⟨#[105, 54, 52, 46, 101, 120, 116, 101, 110, 100, 95, 105, 51, 50, 95, 115]⟩),
  (173, ⟨#[105, 54, 52, 46, 101, 120, 116, 101, 110, 100, 95, 105, 51, 50, 95, 117]⟩),
  (192, ⟨#[105, 51, 50, 46, 101, 120, 116, 101, 110, 100, 56, 95, 115]⟩),
  (193, ⟨#[105, 51, 50, 46, 101, 120, 116, 101, 110, 100, 49, 54, 95, 115]⟩),
  (194, ⟨#[105, 54, 52, 46, 101, 120, 116, 101, 110, 100, 56, 95, 115]⟩),
  (195, ⟨#[105, 54, 52, 46, 101, 120, 116, 101, 110, 100, 49, 54, 95, 115]⟩),
  (196, ⟨#[105, 54, 52, 46, 101, 120, 116, 101, 110, 100, 51, 50, 95, 115]⟩),
  (208, ⟨#[114, 101, 102, 46, 110, 117, 108, 108]⟩),
  (209, ⟨#[114, 101, 102, 46, 105, 115, 95, 110, 117, 108, 108]⟩),
  (210, ⟨#[114, 101, 102, 46, 102, 117, 110, 99]⟩),
  (64520, ⟨#[109, 101, 109, 111, 114, 121, 46, 105, 110, 105, 116]⟩),
  (64521, ⟨#[100, 97, 116, 97, 46, 100, 114, 111, 112]⟩),
  (64522, ⟨#[109, 101, 109, 111, 114, 121, 46, 99, 111, 112, 121]⟩),
  (64523, ⟨#[109, 101, 109, 111, 114, 121, 46, 102, 105, 108, 108]⟩),
  (64524, ⟨#[116, 97, 98, 108, 101, 46, 105, 110, 105, 116]⟩),
  (64525, ⟨#[101, 108, 101, 109, 46, 100, 114, 111, 112]⟩),
  (64526, ⟨#[116, 97, 98, 108, 101, 46, 99, 111, 112, 121]⟩),
  (64527, ⟨#[116, 97, 98, 108, 101, 46, 103, 114, 111, 119]⟩),
  (64528, ⟨#[116, 97, 98, 108, 101, 46, 115, 105, 122, 101]⟩),
  (64529, ⟨#[116, 97, 98, 108, 101, 46, 102, 105, 108, 108]⟩)]
noncomputable def TL : List Str := [Str.ofString "eqz", Str.ofString "eq", Str.ofString "ne", Str.ofString "lt_s", Str.ofString "lt_u", Str.ofString "gt_s", Str.ofString "gt_u", Str.ofString "le_s", Str.ofString "le_u", Str.ofString "ge_s", Str.ofString "ge_u"]
noncomputable def SL : List Str := [Str.ofString "clz", Str.ofString "ctz", Str.ofString "popcnt", Str.ofString "add", Str.ofString "sub", Str.ofString "mul", Str.ofString "div_s", Str.ofString "div_u", Str.ofString "rem_s", Str.ofString "rem_u", Str.ofString "and", Str.ofString "or", Str.ofString "xor", Str.ofString "shl", Str.ofString "shr_s", Str.ofString "shr_u", Str.ofString "rotl", Str.ofString "rotr"]
abbrev PClaim (w : World) (loose : List Str) (mean : ExcName → Option Value) (mg mb : Str → Option Value) (f : Addr) (vs : List Value) (R : Value → Prop) : Prop :=
  ∀ (dp un : Nat) (gd : Option (List Code)) (cn : Str) (cs : Scope) (a : Addr) (ccd : Value) (cl : List (Str × Addr)) (outer : List Env) (A₀ : Around) (base h₀ : Heap) (L : Addr) (m : Str → Option Value) (s : Shared) (Q E : Value → Shared → Prop),
    Below A₀ base outer h₀ → Fr h₀ L s.heap m → (hd.heap_39 w.params).In h₀ → Top hd.view_39 loose mean mg mb h₀ → cs.kind = .function → dp + 1 < recursionLimit → un + 8 < cLine →
    (∀ (v : Value) (h' : Heap) (tk' : Nat), R v → (∀ b o, s.heap.get? b = some o → h'.get? b = some o) → Q v { s with heap := h', toks := tk' }) →
      wpAny (model PySem.Challenge.rw_nm0109_01.row.prog w) (ktrTop dp un gd cn cs L a ccd cl outer) (call (.ref f) vs) Q E s
noncomputable def ND : List (PyData × PyData) := NL.map fun p => (PyData.int p.1, PyData.str p.2)
theorem names_tab {P : Params} (w : World) (prog : Program) {h : Heap} (X : (hd.heap_39 P).In h) : IntTab prog w h 22 ND := by
  have q := kt_keyed_in (a := 22) (D := NL.map fun p => (p.1, PyData.str p.2)) X (by kernel_rfl) prog w
  rw [List.map_map] at q
  exact q
end Mine
end
section
open PySem PySem.W PySem.Spec PySem.Calls PyProof.Rows PyProof.V
noncomputable section
namespace Mine
theorem strsAre_len : ∀ {vs : List Value} {ys : List Str}, StrsAre vs ys → vs.length = ys.length
  | _, _, .nil => rfl
  | _, _, .cons _ _ h => by rw [List.length_cons, List.length_cons, strsAre_len h]
theorem strsAre_get : ∀ {vs : List Value} {ys : List Str}, StrsAre vs ys → ∀ (i : Nat) (y : Str), ys[i]? = some y → ∃ t : Tok, vs[i]? = some (Value.str y t)
  | _, _, .nil, i, y, e => by simp at e
  | _, _, .cons z t h, 0, y, e => by simp at e; subst e; exact ⟨t, rfl⟩
  | _, _, .cons z t h, i + 1, y, e => by simpa using strsAre_get h i y (by simpa using e)
section
variable {prog : Program} {w : World} {A : Around} {E : Value → Shared → Prop} {s : Shared}
theorem tuple_index_tree {t : Addr} {items : Array Value} {ys : List Str} {x : Str} {u : Tok} {P : PySem.Fin → Shared → Prop} (ht : IsTup s.heap t items) (hi : StrsAre items.toList ys) (hin : x ∈ ys)
    (h : P (.done (.ret (.int (ys.idxOf x : Nat) s.toks))) { s with toks := s.toks + 1 }) : wpAny (model prog w) A (Builtin.«tuple.index» ⟨[.ref t, .str x u], []⟩) P E s := by
  have hlen := strsAre_len hi
  have hj : ys.idxOf x < ys.length := List.idxOf_lt_length_iff.mpr hin
  unfold Builtin.«tuple.index»
  refine wpAny_bind (m := selfAndSome _ _ _ _ _) (wpAny_pure ?_)
  refine wpAny_bind (tupleItemsOf_ ht ?_)
  dsimp only
  refine wpAny_bind (wpAny_pure ?_)
  refine wpAny_bind (wpAny_pure ?_)
  rw [Std.Legacy.Range.forIn_eq_forIn_range']
  have hsz : ([0:min items.size items.size] : Std.Legacy.Range).size = ys.length := by
    simp [Std.Legacy.Range.size, ← hlen]
  rw [hsz]
  show wpAny _ _ (forIn (List.range' 0 ys.length 1) _ _ >>= _) _ _ _
  refine wpAny_bind (wpAny_mono (wpAny_forIn_list _ (fun rest b s' => b = (none, ()) ∧ s' = s ∧ ∃ i, i ≤ ys.length ∧ rest = List.range' i (ys.length - i) ∧ i ≤ ys.idxOf x)
    (fun b s' => b.1 = some (PySem.Fin.done (.ret (.int (ys.idxOf x : Nat) s.toks))) ∧ s' = { s with toks := s.toks + 1 }) ?_ ?_ _ _ ⟨rfl, rfl, 0, Nat.zero_le _, by rw [Nat.sub_zero], Nat.zero_le _⟩) ?_ fun _ _ e => e)
  · rintro k rest b s' ⟨rfl, rfl, i, hi1, hr, hi2⟩
    have hlt : i < ys.length := Nat.lt_of_le_of_lt hi2 hj
    obtain ⟨n, hn⟩ : ∃ n, ys.length - i = n + 1 := ⟨ys.length - i - 1, by omega⟩
    rw [hn, List.range'_succ] at hr
    obtain ⟨rfl, rfl⟩ := List.cons.inj hr
    obtain ⟨tk, hv⟩ := strsAre_get hi k ys[k] (List.getElem?_eq_getElem hlt)
    have hv' : items[k]? = some (Value.str ys[k] tk) := by simpa using hv
    rw [hv']
    dsimp only
    refine wpAny_bind (eqBool_str ?_)
    by_cases he : ys[k] = x
    · have e1 : (ys[k] == x) = true := by simpa using he
      have e2 : k = ys.idxOf x := by
        rcases Nat.lt_or_ge k (ys.idxOf x) with h' | h'
        · exact absurd he (by simpa using List.not_of_lt_findIdx h')
        · omega
      rw [e1]
      simp only [if_true]
      refine wpAny_bind (m := retInt _) ?_
      rw [e2]
      exact wpAny_bind (wpAny_mkInt (wpAny_pure (wpAny_pure ⟨rfl, rfl⟩)))
    · have e1 : (ys[k] == x) = false := by simpa using he
      rw [e1]
      simp only [Bool.false_eq_true, if_false]
      refine wpAny_pure ⟨rfl, rfl, k + 1, by omega, by congr 1; omega, ?_⟩
      rcases Nat.lt_or_ge k (ys.idxOf x) with h' | h'
      · omega
      · have e2 : k = ys.idxOf x := by omega
        exact absurd (by simpa [← e2] using List.getElem_idxOf (x := x) (xs := ys) (by rw [← e2]; exact hlt)) he
  · rintro b s' ⟨rfl, rfl, i, hi1, hr, hi2⟩
    exfalso
    have : ys.length - i = 0 := by simpa using (congrArg List.length hr).symm
    omega
  · rintro b s' ⟨hb, rfl⟩
    rw [hb]
    exact wpAny_pure h
theorem tuple_index_strs {t : Addr} {items : Array Value} {ys : List Str} {x : Str} {u : Tok} {Q : Value → Shared → Prop} (ht : IsTup s.heap t items) (hi : StrsAre items.toList ys) (hin : x ∈ ys)
    (h : Q (.int (ys.idxOf x : Nat) s.toks) { s with toks := s.toks + 1 }) : wpAny (model prog w) A (call (.builtin "tuple.index") [.ref t, .str x u]) Q E s :=
  wpAny_call_entry PySem.F.slot_tuple_index ht.typeIs PySem.F.entry_tuple_index (tuple_index_tree ht hi hin ⟨_, rfl, h⟩) (PySem.F.args_tuple_index_2 _ _)
end
end Mine
end
end
section
open PySem PySem.W PySem.Calls PyProof.Rows PyProof.V
noncomputable section
namespace Mine
noncomputable def nmCode (x : Str) : List (Int × Str) → Option Int
  | [] => none
  | (k, s) :: r => if s = x ∧ k ≠ 28 then some k else nmCode x r
noncomputable def inRow (x : Str) (p : Str) (ws : List Str) : Bool := Txt.slice x none (some 4) == p && ws.any (· == Txt.slice x (some 4) none)
noncomputable def codeO (x : Str) : Option Int :=
  if inRow x (Str.ofString "i32.") TL then some (69 + (TL.idxOf (Txt.slice x (some 4) none) : Nat))
  else if inRow x (Str.ofString "i64.") TL then some (80 + (TL.idxOf (Txt.slice x (some 4) none) : Nat))
  else if inRow x (Str.ofString "i32.") SL then some (103 + (SL.idxOf (Txt.slice x (some 4) none) : Nat))
  else if inRow x (Str.ofString "i64.") SL then some (121 + (SL.idxOf (Txt.slice x (some 4) none) : Nat))
  else nmCode x NL
noncomputable def ofO (o : Option Int) : PyData := match o with
  | some k => .int k
  | none => .none
theorem lookup_NL : ∀ {l : List (Int × Str)} {k : Int} {x : Str}, (l.map (·.1)).Nodup → (k, x) ∈ l → Spec.lookup (.int k) (l.map fun p => (PyData.int p.1, PyData.str p.2)) = some (.str x)
  | (a, y) :: r, k, x, nd, hm => by
    rw [List.map_cons] at nd
    obtain ⟨h1, h2⟩ := List.nodup_cons.mp nd
    show (if Spec.same (.int a) (.int k) then some (PyData.str y) else _) = _
    have e : Spec.same (.int a) (.int k) = decide (a = k) := PyProof.V.same_int a k
    rw [e]
    rcases List.mem_cons.mp hm with q | q
    · cases q; simp
    · have hne : a ≠ k := fun z => h1 (z ▸ List.mem_map_of_mem (f := (·.1)) q)
      simp [hne]
      exact lookup_NL h2 q
theorem nodup_NL : (NL.map (·.1)).Nodup := by decide +kernel
theorem ky_int (k : Int) (v : Value) (h : Value.isInt k v = true) : ∃ t, v = kyVal (.int k) t := by
  obtain ⟨t, rfl⟩ := PySem.Value.isInt_shape h
  exact ⟨t, rfl⟩
section
variable {prog : Program} {w : World} {A : Around} {E : Value → Shared → Prop} {s : Shared} {env : Env} {h₀ : Heap} {target : Expr} {body : List Stmt} {Q : Flow → Shared → Prop}
def CJ (x : Str) (y : Str) (m : Str → Option Value) (r : List (Int × Str)) (m' : Str → Option Value) (n' : List (Addr × Obj)) : Prop :=
  n' = [] ∧ (∃ c, m' = fun z => if z = y then c else m z) ∧ nmCode x NL = nmCode x r
theorem codes_iter {P : Params} {m : Str → Option Value} {x : Str} (y : Str) (hxl : x.length ≤ 1000)
    (hh : A.handled = none) (F : Fr h₀ env.locals s.heap m) (N : News h₀ env.locals s.heap []) (X : (hd.heap_39 P).In h₀)
    (nxt : nmCode x NL = none → ∀ h tk c, Fr h₀ env.locals h (fun z => if z = y then c else m z) → News h₀ env.locals h [] → Q .next { s with heap := h, toks := tk })
    (turn : ∀ k nm t c h tk I io r, Spec.lookup (.int k) ND = some (.str nm) → nmCode x NL = nmCode x ((k, nm) :: r) → Fr h₀ env.locals h (fun z => if z = y then c else m z) → io.cls = .type "dict_keyiterator" →
      News h₀ env.locals h [(I, io)] → wpAny (model prog w) A (assign target env (.int k t)) (fun _ s₂ => wpAny (model prog w) A (execs body env)
        (UnrPostW h₀ env.locals { s with heap := h, toks := tk } [(I, io)] (fun m' n' => SubL [] n' ∧ CJ x y m r m' n') Q) E s₂) E { s with heap := h, toks := tk }) :
    wpAny (model prog w) A (pyIter (.ref 22)) (fun it s₂ => TurnsAt prog w A h₀ env target body Q E it s₂) E s := by
  refine iter_dictK (knd := PySem.intKind prog w) (enc := PyData.int) (D := ND) hh F N (names_tab w prog X) ky_int fun I l1 => ?_
  refine items_inv (J := fun xs m' n' => ∃ r : List (Int × Str), (∀ p ∈ r, p ∈ NL) ∧ xs = r.map (fun p => Itm.tok (kyVal (.int p.1))) ∧ CJ x y m r m' n') ?_ ?_ _ _ _
    ⟨NL, fun p hp => hp, by unfold ND; rw [List.map_map]; rfl, rfl, ⟨m y, funext fun z => by by_cases h : z = y <;> simp [h]⟩, rfl⟩
  · rintro m' n' ⟨r, hr, hx, rfl, ⟨c, rfl⟩, hn⟩ h tk F' N'
    have : r = [] := by cases r with | nil => rfl | cons a b => simp at hx
    subst this
    exact nxt hn h tk c F' N'
  · rintro a xs m' n' ⟨r, hr, hx, rfl, ⟨c, rfl⟩, hn⟩ v h tk ha F'
    obtain ⟨⟨k, nm⟩, r', rfl⟩ : ∃ p r', r = p :: r' := by cases r with | nil => simp at hx | cons a b => exact ⟨a, b, rfl⟩
    rw [List.map_cons] at hx
    obtain ⟨rfl, rfl⟩ := List.cons.inj hx
    obtain ⟨t, hv⟩ := ha
    have hv' : v = .int k t := hv
    subst hv'
    refine AllObj.cons fun io hc => AllObj.nil fun N' => ?_
    refine wpAny_mono (turn k nm t c h tk I io r' (lookup_NL nodup_NL (hr _ (List.mem_cons_self ..))) hn F' hc N') (fun _ s₂ h₂ => wpAny_mono h₂ (fun fl s₃ z => ?_) fun _ _ e => e) fun _ _ e => e
    have fold : UnrEndW h₀ env.locals { s with heap := h, toks := tk } [(I, io)] (fun m' n' => SubL [] n' ∧ CJ x y m r' m' n') s₃ →
        UnrEndW h₀ env.locals { s with heap := h, toks := tk } [(I, io)] (fun m' n' => SubL [] n' ∧ ∃ r : List (Int × Str), (∀ p ∈ r, p ∈ NL) ∧ r'.map (fun p => Itm.tok (kyVal (.int p.1))) = r.map (fun p => Itm.tok (kyVal (.int p.1))) ∧ CJ x y m r m' n') s₃ := by
      rintro ⟨h', tk', m₁, n₁, e, F₁, N₁, ho, hk, hj⟩
      exact ⟨h', tk', m₁, n₁, e, F₁, N₁, ho, hk, r', fun p hp => hr p (List.mem_cons_of_mem _ hp), rfl, hj⟩
    cases fl with
    | ret v => exact z
    | brk => exact z
    | next => exact fold z
    | cont => exact fold z
end
theorem cj_mk {x y : Str} {m : Str → Option Value} {r : List (Int × Str)} {c v : Option Value} (h : nmCode x NL = nmCode x r) : CJ x y m r (fun z => if z = y then v else if z = y then c else m z) [] :=
  ⟨rfl, ⟨v, funext fun z => by by_cases q : z = y <;> simp [q]⟩, h⟩
theorem nm_next1 {x nm : Str} {k : Int} {r : List (Int × Str)} (h : nmCode x NL = nmCode x ((k, nm) :: r)) (e : (nm == x) = false) : nmCode x NL = nmCode x r := by
  rw [h]
  have e' : ¬ nm = x := by simpa using e
  show (if nm = x ∧ k ≠ 28 then _ else _) = _
  rw [if_neg (fun q => e' q.1)]
theorem nm_next2 {x nm : Str} {k : Int} {r : List (Int × Str)} (h : nmCode x NL = nmCode x ((k, nm) :: r)) (e : k = 28) : nmCode x NL = nmCode x r := by
  rw [h]
  show (if nm = x ∧ k ≠ 28 then _ else _) = _
  rw [if_neg (fun q => q.2 e)]
theorem nm_here {x nm : Str} {k : Int} {r : List (Int × Str)} (h : nmCode x NL = nmCode x ((k, nm) :: r)) (e : (nm == x) = true) (hk : k ≠ 28) : nmCode x NL = some k := by
  rw [h]
  have e' : nm = x := by simpa using e
  show (if nm = x ∧ k ≠ 28 then _ else _) = _
  rw [if_pos ⟨e', hk⟩]
theorem row_ne : (Str.ofString "i32." == Str.ofString "i64.") = false := by decide +kernel
theorem row_t {x p : Str} {ws : List Str} (h : (Txt.slice x none (some 4) == p) = true) (h2 : ws.any (· == Txt.slice x (some 4) none) = true) : inRow x p ws = true := by unfold inRow; rw [h, h2]; rfl
section
variable {x : Str} {t : Tok}
end
theorem flat_str_of {v : Value} {x : Str} (h : Flat v (.str x)) : ∃ t, v = .str x t := by
  have q := h default
  cases q
  exact ⟨_, rfl⟩
theorem TL_are {P : Params} : ∃ vs n, (hd.heap_39 P).lookup 15 = some ⟨.type "tuple", none, .seq vs n, #[]⟩ ∧ StrsAre vs.toList TL :=
  ⟨_, _, rfl, by repeat' constructor⟩
theorem SL_are {P : Params} : ∃ vs n, (hd.heap_39 P).lookup 16 = some ⟨.type "tuple", none, .seq vs n, #[]⟩ ∧ StrsAre vs.toList SL :=
  ⟨_, _, rfl, by repeat' constructor⟩
section
variable {prog : Program} {w : World} {A : Around} {E : Value → Shared → Prop} {s : Shared} {P : Params} {h : Heap} {x : Str} {u : Tok}
theorem any_mem {l : List Str} {x : Str} (h : l.any (· == x) = true) : x ∈ l := by simpa using h
theorem meth_tup {a : Addr} {vs : Array Value} {n : Nat} {pl : Sem Bool} {Q : Value × List Value → Shared → Prop} (e : (hd.heap_39 P).lookup a = some ⟨.type "tuple", none, .seq vs n, #[]⟩) (X : (hd.heap_39 P).In h) (k : ∀ b o, h.get? b = some o → s.heap.get? b = some o) (q : Q (.builtin "tuple.index", [.ref a]) s) : wpAny (model prog w) A (getMethod (.ref a) "index" pl) Q E s := by
  have g := k _ _ (X _ _ e)
  exact getMethod_builtin ⟨_, g, rfl⟩ PySem.F.plainAttrs_tuple PySem.F.slot_tuple_index PySem.F.type_tuple_index (fun b hb => by cases hb; exact ⟨_, g, rfl⟩) q
end
end Mine
end
end
section
open PySem PySem.W PySem.Spec PySem.Calls PyProof.Rows PyProof.V
noncomputable section
namespace Mine
/-- two frames agree but for some names -/
def Off (names : List Str) (m m' : Str → Option Value) : Prop := ∀ y, y ∉ names → m' y = m y
theorem Off.refl (names : List Str) (m : Str → Option Value) : Off names m m := fun _ _ => rfl
theorem Off.upd {names : List Str} {m m' : Str → Option Value} {x : Str} {v : Option Value} (h : Off names m m') (hx : x ∈ names) : Off names m (fun y => if y = x then v else m' y) := by
  intro y hy
  have : y ≠ x := fun e => hy (e ▸ hx)
  show (if y = x then v else m' y) = m y
  rw [if_neg this]; exact h y hy
theorem Off.trans {names : List Str} {m m' m'' : Str → Option Value} (h : Off names m m') (h' : Off names m' m'') : Off names m m'' := fun y hy => (h' y hy).trans (h y hy)
theorem Off.sub {names names' : List Str} {m m' : Str → Option Value} (h : Off names m m') (hs : ∀ x ∈ names, x ∈ names') : Off names' m m' := fun y hy => h y fun q => hy (hs y q)
theorem Off.one {a : Str} {m m' : Str → Option Value} (h : Off [a] m m') : ∃ c, m' = fun y => if y = a then c else m y :=
  ⟨m' a, funext fun y => by
    by_cases q : y = a
    · rw [if_pos q, q]
    · rw [if_neg q]; exact h y (by simp [q])⟩
theorem Off.two {a b : Str} {m m' : Str → Option Value} (h : Off [a, b] m m') : ∃ c d, m' = fun y => if y = a then c else if y = b then d else m y :=
  ⟨m' a, m' b, funext fun y => by
    by_cases q : y = a
    · rw [if_pos q, q]
    · rw [if_neg q]
      by_cases q2 : y = b
      · rw [if_pos q2, q2]
      · rw [if_neg q2]; exact h y (by simp [q, q2])⟩
theorem Off.five {a b c d e : Str} {m m' : Str → Option Value} (h : Off [a, b, c, d, e] m m') : ∃ c1 c2 c3 c4 c5, m' = fun y => if y = a then c1 else if y = b then c2 else if y = c then c3 else if y = d then c4 else if y = e then c5 else m y :=
  ⟨m' a, m' b, m' c, m' d, m' e, funext fun y => by
    by_cases q : y = a
    · rw [if_pos q, q]
    · rw [if_neg q]
      by_cases q2 : y = b
      · rw [if_pos q2, q2]
      · rw [if_neg q2]
        by_cases q3 : y = c
        · rw [if_pos q3, q3]
        · rw [if_neg q3]
          by_cases q4 : y = d
          · rw [if_pos q4, q4]
          · rw [if_neg q4]
            by_cases q5 : y = e
            · rw [if_pos q5, q5]
            · rw [if_neg q5]; exact h y (by simp [q, q2, q3, q4, q5])⟩
inductive All2 {α : Type} (R : Value → α → Prop) : List Value → List α → Prop
  | nil : All2 R [] []
  | cons {v a vs as} : R v a → All2 R vs as → All2 R (v :: vs) (a :: as)
theorem unrEnd_mono {h₀ : Heap} {L : Addr} {s : Shared} {its : List (Addr × Obj)} {P P' : (Str → Option Value) → List (Addr × Obj) → Prop} {Q : Flow → Shared → Prop} {M : Model} {A : Around} {E : Value → Shared → Prop} {α : Type} {t : Sem α} {k : α → Sem Flow} {s₀ : Shared}
    (hp : ∀ m n, P m n → P' m n) (h : wpAny M A t (fun a s₂ => wpAny M A (k a) (UnrPostW h₀ L s its P Q) E s₂) E s₀) : wpAny M A t (fun a s₂ => wpAny M A (k a) (UnrPostW h₀ L s its P' Q) E s₂) E s₀ := by
  refine wpAny_mono h (fun _ s₂ y => wpAny_mono y (fun fl s₃ z => ?_) fun _ _ e => e) fun _ _ e => e
  have fold : UnrEndW h₀ L s its P s₃ → UnrEndW h₀ L s its P' s₃ := by
    rintro ⟨h', tk', m', n', e, F', N', ho, hk⟩
    exact ⟨h', tk', m', n', e, F', N', ho, hp _ _ hk⟩
  cases fl with
  | ret v => exact z
  | brk => exact z
  | next => exact fold z
  | cont => exact fold z
section
variable {prog : Program} {w : World} {A : Around} {E : Value → Shared → Prop} {s : Shared} {env : Env} {h₀ : Heap} {target : Expr} {body : List Stmt} {Q : Flow → Shared → Prop}
/-- a loop over a list of the ledger, by an invariant over what is left -/
theorem list_iter {α : Type} (R : Value → α → Prop) {ax : Addr} {lo : Obj} {vs : List Value} {as : List α} {n : Nat} {m : Str → Option Value} {news : List (Addr × Obj)} (names : List Str) (J : List α → List (Addr × Obj) → Prop)
    (hh : A.handled = none) (F : Fr h₀ env.locals s.heap m) (N : News h₀ env.locals s.heap news) (hm : (ax, lo) ∈ news) (hc : lo.cls = .type "list") (hd : lo.data = .seq vs.toArray n)
    (hR : All2 R vs as) (h0 : J as news)
    (fin : ∀ n' m' h tk, J [] n' → Off names m m' → Fr h₀ env.locals h m' → News h₀ env.locals h n' → Q .next { s with heap := h, toks := tk })
    (turn : ∀ v a r n' m' h tk I io, R v a → J (a :: r) n' → Off names m m' → Fr h₀ env.locals h m' → io.cls = .type "list_iterator" → (∀ p ∈ news, p.1 < I) → News h₀ env.locals h ((I, io) :: n') →
      wpAny (model prog w) A (assign target env v) (fun _ s₂ => wpAny (model prog w) A (execs body env)
        (UnrPostW h₀ env.locals { s with heap := h, toks := tk } [(I, io)] (fun m'' n'' => SubL [(ax, lo)] n'' ∧ J r n'' ∧ Off names m m'') Q) E s₂) E { s with heap := h, toks := tk }) :
    wpAny (model prog w) A (pyIter (.ref ax)) (fun it s₂ => TurnsAt prog w A h₀ env target body Q E it s₂) E s := by
  refine iter_listTurns hh F N hm hc hd fun I l1 => ?_
  refine items_inv (J := fun xs m' n' => ∃ us r, xs = us.map Itm.val ∧ All2 R us r ∧ J r n' ∧ Off names m m') ?_ ?_ _ _ _ ⟨vs, as, rfl, hR, h0, Off.refl _ _⟩
  · rintro m' n' ⟨us, r, hx, hr, hj, ho⟩ h tk F' N'
    have : us = [] := by cases us with | nil => rfl | cons a b => simp at hx
    subst this
    cases hr
    exact fin n' m' h tk hj ho F' N'
  · rintro a xs m' n' ⟨us, r, hx, hr, hj, ho⟩ v h tk ha F'
    cases hr with
    | nil => simp at hx
    | @cons u b us r hb hr =>
      rw [List.map_cons] at hx
      obtain ⟨rfl, rfl⟩ := List.cons.inj hx
      have e : v = u := ha
      subst e
      refine AllObj.cons fun io hio => AllObj.nil fun N' => ?_
      refine unrEnd_mono (fun m n q => ⟨q.1, _, r, rfl, hr, q.2.1, q.2.2⟩) (turn v b r n' m' h tk I io hb hj ho F' hio l1 N')
/-- a loop over enumerate of a list of the ledger -/
theorem enum_iter {α : Type} (R : Value → α → Prop) {elts : List Expr} {k : Nat} {pos : Pos} {ax : Addr} {lo : Obj} {vs : List Value} {as : List α} {n : Nat} {m : Str → Option Value} {news : List (Addr × Obj)} (names : List Str) (J : Nat → List α → List (Addr × Obj) → Prop)
    (hh : A.handled = none) (F : Fr h₀ env.locals s.heap m) (N : News h₀ env.locals s.heap news) (hm : (ax, lo) ∈ news) (hc : lo.cls = .type "list") (hd : lo.data = .seq vs.toArray n)
    (hR : All2 R vs as) (h0 : J 0 as news)
    (fin : ∀ i n' m' h tk, J i [] n' → Off names m m' → Fr h₀ env.locals h m' → News h₀ env.locals h n' → Q .next { s with heap := h, toks := tk })
    (turn : ∀ i T t v a r n' m' h tk I io ie, R v a → J i (a :: r) n' → Off names m m' → IsTup h T #[.int (i : Int) t, v] → Fr h₀ env.locals h m' → ie.cls = .type "enumerate" → io.cls = .type "list_iterator" → (∀ p ∈ news, p.1 < I) → News h₀ env.locals h ((I + 1, ie) :: (I, io) :: n') →
      wpAny (model prog w) A (assign (.Tuple elts k pos) env (.ref T)) (fun _ s₂ => wpAny (model prog w) A (execs body env)
        (UnrPostW h₀ env.locals { s with heap := h, toks := tk } [(I + 1, ie), (I, io)] (fun m'' n'' => SubL [(ax, lo)] n'' ∧ J (i + 1) r n'' ∧ Off names m m'') Q) E s₂) E { s with heap := h, toks := tk }) :
    wpAny (model prog w) A (call (.type "enumerate") [.ref ax]) (fun xv s₁ => wpAny (model prog w) A (pyIter xv) (fun it s₂ => TurnsAt prog w A h₀ env (.Tuple elts k pos) body Q E it s₂) E s₁) E s := by
  refine ktu_enum hh F N hm hc hd rfl fun I l1 => ?_
  refine items_inv (J := fun xs m' n' => ∃ i us r, xs = enumItems i us ∧ All2 R us r ∧ J i r n' ∧ Off names m m') ?_ ?_ _ _ _ ⟨0, vs, as, rfl, hR, h0, Off.refl _ _⟩
  · rintro m' n' ⟨i, us, r, hx, hr, hj, ho⟩ h tk F' N'
    have : us = [] := by cases us with | nil => rfl | cons a b => simp [enumItems] at hx
    subst this
    cases hr
    exact fin i n' m' h tk hj ho F' N'
  · rintro a xs m' n' ⟨i, us, r, hx, hr, hj, ho⟩ v h tk ha F'
    cases hr with
    | nil => simp [enumItems] at hx
    | @cons u b us r hb hr =>
      rw [enumItems] at hx
      obtain ⟨rfl, rfl⟩ := List.cons.inj hx
      obtain ⟨T, t, rfl, hT⟩ := ha
      refine AllObj.cons fun ie hie => AllObj.cons fun io hio => AllObj.nil fun N' => ?_
      refine unrEnd_mono (fun m n q => ⟨q.1, i + 1, _, r, rfl, hr, q.2.1, q.2.2⟩) (turn i T t u b r n' m' h tk I io ie hb hj ho hT F' hie hio l1 N')
end
end Mine
end
end
section
open PySem PySem.W PySem.Calls PyProof.Rows PyProof.V
noncomputable section
namespace Mine
/-- a row of ROWS: where it stands, its first code, its prefix, its words and where they stand -/
structure RowD where
  a : Addr
  f : Int
  p : Str
  wa : Addr
  ws : List Str
noncomputable def ROWD : List RowD := [⟨17, 69, Str.ofString "i32.", 15, TL⟩, ⟨18, 80, Str.ofString "i64.", 15, TL⟩, ⟨19, 103, Str.ofString "i32.", 16, SL⟩, ⟨20, 121, Str.ofString "i64.", 16, SL⟩]
noncomputable def cRows (x : Str) (d : Option Int) : List RowD → Option Int
  | [] => d
  | r :: rs => if inRow x r.p r.ws then some (r.f + (r.ws.idxOf (Txt.slice x (some 4) none) : Nat)) else cRows x d rs
theorem codeO_rows (x : Str) : codeO x = cRows x (nmCode x NL) ROWD := rfl
def TupK (P : Params) (a : Addr) (vs : Array Value) : Prop := ∃ n, (hd.heap_39 P).lookup a = some ⟨.type "tuple", none, .seq vs n, #[]⟩
def RowIn (P : Params) (r : RowD) : Prop := (∃ t u, TupK P r.a #[.int r.f t, .str r.p u, .ref r.wa]) ∧ (∃ vs, TupK P r.wa vs ∧ StrsAre vs.toList r.ws) ∧ r.ws.length ≤ 1000 ∧ r.p.length ≤ 100 ∧ ∀ w ∈ r.ws, w.length ≤ 100
theorem rowD_in {P : Params} : ∀ r ∈ ROWD, RowIn P r := by
  have hT : ∃ vs, TupK P 15 vs ∧ StrsAre vs.toList TL := let ⟨vs, n, e, q⟩ := TL_are (P := P); ⟨vs, ⟨n, e⟩, q⟩
  have hS : ∃ vs, TupK P 16 vs ∧ StrsAre vs.toList SL := let ⟨vs, n, e, q⟩ := SL_are (P := P); ⟨vs, ⟨n, e⟩, q⟩
  intro r hr
  rcases List.mem_cons.mp hr with rfl | hr
  · exact ⟨⟨_, _, _, rfl⟩, hT, by decide +kernel, by decide +kernel, by decide +kernel⟩
  rcases List.mem_cons.mp hr with rfl | hr
  · exact ⟨⟨_, _, _, rfl⟩, hT, by decide +kernel, by decide +kernel, by decide +kernel⟩
  rcases List.mem_cons.mp hr with rfl | hr
  · exact ⟨⟨_, _, _, rfl⟩, hS, by decide +kernel, by decide +kernel, by decide +kernel⟩
  rcases List.mem_cons.mp hr with rfl | hr
  · exact ⟨⟨_, _, _, rfl⟩, hS, by decide +kernel, by decide +kernel, by decide +kernel⟩
  cases hr
theorem TupK.isTup {P : Params} {a : Addr} {vs : Array Value} {h : Heap} (T : TupK P a vs) (X : (hd.heap_39 P).In h) : IsTup h a vs := let ⟨n, e⟩ := T; ⟨_, X _ _ e, rfl, n, rfl⟩
theorem Off.three {a b c : Str} {m m' : Str → Option Value} (h : Off [a, b, c] m m') : ∃ c1 c2 c3, m' = fun y => if y = a then c1 else if y = b then c2 else if y = c then c3 else m y :=
  ⟨m' a, m' b, m' c, funext fun y => by
    by_cases q : y = a
    · rw [if_pos q, q]
    · rw [if_neg q]
      by_cases q2 : y = b
      · rw [if_pos q2, q2]
      · rw [if_neg q2]
        by_cases q3 : y = c
        · rw [if_pos q3, q3]
        · rw [if_neg q3]; exact h y (by simp [q, q2, q3])⟩
abbrev threeNames : List Str := [Str.ofString "words", Str.ofString "prefix", Str.ofString "first"]
theorem allObj_mono : ∀ (ws : List (Addr × String)) (k k' : List (Addr × Obj) → Prop), (∀ its, k its → k' its) → AllObj ws k → AllObj ws k' := by
  intro ws
  induction ws with
  | nil => intro k k' hk x; exact hk _ x
  | cons w r ih => intro k k' hk x o hc; exact ih _ _ (fun its => hk _) (x o hc)
section
variable {prog : Program} {w : World} {A : Around} {E : Value → Shared → Prop} {s : Shared} {env : Env} {h₀ : Heap} {target : Expr} {body : List Stmt} {Q : Flow → Shared → Prop} {ws : List (Addr × String)} {keep : List (Addr × Obj)}
/-- the loop over ROWS, its turn for a row of any kind; S is what holds of the rows that are left -/
theorem row_items {P : Params} (m : Str → Option Value) (S : List RowD → Prop) (X : (hd.heap_39 P).In h₀) (h0 : S ROWD)
    (fin : S [] → ∀ m', Off threeNames m m' → ∀ h tk, Fr h₀ env.locals h m' → News h₀ env.locals h [] → Q .next { s with heap := h, toks := tk })
    (turn : ∀ r rs, S (r :: rs) → ∀ m' t u vs h tk, Off threeNames m m' → IsTup h r.a #[.int r.f t, .str r.p u, .ref r.wa] → TupK P r.wa vs → StrsAre vs.toList r.ws → (r.ws.length ≤ 1000 ∧ r.p.length ≤ 100 ∧ ∀ w ∈ r.ws, w.length ≤ 100) → Fr h₀ env.locals h m' → AllObj ws (fun its => News h₀ env.locals h (its ++ []) →
      wpAny (model prog w) A (assign target env (.ref r.a)) (fun _ s₂ => wpAny (model prog w) A (execs body env) (UnrPostW h₀ env.locals { s with heap := h, toks := tk } its (fun m' n' => SubL keep n' ∧ n' = [] ∧ S rs ∧ Off threeNames m m') Q) E s₂) E { s with heap := h, toks := tk })) :
    ItemsRest prog w A E h₀ env target body Q s ws keep [Itm.val (.ref 17), Itm.val (.ref 18), Itm.val (.ref 19), Itm.val (.ref 20)] m [] := by
  refine items_inv (J := fun xs m' n' => ∃ rs : List RowD, (∀ r ∈ rs, RowIn P r) ∧ xs = rs.map (fun r => Itm.val (.ref r.a)) ∧ n' = [] ∧ S rs ∧ Off threeNames m m') ?_ ?_ _ _ _ ⟨ROWD, rowD_in, rfl, rfl, h0, Off.refl _ _⟩
  · rintro m' n' ⟨rs, -, hx, rfl, hS, ho⟩ h tk F' N'
    have : rs = [] := by cases rs with | nil => rfl | cons a b => simp at hx
    subst this
    exact fin hS m' ho h tk F' N'
  · rintro a xs m' n' ⟨rs, hr, hx, rfl, hS, ho⟩ v h tk ha F'
    obtain ⟨r, rs', rfl⟩ : ∃ p r', rs = p :: r' := by cases rs with | nil => simp at hx | cons a b => exact ⟨a, b, rfl⟩
    rw [List.map_cons] at hx
    obtain ⟨rfl, rfl⟩ := List.cons.inj hx
    have hv : v = .ref r.a := ha
    subst hv
    obtain ⟨⟨t, u, hT⟩, ⟨vs, hW, hs⟩, hlen⟩ := hr r (.head _)
    exact allObj_mono ws _ _ (fun its x N => unrEnd_mono (fun m n q => ⟨q.1, rs', fun r hr' => hr r (.tail _ hr'), rfl, q.2.1, q.2.2.1, q.2.2.2⟩) (x N)) (turn r rs' hS m' t u vs h tk ho (hT.isTup (X.keeps F'.keep)) hW hs hlen F')
end
section
variable {prog : Program} {w : World} {A : Around} {E : Value → Shared → Prop} {s : Shared} {P : Params} {h : Heap} {x : Str} {u : Tok} {a : Addr} {vs : Array Value} {ws : List Str}
theorem in_K {Q : Value → Shared → Prop} (T : TupK P a vs) (hs : StrsAre vs.toList ws) (X : (hd.heap_39 P).In h) (k : ∀ b o, h.get? b = some o → s.heap.get? b = some o) (q : Q (.bool (ws.any (· == x))) s) : wpAny (model prog w) A (compareOp .In (.str x u) (.ref a)) Q E s :=
  in_tuple_strs (T.isTup (X.keeps k)) hs q
theorem idx_K {Q : Value → Shared → Prop} (T : TupK P a vs) (hs : StrsAre vs.toList ws) (X : (hd.heap_39 P).In h) (k : ∀ b o, h.get? b = some o → s.heap.get? b = some o) (hm : ws.any (· == x) = true) (q : Q (.int (ws.idxOf x : Nat) s.toks) { s with toks := s.toks + 1 }) :
    wpAny (model prog w) A (call (.builtin "tuple.index") [.ref a, .str x u]) Q E s :=
  tuple_index_strs (T.isTup (X.keeps k)) hs (any_mem hm) q
theorem len_K {Q : Value → Shared → Prop} (T : TupK P a vs) (hs : StrsAre vs.toList ws) (hl : ws.length ≤ 1000) (X : (hd.heap_39 P).In h) (k : ∀ b o, h.get? b = some o → s.heap.get? b = some o) (q : ∀ t tk', Q (.int (ws.length : Nat) t) { s with toks := tk' }) : wpAny (model prog w) A (call (.builtin "len") [.ref a]) Q E s := by
  have e : vs.size = ws.length := by rw [← Array.length_toList]; exact strsAre_len hs
  exact len_tuple (T.isTup (X.keeps k)) (by rw [e]; omega) (by rw [e]; exact q _ _)
theorem itemW_K {value slice : Expr} {i : Int} {Q : Value → Shared → Prop} (T : TupK P a vs) (hs : StrsAre vs.toList ws) (hl : ws.length ≤ 1000) (X : (hd.heap_39 P).In h) (k : ∀ b o, h.get? b = some o → s.heap.get? b = some o) (h0 : 0 ≤ i) (h1 : i < (ws.length : Int)) (q : ∀ t', Q (.str (ws.getD i.toNat Str.empty) t') s)
    (hsub : subscripted slice false (.ref a) (.int i u) = operate [.ref a, .int i u] (getItem (.ref a) (.int i u)) := by with_unfolding_all rfl) : wpAny (model prog w) A (subscriptTail value slice (.ref a) (.int i u)) Q E s :=
  KTb.item_tup (vs := vs.toList) (by simpa using T.isTup (X.keeps k)) hs h0 h1 (by omega) (fun t' _ => q t') hsub
theorem meth_K {pl : Sem Bool} {Q : Value × List Value → Shared → Prop} (T : TupK P a vs) (X : (hd.heap_39 P).In h) (k : ∀ b o, h.get? b = some o → s.heap.get? b = some o) (q : Q (.builtin "tuple.index", [.ref a]) s) : wpAny (model prog w) A (getMethod (.ref a) "index" pl) Q E s :=
  let ⟨_, e⟩ := T
  meth_tup e X k q
end
theorem cd_here {x : Str} {d : Option Int} {r : RowD} {rs : List RowD} {t : Tok} (hS : codeO x = cRows x d (r :: rs)) (h1 : (Txt.slice x none (some 4) == r.p) = true) (h2 : r.ws.any (· == Txt.slice x (some 4) none) = true) :
    Flat (.int (r.f + (r.ws.idxOf (Txt.slice x (some 4) none) : Nat)) t) (ofO (codeO x)) := by
  rw [hS]
  unfold cRows
  rw [if_pos (row_t h1 h2)]
  exact .int _ _
theorem cd_next1 {x : Str} {d : Option Int} {r : RowD} {rs : List RowD} (hS : codeO x = cRows x d (r :: rs)) (h1 : (Txt.slice x none (some 4) == r.p) = false) : codeO x = cRows x d rs := by
  rw [hS]
  unfold cRows
  rw [if_neg (by unfold inRow; rw [h1]; simp)]
  cases rs <;> rfl
theorem cd_next2 {x : Str} {d : Option Int} {r : RowD} {rs : List RowD} (hS : codeO x = cRows x d (r :: rs)) (h2 : r.ws.any (· == Txt.slice x (some 4) none) = false) : codeO x = cRows x d rs := by
  rw [hS]
  unfold cRows
  rw [if_neg (by unfold inRow; rw [h2]; simp)]
  cases rs <;> rfl
theorem cd_name {x : Str} {k : Int} {t : Tok} (hS : codeO x = cRows x (nmCode x NL) []) (h : nmCode x NL = some k) : Flat (.int k t) (ofO (codeO x)) := by
  rw [hS]
  show Flat _ (ofO (nmCode x NL))
  rw [h]
  exact .int _ _
theorem cd_none {x : Str} (hS : codeO x = cRows x (nmCode x NL) []) (h : nmCode x NL = none) : Flat .none (ofO (codeO x)) := by
  rw [hS]
  show Flat _ (ofO (nmCode x NL))
  rw [h]
  exact .none
end Mine
end
end
section
open PySem PySem.W PySem.Calls PyProof.Rows PyProof.V
noncomputable section
namespace Mine
noncomputable def rowName (n : Int) : Option Str :=
  if 69 ≤ n ∧ n < 69 + 11 then some (Str.ofString "i32." ++ TL.getD (n - 69).toNat Str.empty)
  else if 80 ≤ n ∧ n < 80 + 11 then some (Str.ofString "i64." ++ TL.getD (n - 80).toNat Str.empty)
  else if 103 ≤ n ∧ n < 103 + 18 then some (Str.ofString "i32." ++ SL.getD (n - 103).toNat Str.empty)
  else if 121 ≤ n ∧ n < 121 + 18 then some (Str.ofString "i64." ++ SL.getD (n - 121).toNat Str.empty)
  else none
noncomputable def nameD (n : Int) : PyData := match Spec.lookup (.int n) ND with
  | some d => d
  | none => match rowName n with
    | some s => .str s
    | none => .none
theorem nm_hit {n : Int} {v : Value} {h : (Spec.lookup (.int n) ND).isSome = true} (_ : (Spec.lookup (.int n) ND).isSome = true) (q : Flat v ((Spec.lookup (.int n) ND).get h)) : Flat v (nameD n) := by
  unfold nameD
  cases e : Spec.lookup (.int n) ND with
  | none => rw [e] at h; cases h
  | some d => simpa [e] using q
theorem nm_row {n : Int} {x : Str} {t : Tok} (h : (Spec.lookup (.int n) ND).isSome = false) (e : rowName n = some x) : Flat (.str x t) (nameD n) := by
  unfold nameD
  cases q : Spec.lookup (.int n) ND with
  | some d => rw [q] at h; cases h
  | none => simp only [e]; exact .str _ _
theorem nm_none {n : Int} (h : (Spec.lookup (.int n) ND).isSome = false) (e : rowName n = none) : Flat .none (nameD n) := by
  unfold nameD
  cases q : Spec.lookup (.int n) ND with
  | some d => rw [q] at h; cases h
  | none => simp only [e]; exact .none
def Stop (p : Prop) : Prop := p
theorem Stop.out {p : Prop} (h : Stop p) : p := h
noncomputable def nRows (n : Int) : List RowD → Option Str
  | [] => none
  | r :: rs => if r.f ≤ n ∧ n < r.f + (r.ws.length : Nat) then some (r.p ++ r.ws.getD (n - r.f).toNat Str.empty) else nRows n rs
theorem rowName_rows (n : Int) : rowName n = nRows n ROWD := by
  have e1 : TL.length = 11 := by decide +kernel
  have e2 : SL.length = 18 := by decide +kernel
  unfold rowName ROWD
  simp only [nRows, e1, e2]
  rfl
theorem nm_hereR {n : Int} {r : RowD} {rs : List RowD} {t : Tok} (h : (Spec.lookup (.int n) ND).isSome = false) (hS : rowName n = nRows n (r :: rs)) (h1 : r.f ≤ n) (h2 : n < r.f + (r.ws.length : Nat)) :
    Flat (.str (r.p ++ r.ws.getD (n - r.f).toNat Str.empty) t) (nameD n) := by
  refine nm_row h ?_
  rw [hS]
  unfold nRows
  rw [if_pos ⟨h1, h2⟩]
theorem getD_le {l : List Str} (h : ∀ w ∈ l, w.length ≤ 100) (i : Nat) : (l.getD i Str.empty).length ≤ 100 := by
  rw [List.getD_eq_getElem?_getD]
  cases e : l[i]? with
  | none => exact Nat.zero_le _
  | some y => exact h y (List.mem_of_getElem? e)
theorem nm_skipR {n : Int} {r : RowD} {rs : List RowD} (hS : rowName n = nRows n (r :: rs)) (h : ¬ (r.f ≤ n ∧ n < r.f + (r.ws.length : Nat))) : rowName n = nRows n rs := by
  rw [hS, nRows, if_neg h]
theorem nameOf_ok (w : World) (loose : List Str) (mean : ExcName → Option Value) (mg mb : Str → Option Value) (n : Int) (t : Tok) :
    PClaim w loose mean mg mb 33 [.int n t] (fun v => Flat v (nameD n)) := by
  dsimp only [PClaim]
  w_top off
  k_with_none
  k_with "ItemsRest" => (refine Stop.out ?_)
  k_with "compareOp In int ref" => (k_here; (with_reducible show wpAny _ _ (compareOp CmpOp.In (Value.int _ _) (Value.ref 22)) _ _ _); refine in_intTab (TabAt.keep (names_tab _ _ (by k_asm)) (Fr.keep (by k_asm))) ?_)
  k_with "call builtin:len" => (k_here; (with_reducible show wpAny _ _ (call (Value.builtin _) [Value.ref _]) _ _ _); refine len_K (by with_reducible assumption) (by with_reducible assumption) (by with_reducible assumption) (by k_asm) (by exact Fr.keep (by k_asm)) ?_; intro tL tkL)
  k_with "subscriptTail" => (k_here; (with_reducible show wpAny _ _ (subscriptTail _ _ (Value.ref _) (Value.int _ _)) _ _ _); refine itemW_K (by with_reducible assumption) (by with_reducible assumption) (by with_reducible assumption) (by k_asm) (by exact Fr.keep (by k_asm)) (by omega) (by omega) ?_; intro tI)
  k_with "subscriptTail" => (k_here; (with_reducible show wpAny _ _ (subscriptTail _ _ (Value.ref 22) (Value.int _ _)) _ _ _); refine item_intTab (TabAt.keep (names_tab _ _ (by k_asm)) (Fr.keep (by k_asm))) (Option.eq_some_of_isSome (by assumption)) ?_; intro vN hvN)
  k_fill
  intros
  rename_i hret
  refine wpAny_call ?_
  k_dflt (refine' enter0 ?k1 ?k2 ?k3 ?k5 ?kA ?kF ?kK ?k6 ?k7 ?k8 ?k9 ?kB ?_ ?c2 ?c3 ?c4 ?c5; (case kA => exact rfl); (case kF => exact rfl); (case kK => assumption); (case k1 => k_asm); (case k2 => k_asm); (case k3 => k_asm); (case k5 => k_asm); (case k6 => k_is); (case k7 => k_is); (case k8 => ktr_room); (case k9 => exact BindsTo.of_eq rfl); (case c5 => decide); (case kB => exact locs rfl); (case c2 => exact rfl); (case c3 => exact rfl); (case c4 => exact rfl); k_whole; intro L' h' FG' F' N' B' X' T'; (try dsimp only); (try k_lift B'); (try k_fold))
  k_steps
  · refine hret _ _ _ ?_ (Fr.keep (by with_reducible assumption))
    exact nm_hit (by with_reducible assumption) (by with_reducible assumption)
  unfold Stop
  refine row_items (P := w.params) _ (fun rs => rowName n = nRows n rs) X' (rowName_rows n) ?_ ?_
  · intro hS m' ho h tk F' N'
    obtain ⟨c1, c2, c3, rfl⟩ := Off.three ho
    clear ho
    dsimp only
    k_steps
    refine hret _ _ _ ?_ (Fr.keep (by with_reducible assumption))
    exact nm_none (by with_reducible assumption) hS
  · intro r rs hS m' t u vs h tk ho hT hW hs ⟨hlen, hp, hw⟩ F'
    have hg : (r.ws.getD (n - r.f).toNat Str.empty).length ≤ 100 := getD_le hw _
    obtain ⟨c1, c2, c3, rfl⟩ := Off.three ho
    clear ho
    refine AllObj.cons fun io hio => AllObj.nil fun N' => ?_
    dsimp only
    k_steps
    all_goals first
      | (refine hret _ _ _ ?_ (Fr.keep (by with_reducible assumption)); exact nm_hereR (by with_reducible assumption) hS (by omega) (by omega))
      | exact nm_skipR hS (by omega)
      | (repeat' (first | (with_reducible exact Off.refl _ _) | (refine Off.upd ?_ (by simp))))
end Mine
end
end
section
open PySem PySem.W PySem.Calls PyProof.Rows PyProof.V
noncomputable section
namespace Mine
def StopR (p : Prop) : Prop := p
theorem StopR.out {p : Prop} (h : StopR p) : p := h
theorem codeOf_ok (w : World) (loose : List Str) (mean : ExcName → Option Value) (mg mb : Str → Option Value) (x : Str) (t : Tok) (hx : x.length ≤ 1000) :
    PClaim w loose mean mg mb 40 [.str x t] (fun v => Flat v (ofO (codeO x))) := by
  dsimp only [PClaim]
  w_top off
  k_with_none
  k_with "ItemsRest" => (refine StopR.out ?_)
  k_with "compareOp In str ref" => (k_here; (with_reducible show wpAny _ _ (compareOp CmpOp.In (Value.str _ _) (Value.ref _)) _ _ _); refine in_K (by with_reducible assumption) (by with_reducible assumption) (by k_asm) (by exact Fr.keep (by k_asm)) ?_)
  k_with "getMethod ref" => (k_here; (with_reducible show wpAny _ _ (getMethod (Value.ref _) _ _) _ _ _); refine meth_K (by with_reducible assumption) (by k_asm) (by exact Fr.keep (by k_asm)) ?_)
  k_with "call builtin:tuple.index" => (k_here; (with_reducible show wpAny _ _ (call (Value.builtin _) [Value.ref _, _]) _ _ _); refine idx_K (by with_reducible assumption) (by with_reducible assumption) (by k_asm) (by exact Fr.keep (by k_asm)) (by with_reducible assumption) ?_)
  k_with "subscriptTail" => (k_here; (with_reducible show wpAny _ _ (subscriptTail _ _ (Value.ref 22) (Value.int _ _)) _ _ _); refine item_intTab (TabAt.keep (by exact names_tab _ _ (by k_asm)) (by exact Fr.keep (by k_asm))) (by assumption) ?_; intro vN hvN; obtain ⟨tN, eN⟩ := flat_str_of hvN; subst eN)
  k_with "exec For Name Name" => (k_here; (rename Fr _ _ _ _ => lFZ); (with_unfolding_all refine For_turns lFZ ?_; k_whole))
  k_with "exec For Name Name cons nil" => (k_here; (rename Fr _ _ _ _ => lFZ); (with_unfolding_all refine For_turns lFZ ?_; k_whole))
  k_fill
  intros
  rename_i hret
  refine wpAny_call ?_
  k_dflt (refine' enter0 ?k1 ?k2 ?k3 ?k5 ?kA ?kF ?kK ?k6 ?k7 ?k8 ?k9 ?kB ?_ ?c2 ?c3 ?c4 ?c5; (case kA => exact rfl); (case kF => exact rfl); (case kK => assumption); (case k1 => k_asm); (case k2 => k_asm); (case k3 => k_asm); (case k5 => k_asm); (case k6 => k_is); (case k7 => k_is); (case k8 => ktr_room); (case k9 => exact BindsTo.of_eq rfl); (case c5 => decide); (case kB => exact locs rfl); (case c2 => exact rfl); (case c3 => exact rfl); (case c4 => exact rfl); k_whole; intro L' h' FG' F' N' B' X' T'; (try dsimp only); (try k_lift B'); (try k_fold))
  k_steps
  unfold StopR
  refine row_items (P := w.params) _ (fun rs => codeO x = cRows x (nmCode x NL) rs) X' (codeO_rows x) ?_ ?_
  · intro hS m' ho h tk F' N'
    obtain ⟨c1, c2, c3, rfl⟩ := Off.three ho
    clear ho
    dsimp only
    k_steps
    all_goals (try (
      (with_reducible show wpAny _ _ (pyIter (Value.ref 22)) _ _ _)
      (with_unfolding_all refine' codes_iter (Str.ofString "code") ?hx ?hh ?F ?N ?X ?_ ?_)
      (case hx => assumption)
      (case hh => with_unfolding_all rfl)
      (case F => k_asm)
      (case N => k_asm)
      (case X => k_asm)
      all_goals intros
      all_goals (try dsimp only)
      all_goals k_steps))
    all_goals first
      | exact cj_mk (nm_next1 (by with_reducible assumption) (by with_reducible assumption))
      | exact cj_mk (nm_next2 (by with_reducible assumption) (by with_reducible assumption))
      | skip
    all_goals refine hret _ _ _ ?_ (Fr.keep (by with_reducible assumption))
    all_goals first
      | exact cd_name hS (nm_here (by with_reducible assumption) (by with_reducible assumption) (by with_reducible assumption))
      | exact cd_none hS (by with_reducible assumption)
  · intro r rs hS m' t u vs h tk ho hT hW hs hlen F'
    obtain ⟨c1, c2, c3, rfl⟩ := Off.three ho
    clear ho
    refine AllObj.cons fun io hio => AllObj.nil fun N' => ?_
    dsimp only
    k_steps
    all_goals first
      | (refine hret _ _ _ ?_ (Fr.keep (by with_reducible assumption)); exact cd_here hS (by with_reducible assumption) (by with_reducible assumption))
      | exact cd_next1 hS (by with_reducible assumption)
      | exact cd_next2 hS (by with_reducible assumption)
      | (repeat' (first | (with_reducible exact Off.refl _ _) | (refine Off.upd ?_ (by simp))))
end Mine
end
end
section
open PySem PySem.W PySem.Calls PyProof.Rows PyProof.V
noncomputable section
namespace Mine
noncomputable def leA (x : Str) : Bool := [Str.ofString "f32.", Str.ofString "f64.", Str.ofString "v128"].any (· == Txt.slice x none (some 4))
noncomputable def leB (x : Str) : Bool := [Str.ofString "i8x16.", Str.ofString "i16x8.", Str.ofString "i32x4.", Str.ofString "i64x2.", Str.ofString "f32x4.", Str.ofString "f64x2."].any (· == Txt.slice x none (some 6))
noncomputable def leO (x y : Str) : Bool := (Builtin.Str.occurrences x y 0 x.length 1).isEmpty
noncomputable def leftB (x : Str) : Bool := leA x || !leO x (Str.ofString "_f32") || !leO x (Str.ofString "_f64") || leB x || !leO x (Str.ofString "trunc_sat")
section
variable {x : Str}
theorem lf1 (h : leA x = true) : Value.bool true = .bool (leftB x) := by unfold leftB; rw [h]; simp
theorem lf2 (h1 : leO x (Str.ofString "_f32") = false) : Value.bool true = .bool (leftB x) := by unfold leftB; rw [h1]; simp
theorem lf3 (h2 : leO x (Str.ofString "_f64") = false) : Value.bool true = .bool (leftB x) := by unfold leftB; rw [h2]; simp
theorem lf4 (h2 : leB x = true) : Value.bool (leB x) = .bool (leftB x) := by unfold leftB; rw [h2]; simp
theorem lf5 (h : leA x = false) (h1 : leO x (Str.ofString "_f32") = true) (h2 : leO x (Str.ofString "_f64") = true) (h3 : leB x = false) : Value.bool (!leO x (Str.ofString "trunc_sat")) = .bool (leftB x) := by
  unfold leftB; rw [h, h1, h2, h3]; simp
end
theorem isLeft_ok (w : World) (loose : List Str) (mean : ExcName → Option Value) (mg mb : Str → Option Value) (x : Str) (t : Tok) (hx : x.length ≤ 1000) :
    PClaim w loose mean mg mb 47 [.str x t] (fun v => v = .bool (leftB x)) := by
  dsimp only [PClaim]
  w_top off
  k_with_none
  k_fill
  intros
  rename_i hret
  refine wpAny_call ?_
  k_dflt (refine' enter0 ?k1 ?k2 ?k3 ?k5 ?kA ?kF ?kK ?k6 ?k7 ?k8 ?k9 ?kB ?_ ?c2 ?c3 ?c4 ?c5; (case kA => exact rfl); (case kF => exact rfl); (case kK => assumption); (case k1 => k_asm); (case k2 => k_asm); (case k3 => k_asm); (case k5 => k_asm); (case k6 => k_is); (case k7 => k_is); (case k8 => ktr_room); (case k9 => exact BindsTo.of_eq rfl); (case c5 => decide); (case kB => exact locs rfl); (case c2 => exact rfl); (case c3 => exact rfl); (case c4 => exact rfl); k_whole; intro L' h' FG' F' N' B' X' T'; (try dsimp only); (try k_lift B'); (try k_fold))
  k_steps
  all_goals refine hret _ _ _ ?_ (Fr.keep (by with_reducible assumption))
  all_goals first
    | exact lf1 (by assumption)
    | exact lf2 (by assumption)
    | exact lf3 (by assumption)
    | exact lf4 (by assumption)
    | exact lf5 (by assumption) (by assumption) (by assumption) (by assumption)
end Mine
end
end
section
open PySem PySem.W PySem.Calls PyProof.Rows PyProof.V
noncomputable section
namespace Mine
theorem sign0 : (Str.ofString "").length ≤ 2 := by decide +kernel
theorem sign1 : (Str.ofString "_").length ≤ 2 := by decide +kernel
theorem sign2 : (Str.ofString "3").length ≤ 2 := by decide +kernel
theorem bl {x a b s : Str} (b1 : a.length ≤ x.length) (b2 : b.length ≤ x.length) (hs : s.length ≤ 2) : (a ++ s ++ b).length ≤ 10 * x.length + 10 := by
  simp only [Str.length_append]; omega
theorem bi {i : Str} (b3 : 1 ≤ i.length ∧ i.length ≤ 1) : (i ++ i).length ≤ 2 := by
  simp only [Str.length_append]; omega
theorem bent_ok (w : World) (loose : List Str) (mean : ExcName → Option Value) (mg mb : Str → Option Value) (x : Str) (t : Tok) (hx : x.length ≤ 1000) (h0 : 0 < x.length) (n : Int) (u : Tok) :
    PClaim w loose mean mg mb 68 [.str x t, .int n u] (fun v => ∃ y t, v = .str y t ∧ y.length ≤ 10 * x.length + 10) := by
  dsimp only [PClaim]
  w_top off
  k_with_none
  k_with "subscriptTail" => (k_here; (with_reducible show wpAny _ _ (subscriptTail _ _ (Value.str _ _) (Value.int _ _)) _ _ _); refine item_str (by with_reducible assumption) (by with_reducible assumption) (by with_reducible assumption) ?_; intro hIZ)
  k_fill
  intros
  rename_i hret
  have m1 : 0 ≤ n.fmod x.length := Int.fmod_nonneg_of_pos _ (by omega)
  have m2 : n.fmod x.length < x.length := Int.fmod_lt_of_pos _ (by omega)
  have m3 : -(x.length : Int) ≤ n.fmod x.length := by omega
  have m4 : fitsSsize (n.fmod x.length) = true := by unfold fitsSsize; simp; omega
  refine wpAny_call ?_
  k_dflt (refine' enter0 ?k1 ?k2 ?k3 ?k5 ?kA ?kF ?kK ?k6 ?k7 ?k8 ?k9 ?kB ?_ ?c2 ?c3 ?c4 ?c5; (case kA => exact rfl); (case kF => exact rfl); (case kK => assumption); (case k1 => k_asm); (case k2 => k_asm); (case k3 => k_asm); (case k5 => k_asm); (case k6 => k_is); (case k7 => k_is); (case k8 => ktr_room); (case k9 => exact BindsTo.of_eq rfl); (case c5 => decide); (case kB => exact locs rfl); (case c2 => exact rfl); (case c3 => exact rfl); (case c4 => exact rfl); k_whole; intro L' h' FG' F' N' B' X' T'; (try dsimp only); (try k_lift B'); (try k_fold))
  k_steps
  all_goals refine hret _ _ _ ⟨_, _, rfl, ?_⟩ (Fr.keep (by with_reducible assumption))
  all_goals first
    | exact bl (by with_reducible assumption) (by with_reducible assumption) sign0
    | exact bl (by with_reducible assumption) (by with_reducible assumption) sign1
    | exact bl (by with_reducible assumption) (by with_reducible assumption) sign2
    | exact bl (by with_reducible assumption) (by with_reducible assumption) (bi (by with_reducible assumption))
end Mine
end
end
section
open PySem PySem.W PySem.Calls PyProof.Rows PyProof.V
namespace Mine
noncomputable def LL : List (Int × Str × Str) := [
  (0, Str.ofString "", Str.ofString "unreachable nop block loop if else"),
  (11, Str.ofString "", Str.ofString "end br br_if br_table return"),
  (16, Str.ofString "", Str.ofString "call call_indirect return_call return_call_indirect"),
  (26, Str.ofString "", Str.ofString "drop select select"),
  (32, Str.ofString "local.", Str.ofString "get set tee"),
  (35, Str.ofString "global.", Str.ofString "get set"),
  (37, Str.ofString "table.", Str.ofString "get set"),
  (40, Str.ofString "", Str.ofString "i32.load i64.load"),
  (44, Str.ofString "i32.load", Str.ofString "8_s 8_u 16_s 16_u"),
  (48, Str.ofString "i64.load", Str.ofString "8_s 8_u 16_s 16_u 32_s 32_u"),
  (54, Str.ofString "", Str.ofString "i32.store i64.store"),
  (58, Str.ofString "i32.store", Str.ofString "8 16"),
  (60, Str.ofString "i64.store", Str.ofString "8 16 32"),
  (63, Str.ofString "memory.", Str.ofString "size grow"),
  (65, Str.ofString "", Str.ofString "i32.const i64.const"),
  (69, Str.ofString "i32.", Str.ofString "eqz eq ne lt_s lt_u gt_s gt_u le_s le_u ge_s ge_u"),
  (80, Str.ofString "i64.", Str.ofString "eqz eq ne lt_s lt_u gt_s gt_u le_s le_u ge_s ge_u"),
  (103, Str.ofString "i32.", Str.ofString "clz ctz popcnt add sub mul div_s div_u rem_s rem_u and or xor shl shr_s shr_u rotl rotr"),
  (121, Str.ofString "i64.", Str.ofString "clz ctz popcnt add sub mul div_s div_u rem_s rem_u and or xor shl shr_s shr_u rotl rotr"),
  (167, Str.ofString "i32.wrap_", Str.ofString "i64"),
  (172, Str.ofString "i64.extend_i32_", Str.ofString "s u"),
  (192, Str.ofString "i32.extend", Str.ofString "8_s 16_s"),
  (194, Str.ofString "i64.extend", Str.ofString "8_s 16_s 32_s"),
  (208, Str.ofString "ref.", Str.ofString "null is_null func"),
  (64520, Str.ofString "", Str.ofString "memory.init data.drop memory.copy memory.fill table.init elem.drop table.copy"),
  (64527, Str.ofString "table.", Str.ofString "grow size fill")]
noncomputable def NT : List (Int × Str) := [
  (0, ⟨#[117, 110, 114, 101, 97, 99, 104, 97, 98, 108, 101]⟩),
  (1, ⟨#[110, 111, 112]⟩),
  (2, ⟨#[98, 108, 111, 99, 107]⟩),
  (3, ⟨#[108, 111, 111, 112]⟩),
  (4, ⟨#[105, 102]⟩),
  (5, ⟨#[101, 108, 115, 101]⟩),
  (11, ⟨#[101, 110, 100]⟩),
  (12, ⟨#[98, 114]⟩),
  (13, ⟨#[98, 114, 95, 105, 102]⟩),
  (14, ⟨#[98, 114, 95, 116, 97, 98, 108, 101]⟩),
  (15, ⟨#[114, 101, 116, 117, 114, 110]⟩),
  (16, ⟨#[99, 97, 108, 108]⟩),
  (17, ⟨#[99, 97, 108, 108, 95, 105, 110, 100, 105, 114, 101, 99, 116]⟩),
  (18, ⟨#[114, 101, 116, 117, 114, 110, 95, 99, 97, 108, 108]⟩),
  (19, ⟨#[114, 101, 116, 117, 114, 110, 95, 99, 97, 108, 108, 95, 105, 110, 100, 105, 114, 101, 99, 116]⟩),
  (26, ⟨#[100, 114, 111, 112]⟩),
  (27, ⟨#[115, 101, 108, 101, 99, 116]⟩),
  (28, ⟨#[115, 101, 108, 101, 99, 116]⟩),
  (32, ⟨#[108, 111, 99, 97, 108, 46, 103, 101, 116]⟩),
  (33, ⟨#[108, 111, 99, 97, 108, 46, 115, 101, 116]⟩),
  (34, ⟨#[108, 111, 99, 97, 108, 46, 116, 101, 101]⟩),
  (35, ⟨#[103, 108, 111, 98, 97, 108, 46, 103, 101, 116]⟩),
  (36, ⟨#[103, 108, 111, 98, 97, 108, 46, 115, 101, 116]⟩),
  (37, ⟨#[116, 97, 98, 108, 101, 46, 103, 101, 116]⟩),
  (38, ⟨#[116, 97, 98, 108, 101, 46, 115, 101, 116]⟩),
  (40, ⟨#[105, 51, 50, 46, 108, 111, 97, 100]⟩),
  (41, ⟨#[105, 54, 52, 46, 108, 111, 97, 100]⟩),
  (44, ⟨#[105, 51, 50, 46, 108, 111, 97, 100, 56, 95, 115]⟩),
  (45, ⟨#[105, 51, 50, 46, 108, 111, 97, 100, 56, 95, 117]⟩),
  (46, ⟨#[105, 51, 50, 46, 108, 111, 97, 100, 49, 54, 95, 115]⟩),
  (47, ⟨#[105, 51, 50, 46, 108, 111, 97, 100, 49, 54, 95, 117]⟩),
  (48, ⟨#[105, 54, 52, 46, 108, 111, 97, 100, 56, 95, 115]⟩),
  (49, ⟨#[105, 54, 52, 46, 108, 111, 97, 100, 56, 95, 117]⟩),
  (50, ⟨#[105, 54, 52, 46, 108, 111, 97, 100, 49, 54, 95, 115]⟩),
  (51, ⟨#[105, 54, 52, 46, 108, 111, 97, 100, 49, 54, 95, 117]⟩),
  (52, ⟨#[105, 54, 52, 46, 108, 111, 97, 100, 51, 50, 95, 115]⟩),
  (53, ⟨#[105, 54, 52, 46, 108, 111, 97, 100, 51, 50, 95, 117]⟩),
  (54, ⟨#[105, 51, 50, 46, 115, 116, 111, 114, 101]⟩),
  (55, ⟨#[105, 54, 52, 46, 115, 116, 111, 114, 101]⟩),
  (58, ⟨#[105, 51, 50, 46, 115, 116, 111, 114, 101, 56]⟩),
  (59, ⟨#[105, 51, 50, 46, 115, 116, 111, 114, 101, 49, 54]⟩),
  (60, ⟨#[105, 54, 52, 46, 115, 116, 111, 114, 101, 56]⟩),
  (61, ⟨#[105, 54, 52, 46, 115, 116, 111, 114, 101, 49, 54]⟩),
  (62, ⟨#[105, 54, 52, 46, 115, 116, 111, 114, 101, 51, 50]⟩),
  (63, ⟨#[109, 101, 109, 111, 114, 121, 46, 115, 105, 122, 101]⟩),
  (64, ⟨#[109, 101, 109, 111, 114, 121, 46, 103, 114, 111, 119]⟩),
  (65, ⟨#[105, 51, 50, 46, 99, 111, 110, 115, 116]⟩),
  (66, ⟨#[105, 54, 52, 46, 99, 111, 110, 115, 116]⟩),
  (69, ⟨#[105, 51, 50, 46, 101, 113, 122]⟩),
  (70, ⟨#[105, 51, 50, 46, 101, 113]⟩),
  (71, ⟨#[105, 51, 50, 46, 110, 101]⟩),
  (72, ⟨#[105, 51, 50, 46, 108, 116, 95, 115]⟩),
  (73, ⟨#[105, 51, 50, 46, 108, 116, 95, 117]⟩),
  (74, ⟨#[105, 51, 50, 46, 103, 116, 95, 115]⟩),
  (75, ⟨#[105, 51, 50, 46, 103, 116, 95, 117]⟩),
  (76, ⟨#[105, 51, 50, 46, 108, 101, 95, 115]⟩),
  (77, ⟨#[105, 51, 50, 46, 108, 101, 95, 117]⟩),
  (78, ⟨#[105, 51, 50, 46, 103, 101, 95, 115]⟩),
  (79, ⟨#[105, 51, 50, 46, 103, 101, 95, 117]⟩),
  (80, ⟨#[105, 54, 52, 46, 101, 113, 122]⟩),
  (81, ⟨#[105, 54, 52, 46, 101, 113]⟩),
  (82, ⟨#[105, 54, 52, 46, 110, 101]⟩),
  (83, ⟨#[105, 54, 52, 46, 108, 116, 95, 115]⟩),
  (84, ⟨#[105, 54, 52, 46, 108, 116, 95, 117]⟩),
  (85, ⟨#[105, 54, 52, 46, 103, 116, 95, 115]⟩),
  (86, ⟨#[105, 54, 52, 46, 103, 116, 95, 117]⟩),
  (87, ⟨#[105, 54, 52, 46, 108, 101, 95, 115]⟩),
  (88, ⟨#[105, 54, 52, 46, 108, 101, 95, 117]⟩),
  (89, ⟨#[105, 54, 52, 46, 103, 101, 95, 115]⟩),
  (90, ⟨#[105, 54, 52, 46, 103, 101, 95, 117]⟩),
  (103, ⟨#[105, 51, 50, 46, 99, 108, 122]⟩),
  (104, ⟨#[105, 51, 50, 46, 99, 116, 122]⟩),
  (105, ⟨#[105, 51, 50, 46, 112, 111, 112, 99, 110, 116]⟩),
  (106, ⟨#[105, 51, 50, 46, 97, 100, 100]⟩),
  (107, ⟨#[105, 51, 50, 46, 115, 117, 98]⟩),
  (108, ⟨#[105, 51, 50, 46, 109, 117, 108]⟩),
  (109, ⟨#[105, 51, 50, 46, 100, 105, 118, 95, 115]⟩),
  (110, ⟨#[105, 51, 50, 46, 100, 105, 118, 95, 117]⟩),
  (111, ⟨#[105, 51, 50, 46, 114, 101, 109, 95, 115]⟩),
  (112, ⟨#[105, 51, 50, 46, 114, 101, 109, 95, 117]⟩),
  (113, ⟨#[105, 51, 50, 46, 97, 110, 100]⟩),
  (114, ⟨#[105, 51, 50, 46, 111, 114]⟩),
  (115, ⟨#[105, 51, 50, 46, 120, 111, 114]⟩),
  (116, ⟨#[105, 51, 50, 46, 115, 104, 108]⟩),
  (117, ⟨#[105, 51, 50, 46, 115, 104, 114, 95, 115]⟩),
  (118, ⟨#[105, 51, 50, 46, 115, 104, 114, 95, 117]⟩),
  (119, ⟨#[105, 51, 50, 46, 114, 111, 116, 108]⟩),
  (120, ⟨#[105, 51, 50, 46, 114, 111, 116, 114]⟩),
  (121, ⟨#[105, 54, 52, 46, 99, 108, 122]⟩),
  (122, ⟨#[105, 54, 52, 46, 99, 116, 122]⟩),
  (123, ⟨#[105, 54, 52, 46, 112, 111, 112, 99, 110, 116]⟩),
  (124, ⟨#[105, 54, 52, 46, 97, 100, 100]⟩),
  (125, ⟨#[105, 54, 52, 46, 115, 117, 98]⟩),
  (126, ⟨#[105, 54, 52, 46, 109, 117, 108]⟩),
  (127, ⟨#[105, 54, 52, 46, 100, 105, 118, 95, 115]⟩),
  (128, ⟨#[105, 54, 52, 46, 100, 105, 118, 95, 117]⟩),
  (129, ⟨#[105, 54, 52, 46, 114, 101, 109, 95, 115]⟩),
  (130, ⟨#[105, 54, 52, 46, 114, 101, 109, 95, 117]⟩),
  (131, ⟨#[105, 54, 52, 46, 97, 110, 100]⟩),
  (132, ⟨#[105, 54, 52, 46, 111, 114]⟩),
  (133, ⟨#[105, 54, 52, 46, 120, 111, 114]⟩),
  (134, ⟨#[105, 54, 52, 46, 115, 104, 108]⟩),
  (135, ⟨#[105, 54, 52, 46, 115, 104, 114, 95, 115]⟩),
  (136, ⟨#[105, 54, 52, 46, 115, 104, 114, 95, 117]⟩),
  (137, ⟨#[105, 54, 52, 46, 114, 111, 116, 108]⟩),
  (138, ⟨#[105, 54, 52, 46, 114, 111, 116, 114]⟩),
  (167, ⟨#[105, 51, 50, 46, 119, 114, 97, 112, 95, 105, 54, 52]⟩),
  (172, ⟨#[105, 54, 52, 46, 101, 120, 116, 101, 110, 100, 95, 105, 51, 50, 95, 115]⟩),
  (173, ⟨#[105, 54, 52, 46, 101, 120, 116, 101, 110, 100, 95, 105, 51, 50, 95, 117]⟩),
  (192, ⟨#[105, 51, 50, 46, 101, 120, 116, 101, 110, 100, 56, 95, 115]⟩),
  (193, ⟨#[105, 51, 50, 46, 101, 120, 116, 101, 110, 100, 49, 54, 95, 115]⟩),
  (194, ⟨#[105, 54, 52, 46, 101, 120, 116, 101, 110, 100, 56, 95, 115]⟩),
  (195, ⟨#[105, 54, 52, 46, 101, 120, 116, 101, 110, 100, 49, 54, 95, 115]⟩),
  (196, ⟨#[105, 54, 52, 46, 101, 120, 116, 101, 110, 100, 51, 50, 95, 115]⟩),
  (208, ⟨#[114, 101, 102, 46, 110, 117, 108, 108]⟩),
  (209, ⟨#[114, 101, 102, 46, 105, 115, 95, 110, 117, 108, 108]⟩),
  (210, ⟨#[114, 101, 102, 46, 102, 117, 110, 99]⟩),
  (64520, ⟨#[109, 101, 109, 111, 114, 121, 46, 105, 110, 105, 116]⟩),
  (64521, ⟨#[100, 97, 116, 97, 46, 100, 114, 111, 112]⟩),
  (64522, ⟨#[109, 101, 109, 111, 114, 121, 46, 99, 111, 112, 121]⟩),
  (64523, ⟨#[109, 101, 109, 111, 114, 121, 46, 102, 105, 108, 108]⟩),
  (64524, ⟨#[116, 97, 98, 108, 101, 46, 105, 110, 105, 116]⟩),
  (64525, ⟨#[101, 108, 101, 109, 46, 100, 114, 111, 112]⟩),
  (64526, ⟨#[116, 97, 98, 108, 101, 46, 99, 111, 112, 121]⟩),
  (64527, ⟨#[116, 97, 98, 108, 101, 46, 103, 114, 111, 119]⟩),
  (64528, ⟨#[116, 97, 98, 108, 101, 46, 115, 105, 122, 101]⟩),
  (64529, ⟨#[116, 97, 98, 108, 101, 46, 102, 105, 108, 108]⟩)]
noncomputable def CT : List (Str × Int) := [
  (⟨#[117, 110, 114, 101, 97, 99, 104, 97, 98, 108, 101]⟩, 0),
  (⟨#[110, 111, 112]⟩, 1),
  (⟨#[98, 108, 111, 99, 107]⟩, 2),
  (⟨#[108, 111, 111, 112]⟩, 3),
  (⟨#[105, 102]⟩, 4),
  (⟨#[101, 108, 115, 101]⟩, 5),
  (⟨#[101, 110, 100]⟩, 11),
  (⟨#[98, 114]⟩, 12),
  (⟨#[98, 114, 95, 105, 102]⟩, 13),
  (⟨#[98, 114, 95, 116, 97, 98, 108, 101]⟩, 14),
  (⟨#[114, 101, 116, 117, 114, 110]⟩, 15),
  (⟨#[99, 97, 108, 108]⟩, 16),
  (⟨#[99, 97, 108, 108, 95, 105, 110, 100, 105, 114, 101, 99, 116]⟩, 17),
  (⟨#[114, 101, 116, 117, 114, 110, 95, 99, 97, 108, 108]⟩, 18),
  (⟨#[114, 101, 116, 117, 114, 110, 95, 99, 97, 108, 108, 95, 105, 110, 100, 105, 114, 101, 99, 116]⟩, 19),
  (⟨#[100, 114, 111, 112]⟩, 26),
  (⟨#[115, 101, 108, 101, 99, 116]⟩, 27),
  (⟨#[108, 111, 99, 97, 108, 46, 103, 101, 116]⟩, 32),
  (⟨#[108, 111, 99, 97, 108, 46, 115, 101, 116]⟩, 33),
  (⟨#[108, 111, 99, 97, 108, 46, 116, 101, 101]⟩, 34),
  (⟨#[103, 108, 111, 98, 97, 108, 46, 103, 101, 116]⟩, 35),
  (⟨#[103, 108, 111, 98, 97, 108, 46, 115, 101, 116]⟩, 36),
  (⟨#[116, 97, 98, 108, 101, 46, 103, 101, 116]⟩, 37),
  (⟨#[116, 97, 98, 108, 101, 46, 115, 101, 116]⟩, 38),
  (⟨#[105, 51, 50, 46, 108, 111, 97, 100]⟩, 40),
  (⟨#[105, 54, 52, 46, 108, 111, 97, 100]⟩, 41),
  (⟨#[105, 51, 50, 46, 108, 111, 97, 100, 56, 95, 115]⟩, 44),
  (⟨#[105, 51, 50, 46, 108, 111, 97, 100, 56, 95, 117]⟩, 45),
  (⟨#[105, 51, 50, 46, 108, 111, 97, 100, 49, 54, 95, 115]⟩, 46),
  (⟨#[105, 51, 50, 46, 108, 111, 97, 100, 49, 54, 95, 117]⟩, 47),
  (⟨#[105, 54, 52, 46, 108, 111, 97, 100, 56, 95, 115]⟩, 48),
  (⟨#[105, 54, 52, 46, 108, 111, 97, 100, 56, 95, 117]⟩, 49),
  (⟨#[105, 54, 52, 46, 108, 111, 97, 100, 49, 54, 95, 115]⟩, 50),
  (⟨#[105, 54, 52, 46, 108, 111, 97, 100, 49, 54, 95, 117]⟩, 51),
  (⟨#[105, 54, 52, 46, 108, 111, 97, 100, 51, 50, 95, 115]⟩, 52),
  (⟨#[105, 54, 52, 46, 108, 111, 97, 100, 51, 50, 95, 117]⟩, 53),
  (⟨#[105, 51, 50, 46, 115, 116, 111, 114, 101]⟩, 54),
  (⟨#[105, 54, 52, 46, 115, 116, 111, 114, 101]⟩, 55),
  (⟨#[105, 51, 50, 46, 115, 116, 111, 114, 101, 56]⟩, 58),
  (⟨#[105, 51, 50, 46, 115, 116, 111, 114, 101, 49, 54]⟩, 59),
  (⟨#[105, 54, 52, 46, 115, 116, 111, 114, 101, 56]⟩, 60),
  (⟨#[105, 54, 52, 46, 115, 116, 111, 114, 101, 49, 54]⟩, 61),
  (⟨#[105, 54, 52, 46, 115, 116, 111, 114, 101, 51, 50]⟩, 62),
  (⟨#[109, 101, 109, 111, 114, 121, 46, 115, 105, 122, 101]⟩, 63),
  (⟨#[109, 101, 109, 111, 114, 121, 46, 103, 114, 111, 119]⟩, 64),
  (⟨#[105, 51, 50, 46, 99, 111, 110, 115, 116]⟩, 65),
  (⟨#[105, 54, 52, 46, 99, 111, 110, 115, 116]⟩, 66),
  (⟨#[105, 51, 50, 46, 101, 113, 122]⟩, 69),
  (⟨#[105, 51, 50, 46, 101, 113]⟩, 70),
  (⟨#[105, 51, 50, 46, 110, 101]⟩, 71),
  (⟨#[105, 51, 50, 46, 108, 116, 95, 115]⟩, 72),
  (⟨#[105, 51, 50, 46, 108, 116, 95, 117]⟩, 73),
  (⟨#[105, 51, 50, 46, 103, 116, 95, 115]⟩, 74),
  (⟨#[105, 51, 50, 46, 103, 116, 95, 117]⟩, 75),
  (⟨#[105, 51, 50, 46, 108, 101, 95, 115]⟩, 76),
  (⟨#[105, 51, 50, 46, 108, 101, 95, 117]⟩, 77),
  (⟨#[105, 51, 50, 46, 103, 101, 95, 115]⟩, 78),
  (⟨#[105, 51, 50, 46, 103, 101, 95, 117]⟩, 79),
  (⟨#[105, 54, 52, 46, 101, 113, 122]⟩, 80),
  (⟨#[105, 54, 52, 46, 101, 113]⟩, 81),
  (⟨#[105, 54, 52, 46, 110, 101]⟩, 82),
  (⟨#[105, 54, 52, 46, 108, 116, 95, 115]⟩, 83),
  (⟨#[105, 54, 52, 46, 108, 116, 95, 117]⟩, 84),
  (⟨#[105, 54, 52, 46, 103, 116, 95, 115]⟩, 85),
  (⟨#[105, 54, 52, 46, 103, 116, 95, 117]⟩, 86),
  (⟨#[105, 54, 52, 46, 108, 101, 95, 115]⟩, 87),
  (⟨#[105, 54, 52, 46, 108, 101, 95, 117]⟩, 88),
  (⟨#[105, 54, 52, 46, 103, 101, 95, 115]⟩, 89),
  (⟨#[105, 54, 52, 46, 103, 101, 95, 117]⟩, 90),
  (⟨#[105, 51, 50, 46, 99, 108, 122]⟩, 103),
  (⟨#[105, 51, 50, 46, 99, 116, 122]⟩, 104),
  (⟨#[105, 51, 50, 46, 112, 111, 112, 99, 110, 116]⟩, 105),
  (⟨#[105, 51, 50, 46, 97, 100, 100]⟩, 106),
  (⟨#[105, 51, 50, 46, 115, 117, 98]⟩, 107),
  (⟨#[105, 51, 50, 46, 109, 117, 108]⟩, 108),
  (⟨#[105, 51, 50, 46, 100, 105, 118, 95, 115]⟩, 109),
  (⟨#[105, 51, 50, 46, 100, 105, 118, 95, 117]⟩, 110),
  (⟨#[105, 51, 50, 46, 114, 101, 109, 95, 115]⟩, 111),
  (⟨#[105, 51, 50, 46, 114, 101, 109, 95, 117]⟩, 112),
  (⟨#[105, 51, 50, 46, 97, 110, 100]⟩, 113),
  (⟨#[105, 51, 50, 46, 111, 114]⟩, 114),
  (⟨#[105, 51, 50, 46, 120, 111, 114]⟩, 115),
  (⟨#[105, 51, 50, 46, 115, 104, 108]⟩, 116),
  (⟨#[105, 51, 50, 46, 115, 104, 114, 95, 115]⟩, 117),
  (⟨#[105, 51, 50, 46, 115, 104, 114, 95, 117]⟩, 118),
  (⟨#[105, 51, 50, 46, 114, 111, 116, 108]⟩, 119),
  (⟨#[105, 51, 50, 46, 114, 111, 116, 114]⟩, 120),
  (⟨#[105, 54, 52, 46, 99, 108, 122]⟩, 121),
  (⟨#[105, 54, 52, 46, 99, 116, 122]⟩, 122),
  (⟨#[105, 54, 52, 46, 112, 111, 112, 99, 110, 116]⟩, 123),
  (⟨#[105, 54, 52, 46, 97, 100, 100]⟩, 124),
  (⟨#[105, 54, 52, 46, 115, 117, 98]⟩, 125),
  (⟨#[105, 54, 52, 46, 109, 117, 108]⟩, 126),
  (⟨#[105, 54, 52, 46, 100, 105, 118, 95, 115]⟩, 127),
  (⟨#[105, 54, 52, 46, 100, 105, 118, 95, 117]⟩, 128),
  (⟨#[105, 54, 52, 46, 114, 101, 109, 95, 115]⟩, 129),
  (⟨#[105, 54, 52, 46, 114, 101, 109, 95, 117]⟩, 130),
  (⟨#[105, 54, 52, 46, 97, 110, 100]⟩, 131),
  (⟨#[105, 54, 52, 46, 111, 114]⟩, 132),
  (⟨#[105, 54, 52, 46, 120, 111, 114]⟩, 133),
  (⟨#[105, 54, 52, 46, 115, 104, 108]⟩, 134),
  (⟨#[105, 54, 52, 46, 115, 104, 114, 95, 115]⟩, 135),
  (⟨#[105, 54, 52, 46, 115, 104, 114, 95, 117]⟩, 136),
  (⟨#[105, 54, 52, 46, 114, 111, 116, 108]⟩, 137),
  (⟨#[105, 54, 52, 46, 114, 111, 116, 114]⟩, 138),
  (⟨#[105, 51, 50, 46, 119, 114, 97, 112, 95, 105, 54, 52]⟩, 167),
  (⟨#[105, 54, 52, 46, 101, 120, 116, 101, 110, 100, 95, 105, 51, 50, 95, 115]⟩, 172),
  (⟨#[105, 54, 52, 46, 101, 120, 116, 101, 110, 100, 95, 105, 51, 50, 95, 117]⟩, 173),
  (⟨#[105, 51, 50, 46, 101, 120, 116, 101, 110, 100, 56, 95, 115]⟩, 192),
  (⟨#[105, 51, 50, 46, 101, 120, 116, 101, 110, 100, 49, 54, 95, 115]⟩, 193),
  (⟨#[105, 54, 52, 46, 101, 120, 116, 101, 110, 100, 56, 95, 115]⟩, 194),
  (⟨#[105, 54, 52, 46, 101, 120, 116, 101, 110, 100, 49, 54, 95, 115]⟩, 195),
  (⟨#[105, 54, 52, 46, 101, 120, 116, 101, 110, 100, 51, 50, 95, 115]⟩, 196),
  (⟨#[114, 101, 102, 46, 110, 117, 108, 108]⟩, 208),
  (⟨#[114, 101, 102, 46, 105, 115, 95, 110, 117, 108, 108]⟩, 209),
  (⟨#[114, 101, 102, 46, 102, 117, 110, 99]⟩, 210),
  (⟨#[109, 101, 109, 111, 114, 121, 46, 105, 110, 105, 116]⟩, 64520),
  (⟨#[100, 97, 116, 97, 46, 100, 114, 111, 112]⟩, 64521),
  (⟨#[109, 101, 109, 111, 114, 121, 46, 99, 111, 112, 121]⟩, 64522),
  (⟨#[109, 101, 109, 111, 114, 121, 46, 102, 105, 108, 108]⟩, 64523),
  (⟨#[116, 97, 98, 108, 101, 46, 105, 110, 105, 116]⟩, 64524),
  (⟨#[101, 108, 101, 109, 46, 100, 114, 111, 112]⟩, 64525),
  (⟨#[116, 97, 98, 108, 101, 46, 99, 111, 112, 121]⟩, 64526),
  (⟨#[116, 97, 98, 108, 101, 46, 103, 114, 111, 119]⟩, 64527),
  (⟨#[116, 97, 98, 108, 101, 46, 115, 105, 122, 101]⟩, 64528),
  (⟨#[116, 97, 98, 108, 101, 46, 102, 105, 108, 108]⟩, 64529)]
noncomputable def D1 : List (PyData × PyData) := NT.map fun p => (PyData.int p.1, PyData.str p.2)
noncomputable def D2 : List (PyData × PyData) := CT.map fun p => (PyData.str p.1, PyData.int p.2)
noncomputable def putRow (x : Int) (y : Str) : List (PyData × PyData) → Nat → List Str → List (PyData × PyData)
  | D, _, [] => D
  | D, i, w :: r => putRow x y (putD (.int (x + (i : Int))) (.str (y ++ w)) D) (i + 1) r
noncomputable def stepRow (D : List (PyData × PyData)) (q : Int × Str × Str) : List (PyData × PyData) := putRow q.1 q.2.1 D 0 (Txt.split q.2.2 (Str.ofString " "))
theorem fold_a : (LL.take 17).foldl stepRow [] = D1.take 70 := by kernel_rfl
theorem fold_b : ((LL.drop 17).take 2).foldl stepRow (D1.take 70) = D1.take 106 := by kernel_rfl
theorem fold_c : ((LL.drop 17).drop 2).foldl stepRow (D1.take 106) = D1 := by kernel_rfl
theorem foldl_parts {α β : Type} {f : β → α → β} {l : List α} {b c d : β} (k : Nat) (h1 : (l.take k).foldl f b = c) (h2 : (l.drop k).foldl f c = d) : l.foldl f b = d := by
  rw [← List.take_append_drop k l, List.foldl_append, h1, h2]
theorem fold_rows : LL.foldl stepRow [] = D1 := foldl_parts 17 fold_a (foldl_parts 2 fold_b fold_c)
noncomputable def rowOk (q : Int × Str × Str) : Bool := q.2.1.length ≤ 100 && q.2.2.length ≤ 1000 && (Txt.split q.2.2 (Str.ofString " ")).all fun w => w.length ≤ 100
theorem rows_ok : LL.all rowOk = true := by decide +kernel
theorem putD_ge (a b : PyData) (D : List (PyData × PyData)) : D.length ≤ (putD a b D).length := by
  unfold putD
  split
  · rw [List.length_map]; exact Nat.le_refl _
  · rw [List.length_append]; omega
theorem putRow_ge (x : Int) (y : Str) : ∀ (r : List Str) (D : List (PyData × PyData)) (i : Nat), D.length ≤ (putRow x y D i r).length
  | [], _, _ => Nat.le_refl _
  | w :: r, D, i => Nat.le_trans (putD_ge _ _ D) (putRow_ge x y r _ (i + 1))
theorem fold_ge : ∀ (l : List (Int × Str × Str)) (D : List (PyData × PyData)), D.length ≤ (l.foldl stepRow D).length
  | [], _ => Nat.le_refl _
  | q :: l, D => Nat.le_trans (putRow_ge _ _ _ D 0) (fold_ge l _)
theorem D1_len : D1.length = 127 := by unfold D1; rw [List.length_map]; decide +kernel
end Mine
end
section
open PySem PySem.W PySem.Calls PyProof.Rows PyProof.V
noncomputable section
namespace Mine
abbrev tup3 (x : Int) (t1 : Tok) (y : Str) (t2 : Tok) (z : Str) (t3 : Tok) : Obj := ⟨.type "tuple", none, .seq #[.int x t1, .str y t2, .str z t3] 0, #[]⟩
def RowAt (led : List (Addr × Obj)) (v : Value) (q : Int × Str × Str) : Prop := ∃ a t1 t2 t3, v = .ref a ∧ (a, tup3 q.1 t1 q.2.1 t2 q.2.2 t3) ∈ led
theorem RowAt.mk {led : List (Addr × Obj)} {a : Addr} {x : Int} {y z : Str} {t1 t2 t3 : Tok} (h : (a, tup3 x t1 y t2 z t3) ∈ led) : RowAt led (.ref a) (x, y, z) := ⟨a, t1, t2, t3, rfl, h⟩
theorem All2.withMem {α : Type} {R : Value → α → Prop} {P : α → Prop} : ∀ {vs : List Value} {as : List α}, All2 R vs as → (∀ a ∈ as, P a) → All2 (fun v a => R v a ∧ P a) vs as
  | _, _, .nil, _ => .nil
  | _, _, .cons h r, hp => .cons ⟨h, hp _ (List.mem_cons_self ..)⟩ (All2.withMem r fun a ha => hp a (List.mem_cons_of_mem _ ha))
noncomputable def fiveNames : List Str := [Str.ofString "word", Str.ofString "k", Str.ofString "words", Str.ofString "head", Str.ofString "first"]
def DictIs (prog : Program) (w : World) (o : Obj) (D : List (PyData × PyData)) : Prop := ∃ kvs, o.IsDictOf (intKind prog w) kvs ∧ FlatPairs PyData.int kvs D
def RJ (prog : Program) (w : World) (g : Obj → List (Addr × Obj)) (r : List (Int × Str × Str)) (n : List (Addr × Obj)) : Prop := ∃ o' D', n = g o' ∧ DictIs prog w o' D' ∧ r.foldl stepRow D' = D1
def WJ (prog : Program) (w : World) (g : Obj → List (Addr × Obj)) (x : Int) (y : Str) (i : Nat) (r : List Str) (T : List (PyData × PyData)) (n : List (Addr × Obj)) : Prop := ∃ o' D', n = g o' ∧ DictIs prog w o' D' ∧ putRow x y D' i r = T
section
variable {prog : Program} {w : World} {A : Around} {E : Value → Shared → Prop} {s : Shared} {env : Env} {h₀ : Heap} {target : Expr} {body : List Stmt} {Q : Flow → Shared → Prop}
theorem rows_iter {ax d : Addr} {lo o₁ : Obj} {vs : List Value} {n : Nat} {m : Str → Option Value} {news : List (Addr × Obj)} {g : Obj → List (Addr × Obj)}
    (hh : A.handled = none) (F : Fr h₀ env.locals s.heap m) (N : News h₀ env.locals s.heap news) (U : UpdF d o₁ news g) (hcls : o₁.cls = .type "dict") (hm : (ax, lo) ∈ news) (hc : lo.cls = .type "list") (hd : lo.data = .seq vs.toArray n)
    (hR : All2 (RowAt news) vs LL) (hD : DictIs prog w o₁ [])
    (fin : ∀ m' o h tk, Off fiveNames m m' → DictIs prog w o D1 → Fr h₀ env.locals h m' → News h₀ env.locals h (g o) → Q .next { s with heap := h, toks := tk })
    (turn : ∀ x y z t1 t2 t3 a o D (r : List (Int × Str × Str)) m' h tk I io, rowOk (x, y, z) = true → Off fiveNames m m' → IsTup h a #[.int x t1, .str y t2, .str z t3] → DictIs prog w o D → r.foldl stepRow (stepRow D (x, y, z)) = D1 → Fr h₀ env.locals h m' →
      io.cls = .type "list_iterator" → (∀ p ∈ news, p.1 < I) → News h₀ env.locals h ((I, io) :: g o) →
      wpAny (model prog w) A (assign target env (.ref a)) (fun _ s₂ => wpAny (model prog w) A (execs body env)
        (UnrPostW h₀ env.locals { s with heap := h, toks := tk } [(I, io)] (fun m'' n'' => SubL [(ax, lo)] n'' ∧ RJ prog w g r n'' ∧ Off fiveNames m m'') Q) E s₂) E { s with heap := h, toks := tk }) :
    wpAny (model prog w) A (pyIter (.ref ax)) (fun it s₂ => TurnsAt prog w A h₀ env target body Q E it s₂) E s := by
  obtain ⟨own, rest, hn, hg, h1, h2⟩ := U.split
  have hg0 : news = g o₁ := hn.trans (hg o₁).symm
  refine list_iter (fun v q => RowAt news v q ∧ rowOk q = true) fiveNames (fun (r : List (Int × Str × Str)) n' => ∃ o' D', n' = g o' ∧ DictIs prog w o' D' ∧ r.foldl stepRow D' = D1) hh F N hm hc hd (hR.withMem (List.all_eq_true.mp rows_ok))
    ⟨o₁, [], hg0, hD, fold_rows⟩ ?_ ?_
  · rintro n' m' h tk ⟨o', D', rfl, hD', hf⟩ ho F' N'
    have e : D' = D1 := hf
    subst e
    exact fin m' o' h tk ho hD' F' N'
  · rintro v ⟨x, y, z⟩ r n' m' h tk I io ⟨⟨a, t1, t2, t3, rfl, hmem⟩, hok⟩ ⟨o', D', rfl, hD', hf⟩ ho F' hio l1 N'
    refine turn x y z t1 t2 t3 a o' D' r m' h tk I io hok ho ?_ hD' hf F' hio l1 N'
    have hmem' : (a, tup3 x t1 y t2 z t3) ∈ g o' := by
      rw [hn] at hmem
      rw [hg o']
      rcases List.mem_append.mp hmem with q | q
      · exact List.mem_append_left _ q
      · rcases List.mem_cons.mp q with q | q
        · exfalso
          have : o₁.cls = (tup3 x t1 y t2 z t3).cls := by rw [← (Prod.mk.inj q).2]
          rw [hcls] at this
          exact absurd this (by simp)
        · exact List.mem_append_right _ (List.mem_cons_of_mem _ q)
    exact ⟨_, N'.get (List.mem_cons_of_mem _ hmem'), rfl, 0, rfl⟩
theorem sep_one {l l' : List (Addr × Obj)} {I : Addr} {io : Obj} (e : l.map (·.1) = l'.map (·.1)) (h : ∀ p ∈ l, p.1 < I) : ∀ p ∈ l', ∀ q ∈ [(I, io)], p.1 ≠ q.1 := fun p hp q hq => by
  have hp' : p.1 ∈ l'.map (·.1) := List.mem_map_of_mem hp
  rw [← e] at hp'
  obtain ⟨x, hx, ex⟩ := List.mem_map.mp hp'
  have := h x hx
  rw [List.mem_singleton.mp hq, ← ex]
  exact Nat.ne_of_lt this
theorem sep_two {l l' : List (Addr × Obj)} {I : Addr} {ie io : Obj} (e : l.map (·.1) = l'.map (·.1)) (h : ∀ p ∈ l, p.1 < I) : ∀ p ∈ l', ∀ q ∈ [(I + 1, ie), (I, io)], p.1 ≠ q.1 := fun p hp q hq => by
  rcases List.mem_cons.mp hq with rfl | hq
  · exact sep_one e (fun x hx => Nat.lt_succ_of_lt (h x hx)) p hp _ (.head _)
  · exact sep_one e h p hp q hq
theorem RowAt.mono {l l' : List (Addr × Obj)} (h : ∀ p ∈ l, p ∈ l') {v : Value} {q : Int × Str × Str} : RowAt l v q → RowAt l' v q := fun ⟨a, t1, t2, t3, e, hm⟩ => ⟨a, t1, t2, t3, e, h _ hm⟩
theorem All2.map_rel {α : Type} {R R' : Value → α → Prop} (h : ∀ v a, R v a → R' v a) : ∀ {vs : List Value} {as : List α}, All2 R vs as → All2 R' vs as
  | _, _, .nil => .nil
  | _, _, .cons q r => .cons (h _ _ q) (All2.map_rel h r)
/-- the same, all that stands by shut away: a turn sees the list and the dict alone -/
theorem rows_iter3 {ax d : Addr} {lo o₁ : Obj} {vs : List Value} {n : Nat} {m : Str → Option Value} {news more : List (Addr × Obj)} {g : Obj → List (Addr × Obj)}
    (hh : A.handled = none) (F : Fr h₀ env.locals s.heap m) (N : News h₀ env.locals s.heap ((ax, lo) :: (news ++ more))) (U : UpdF d o₁ news g) (hl : ∀ q ∈ news, q.1 ≠ ax) (hs : ∀ p ∈ more, ∀ q ∈ news, p.1 ≠ q.1) (hcls : o₁.cls = .type "dict") (hc : lo.cls = .type "list") (hd : lo.data = .seq vs.toArray n)
    (hR : All2 (RowAt more) vs LL) (hD : DictIs prog w o₁ []) (keep : List (Addr × Obj)) (hk : ∀ p ∈ keep, p ∈ news ∧ p.1 ≠ d)
    (fin : ∀ m' o h tk, Off fiveNames m m' → DictIs prog w o D1 → Fr h₀ env.locals h m' → News h₀ env.locals h ((d, o) :: keep) → Q .next { s with heap := h, toks := tk })
    (turn : ∀ (rest : List (Addr × Obj)) x y z t1 t2 t3 a o D (r : List (Int × Str × Str)) m' h tk I io, (∀ p ∈ rest, p.1 ≠ d) → ax ≠ d → rowOk (x, y, z) = true → Off fiveNames m m' → IsTup h a #[.int x t1, .str y t2, .str z t3] → DictIs prog w o D → r.foldl stepRow (stepRow D (x, y, z)) = D1 → Fr h₀ env.locals h m' →
      io.cls = .type "list_iterator" → (∀ p ∈ (ax, lo) :: (d, o₁) :: rest, p.1 < I) → News h₀ env.locals h ((I, io) :: (ax, lo) :: (d, o) :: rest) →
      wpAny (model prog w) A (assign target env (.ref a)) (fun _ s₂ => wpAny (model prog w) A (execs body env)
        (UnrPostW h₀ env.locals { s with heap := h, toks := tk } [(I, io)] (fun m'' n'' => SubL [(ax, lo)] n'' ∧ RJ prog w (fun o => (ax, lo) :: (d, o) :: rest) r n'' ∧ Off fiveNames m m'') Q) E s₂) E { s with heap := h, toks := tk }) :
    wpAny (model prog w) A (pyIter (.ref ax)) (fun it s₂ => TurnsAt prog w A h₀ env target body Q E it s₂) E s := by
  obtain ⟨own, rest, hn, -, h1, h2⟩ := U.split
  have hdm : (d, o₁) ∈ news := by rw [hn]; simp
  have hne : ax ≠ d := Ne.symm (hl _ hdm)
  have hall : ∀ p ∈ own ++ (rest ++ more), p.1 ≠ d := fun p hp => by
    rcases List.mem_append.mp hp with q | q
    · exact h1 p q
    · rcases List.mem_append.mp q with q | q
      · exact h2 p q
      · exact hs p q _ hdm
  have hsub : ∀ p ∈ (ax, lo) :: (d, o₁) :: (own ++ (rest ++ more)), p ∈ (ax, lo) :: (news ++ more) := fun p hp => by
    rw [hn]
    simp only [List.mem_cons, List.mem_append] at hp ⊢
    rcases hp with q | q | q | q | q <;> simp [q]
  refine rows_iter (news := (ax, lo) :: (d, o₁) :: (own ++ (rest ++ more))) hh F (fun p hp => N p (hsub p hp)) (.tail hne (.head hall)) hcls (.head _) hc hd (hR.map_rel fun _ _ => RowAt.mono fun p hp => by simp [hp]) hD ?_ ?_
  · intro m' o h tk ho hD' F' N'
    refine fin m' o h tk ho hD' F' fun p hp => ?_
    rcases List.mem_cons.mp hp with rfl | hp
    · exact N' _ (.tail _ (.head _))
    · obtain ⟨q1, q2⟩ := hk p hp
      refine N' _ (.tail _ (.tail _ ?_))
      rw [hn] at q1
      rcases List.mem_append.mp q1 with q | q
      · exact List.mem_append_left _ q
      · rcases List.mem_cons.mp q with rfl | q
        · exact absurd rfl q2
        · exact List.mem_append_right _ (List.mem_append_left _ q)
  · intro x y z t1 t2 t3 a o D r m' h tk I io q1 q2 q3 q4 q5 F' q6 q7 N'
    exact turn (own ++ (rest ++ more)) x y z t1 t2 t3 a o D r m' h tk I io hall hne q1 q2 q3 q4 q5 F' q6 q7 N'
theorem words_iter {elts : List Expr} {k : Nat} {pos : Pos} {ax d : Addr} {lo o₁ : Obj} {vs : List Value} {as : List Str} {n : Nat} {m : Str → Option Value} {news : List (Addr × Obj)} {g : Obj → List (Addr × Obj)} {D₀ : List (PyData × PyData)} (x : Int) (y : Str)
    (hh : A.handled = none) (F : Fr h₀ env.locals s.heap m) (N : News h₀ env.locals s.heap news) (U : UpdF d o₁ news g) (hm : (ax, lo) ∈ news) (hc : lo.cls = .type "list") (hd : lo.data = .seq vs.toArray n)
    (hR : All2 (fun v w => ∃ t, v = Value.str w t) vs as) (hw : ∀ v ∈ as, v.length ≤ 100) (hl : (putRow x y D₀ 0 as).length ≤ sizeLine) (hD : DictIs prog w o₁ D₀)
    (fin : ∀ m' o h tk, Off [Str.ofString "word", Str.ofString "k"] m m' → DictIs prog w o (putRow x y D₀ 0 as) → Fr h₀ env.locals h m' → News h₀ env.locals h (g o) → Q .next { s with heap := h, toks := tk })
    (turn : ∀ (i : Nat) T t v tv (r : List Str) m' o D h tk I io ie, v.length ≤ 100 → D.length ≤ sizeLine → Off [Str.ofString "word", Str.ofString "k"] m m' → IsTup h T #[.int (i : Int) t, .str v tv] → DictIs prog w o D →
      putRow x y (putD (.int (x + (i : Int))) (.str (y ++ v)) D) (i + 1) r = putRow x y D₀ 0 as → Fr h₀ env.locals h m' → ie.cls = .type "enumerate" → io.cls = .type "list_iterator" → (∀ p ∈ news, p.1 < I) → News h₀ env.locals h ((I + 1, ie) :: (I, io) :: g o) →
      wpAny (model prog w) A (assign (.Tuple elts k pos) env (.ref T)) (fun _ s₂ => wpAny (model prog w) A (execs body env)
        (UnrPostW h₀ env.locals { s with heap := h, toks := tk } [(I + 1, ie), (I, io)] (fun m'' n'' => SubL [(ax, lo)] n'' ∧ WJ prog w g x y (i + 1) r (putRow x y D₀ 0 as) n'' ∧ Off [Str.ofString "word", Str.ofString "k"] m m'') Q) E s₂) E { s with heap := h, toks := tk }) :
    wpAny (model prog w) A (call (.type "enumerate") [.ref ax]) (fun xv s₁ => wpAny (model prog w) A (pyIter xv) (fun it s₂ => TurnsAt prog w A h₀ env (.Tuple elts k pos) body Q E it s₂) E s₁) E s := by
  obtain ⟨own, rest, hn, hg, h1, h2⟩ := U.split
  have hg0 : news = g o₁ := hn.trans (hg o₁).symm
  refine enum_iter (fun v (q : Str) => (∃ t, v = Value.str q t) ∧ q.length ≤ 100) [Str.ofString "word", Str.ofString "k"] (fun i (r : List Str) n' => ∃ o' D', n' = g o' ∧ DictIs prog w o' D' ∧ putRow x y D' i r = putRow x y D₀ 0 as) hh F N hm hc hd (hR.withMem hw)
    ⟨o₁, D₀, hg0, hD, rfl⟩ ?_ ?_
  · rintro i n' m' h tk ⟨o', D', rfl, hD', hf⟩ ho F' N'
    have e : D' = putRow x y D₀ 0 as := hf
    subst e
    exact fin m' o' h tk ho hD' F' N'
  · rintro i T t v a r n' m' h tk I io ie ⟨⟨tv, rfl⟩, hlen⟩ ⟨o', D', rfl, hD', hf⟩ ho hT F' hie hio l1 N'
    exact turn i T t a tv r m' o' D' h tk I io ie hlen (Nat.le_trans (putRow_ge x y (a :: r) D' i) (hf ▸ hl)) ho hT hD' hf F' hie hio l1 N'
theorem strsAre_all2 : ∀ {vs : List Value} {ss : List Str}, StrsAre vs ss → All2 (fun v w => ∃ t, v = Value.str w t) vs ss
  | _, _, .nil => .nil
  | _, _, .cons y t h => .cons ⟨t, rfl⟩ (strsAre_all2 h)
end
end Mine
end
end
section
open PySem PySem.W PySem.Spec PySem.Calls PyProof.Rows PyProof.V
noncomputable section
namespace Mine
noncomputable def lkN (n : Int) : List (Int × Str) → Option Str
  | [] => none
  | (k, s) :: r => if k = n then some s else lkN n r
noncomputable def lkC (x : Str) : List (Str × Int) → Option Int
  | [] => none
  | (s, k) :: r => if s = x then some k else lkC x r
theorem lookup_int (n : Int) : ∀ l : List (Int × Str), Spec.lookup (.int n) (l.map fun p => (PyData.int p.1, PyData.str p.2)) = (lkN n l).map .str
  | [] => rfl
  | (k, s) :: r => by
    show (if Spec.same (.int k) (.int n) then some (PyData.str s) else Spec.lookup (.int n) (r.map fun p => (PyData.int p.1, PyData.str p.2))) = (if k = n then some s else lkN n r).map .str
    rw [PyProof.V.same_int k n, lookup_int n r]
    by_cases h : k = n <;> simp [h]
theorem lookup_str (x : Str) : ∀ l : List (Str × Int), Spec.lookup (.str x) (l.map fun p => (PyData.str p.1, PyData.int p.2)) = (lkC x l).map .int
  | [] => rfl
  | (s, k) :: r => by
    show (if Spec.same (.str s) (.str x) then some (PyData.int k) else Spec.lookup (.str x) (r.map fun p => (PyData.str p.1, PyData.int p.2))) = (if s = x then some k else lkC x r).map .int
    rw [PyProof.V.same_str s x, lookup_str x r]
    by_cases h : s = x <;> simp [h]
theorem lkN_mem {n : Int} {s : Str} : ∀ {l : List (Int × Str)}, lkN n l = some s → (n, s) ∈ l
  | [], h => by cases h
  | (k, t) :: r, h => by
    by_cases e : k = n
    · simp only [lkN, if_pos e] at h
      cases h; subst e; exact List.mem_cons_self ..
    · simp only [lkN, if_neg e] at h
      exact List.mem_cons_of_mem _ (lkN_mem h)
theorem lkC_mem {x : Str} {k : Int} : ∀ {l : List (Str × Int)}, lkC x l = some k → (x, k) ∈ l
  | [], h => by cases h
  | (s, j) :: r, h => by
    by_cases e : s = x
    · simp only [lkC, if_pos e] at h
      cases h; subst e; exact List.mem_cons_self ..
    · simp only [lkC, if_neg e] at h
      exact List.mem_cons_of_mem _ (lkC_mem h)
noncomputable def nameS (n : Int) : Option Str := match lkN n NL with
  | some s => some s
  | none => rowName n
theorem nameD_eq (n : Int) : nameD n = match nameS n with | some s => .str s | none => .none := by
  unfold nameD nameS
  rw [show ND = NL.map fun p => (PyData.int p.1, PyData.str p.2) from rfl, lookup_int]
  cases lkN n NL <;> rfl
noncomputable def ntOk (p : Int × Str) : Bool := p.2.length ≤ 90 && 0 < p.2.length && nameS p.1 == some p.2 && !leftB p.2 && (lkC p.2 CT).isSome
theorem ct_ok : CT.all (fun p => codeO p.1 == some p.2 && decide (p.1.length ≤ 90) && decide (0 < p.1.length)) = true := by decide +kernel
theorem all_parts {α : Type} {f : α → Bool} {l : List α} (k : Nat) (h1 : (l.take k).all f = true) (h2 : (l.drop k).all f = true) : l.all f = true := by
  rw [← List.take_append_drop k l, List.all_append, h1, h2]; rfl
theorem nt_ok1 : (NT.take 32).all ntOk = true := by decide +kernel
theorem nt_ok2 : ((NT.drop 32).take 32).all ntOk = true := by decide +kernel
theorem nt_ok3 : (((NT.drop 32).drop 32).take 32).all ntOk = true := by decide +kernel
theorem nt_ok4 : (((NT.drop 32).drop 32).drop 32).all ntOk = true := by decide +kernel
theorem nt_ok : NT.all ntOk = true := all_parts 32 nt_ok1 (all_parts 32 nt_ok2 (all_parts 32 nt_ok3 nt_ok4))
theorem nl_in : NL.all (fun p => (lkN p.1 NT).isSome) = true := by decide +kernel
theorem rows_in : (List.range 18).all (fun i => (11 ≤ i || ((lkN (69 + (i : Int)) NT).isSome && (lkN (80 + (i : Int)) NT).isSome)) && (lkN (103 + (i : Int)) NT).isSome && (lkN (121 + (i : Int)) NT).isSome) = true := by decide +kernel
theorem rowName_in {n : Int} {s : Str} (h : rowName n = some s) : (lkN n NT).isSome = true := by
  have q := List.all_eq_true.mp rows_in
  unfold rowName at h
  split at h
  · rename_i c
    have := q (n - 69).toNat (List.mem_range.mpr (by omega))
    simp only [Bool.and_eq_true, Bool.or_eq_true, decide_eq_true_eq] at this
    have e : 69 + ((n - 69).toNat : Int) = n := by omega
    rw [e] at this
    rcases this.1.1 with c' | c'
    · omega
    · exact c'.1
  · split at h
    · rename_i c
      have := q (n - 80).toNat (List.mem_range.mpr (by omega))
      simp only [Bool.and_eq_true, Bool.or_eq_true, decide_eq_true_eq] at this
      have e : 80 + ((n - 80).toNat : Int) = n := by omega
      rw [e] at this
      rcases this.1.1 with c' | c'
      · omega
      · exact c'.2
    · split at h
      · rename_i c
        have := q (n - 103).toNat (List.mem_range.mpr (by omega))
        simp only [Bool.and_eq_true, Bool.or_eq_true, decide_eq_true_eq] at this
        have e : 103 + ((n - 103).toNat : Int) = n := by omega
        rw [e] at this
        exact this.1.2
      · split at h
        · rename_i c
          have := q (n - 121).toNat (List.mem_range.mpr (by omega))
          simp only [Bool.and_eq_true, Bool.or_eq_true, decide_eq_true_eq] at this
          have e : 121 + ((n - 121).toNat : Int) = n := by omega
          rw [e] at this
          exact this.2
        · cases h
theorem nt_facts {n : Int} {s : Str} (h : (n, s) ∈ NT) : s.length ≤ 90 ∧ 0 < s.length ∧ nameS n = some s ∧ leftB s = false ∧ ∃ k, codeO s = some k ∧ lkC s CT = some k := by
  have q := List.all_eq_true.mp nt_ok _ h
  unfold ntOk at q
  simp only [Bool.and_eq_true, decide_eq_true_eq, beq_iff_eq, Bool.not_eq_true'] at q
  obtain ⟨⟨⟨⟨a, b⟩, c⟩, d⟩, e⟩ := q
  refine ⟨a, b, c, d, ?_⟩
  cases hc : lkC s CT with
  | none => rw [hc] at e; cases e
  | some k =>
    have g := List.all_eq_true.mp ct_ok _ (lkC_mem hc)
    simp only [Bool.and_eq_true, beq_iff_eq] at g
    exact ⟨k, g.1.1, rfl⟩
theorem names_eq (n : Int) : nameS n = lkN n NT := by
  cases h : lkN n NT with
  | some s => exact (nt_facts (lkN_mem h)).2.2.1
  | none =>
    unfold nameS
    cases h2 : lkN n NL with
    | some s =>
      have := List.all_eq_true.mp nl_in _ (lkN_mem h2)
      rw [h] at this; cases this
    | none =>
      cases h3 : rowName n with
      | none => rfl
      | some s => have := rowName_in h3; rw [h] at this; cases this
def NameFacts (n : Int) (v : Value) : Prop :=
  (∃ s t k, v = .str s t ∧ Spec.lookup (.int n) D1 = some (.str s) ∧ s.length ≤ 1000 ∧ codeO s = some k ∧ Spec.lookup (.str s) D2 = some (.int k) ∧ leftB s = false) ∨ (v = .none ∧ Spec.lookup (.int n) D1 = none)
theorem nameFacts_of {n : Int} {v : Value} (h : Flat v (nameD n)) : NameFacts n v := by
  rw [nameD_eq, names_eq] at h
  have e : Spec.lookup (.int n) D1 = (lkN n NT).map .str := lookup_int n NT
  cases hn : lkN n NT with
  | none =>
    rw [hn] at h e
    exact .inr ⟨Flat.none_inv h, e⟩
  | some s =>
    rw [hn] at h e
    obtain ⟨t, rfl⟩ := Flat.str_inv h
    obtain ⟨a, _, _, d, k, hk, hk2⟩ := nt_facts (lkN_mem hn)
    exact .inl ⟨s, t, k, rfl, e, by omega, hk, by rw [show D2 = CT.map fun p => (PyData.str p.1, PyData.int p.2) from rfl, lookup_str, hk2]; rfl, d⟩
theorem nl_ok : NL.all (fun p => p.1 == 28 || lkC p.2 CT == some p.1) = true := by decide +kernel
theorem tl_ok : TL.all (fun u => lkC (Str.ofString "i32." ++ u) CT == some (69 + (TL.idxOf u : Nat)) && lkC (Str.ofString "i64." ++ u) CT == some (80 + (TL.idxOf u : Nat))) = true := by decide +kernel
theorem sl_ok : SL.all (fun u => lkC (Str.ofString "i32." ++ u) CT == some (103 + (SL.idxOf u : Nat)) && lkC (Str.ofString "i64." ++ u) CT == some (121 + (SL.idxOf u : Nat))) = true := by decide +kernel
theorem nmCode_in {x : Str} {k : Int} : ∀ {l : List (Int × Str)}, nmCode x l = some k → (k, x) ∈ l ∧ k ≠ 28
  | [], h => by cases h
  | (j, s) :: r, h => by
    by_cases e : s = x ∧ j ≠ 28
    · simp only [nmCode, if_pos e] at h
      cases h
      obtain ⟨rfl, h2⟩ := e
      exact ⟨List.mem_cons_self .., h2⟩
    · simp only [nmCode, if_neg e] at h
      exact ⟨List.mem_cons_of_mem _ (nmCode_in h).1, (nmCode_in h).2⟩
theorem slice_cat {x p : Str} (hp : p.length = 4) (h : Txt.slice x none (some 4) = p) : x = p ++ Txt.slice x (some 4) none := by
  have hl : 4 ≤ x.length := by
    have := PyProof.Txt.length_slice_le x none (some 4)
    rw [h, hp] at this; exact this
  have hl' : (4 : Int) ≤ (x.cps.toList.length : Int) := by
    have : x.length = x.cps.toList.length := by simp [Str.length]
    omega
  have e1 : Txt.slice x none (some 4) = ⟨((x.cps.toList.drop (0 : Int).toNat).take ((4 : Int) - 0).toNat).toArray⟩ := beq_iff_eq.mp (slice_closes_to ⟨by omega, hl'⟩)
  have e2 : Txt.slice x (some 4) none = ⟨((x.cps.toList.drop (4 : Int).toNat).take ((x.length : Int) - 4).toNat).toArray⟩ := slice_from_eq (by omega) (by omega) rfl
  rw [← h, e1, e2]
  have e3 : ((x.length : Int) - 4).toNat = (x.cps.toList.drop 4).length := by simp [Str.length]; omega
  apply Str.ext'
  show x.cps = _
  rw [show ((4 : Int)).toNat = 4 from rfl, e3, List.take_length]
  rw [Str.cps_append]
  apply Array.ext'
  simp
theorem inRow_of {x p : Str} {ws : List Str} (hp : p.length = 4) (h : inRow x p ws = true) : ∃ u ∈ ws, u = Txt.slice x (some 4) none ∧ x = p ++ u := by
  unfold inRow at h
  simp only [Bool.and_eq_true, beq_iff_eq, List.any_eq_true] at h
  obtain ⟨h1, u, hu, e⟩ := h
  exact ⟨u, hu, e, by rw [e]; exact slice_cat hp h1⟩
theorem p4a : (Str.ofString "i32.").length = 4 := by decide +kernel
theorem p4b : (Str.ofString "i64.").length = 4 := by decide +kernel
theorem codes_eq (x : Str) : codeO x = lkC x CT := by
  cases h : lkC x CT with
  | some k =>
    have q := List.all_eq_true.mp ct_ok _ (lkC_mem h)
    simp only [Bool.and_eq_true, beq_iff_eq] at q
    exact q.1.1
  | none =>
    unfold codeO
    split
    · rename_i c
      obtain ⟨u, hu, e, ex⟩ := inRow_of p4a c
      have q := List.all_eq_true.mp tl_ok _ hu
      simp only [Bool.and_eq_true, beq_iff_eq] at q
      rw [← ex, h] at q; cases q.1
    · split
      · rename_i c
        obtain ⟨u, hu, e, ex⟩ := inRow_of p4b c
        have q := List.all_eq_true.mp tl_ok _ hu
        simp only [Bool.and_eq_true, beq_iff_eq] at q
        rw [← ex, h] at q; cases q.2
      · split
        · rename_i c
          obtain ⟨u, hu, e, ex⟩ := inRow_of p4a c
          have q := List.all_eq_true.mp sl_ok _ hu
          simp only [Bool.and_eq_true, beq_iff_eq] at q
          rw [← ex, h] at q; cases q.1
        · split
          · rename_i c
            obtain ⟨u, hu, e, ex⟩ := inRow_of p4b c
            have q := List.all_eq_true.mp sl_ok _ hu
            simp only [Bool.and_eq_true, beq_iff_eq] at q
            rw [← ex, h] at q; cases q.2
          · cases hc : nmCode x NL with
            | none => rfl
            | some k =>
              obtain ⟨a, b⟩ := nmCode_in hc
              have q := List.all_eq_true.mp nl_ok _ a
              simp only [Bool.or_eq_true, beq_iff_eq] at q
              rcases q with q | q
              · exact absurd q b
              · rw [h] at q; cases q
theorem code_lookup (x : Str) : (Spec.lookup (.str x) D2).getD .none = ofO (codeO x) := by
  rw [show D2 = CT.map fun p => (PyData.str p.1, PyData.int p.2) from rfl, lookup_str, codes_eq]
  cases lkC x CT <;> rfl
end Mine
end
end
section
open PySem PySem.W PySem.Spec PySem.Calls PyProof.Rows PyProof.V
noncomputable section
namespace Mine
theorem PClaim.mono {w : World} {loose : List Str} {mean : ExcName → Option Value} {mg mb : Str → Option Value} {f : Addr} {vs : List Value} {R R' : Value → Prop} (h : PClaim w loose mean mg mb f vs R) (hr : ∀ v, R v → R' v) : PClaim w loose mean mg mb f vs R' :=
  fun dp un gd cn cs a ccd cl outer A₀ base h₀ L m s Q E B F X T hk hd hu hret => h dp un gd cn cs a ccd cl outer A₀ base h₀ L m s Q E B F X T hk hd hu fun v h' tk' hv hs => hret v h' tk' (hr v hv) hs
def CodeFacts (x : Str) (v : Value) : Prop := (∃ k t, v = .int k t ∧ codeO x = some k ∧ Spec.lookup (.str x) D2 = some (.int k)) ∨ (v = .none ∧ codeO x = none ∧ Spec.lookup (.str x) D2 = none)
theorem code_law (w : World) (loose : List Str) (mean : ExcName → Option Value) (mg mb : Str → Option Value) (x : Str) (t : Tok) (hx : x.length ≤ 1000) : PClaim w loose mean mg mb 40 [.str x t] (CodeFacts x) :=
  (codeOf_ok w loose mean mg mb x t hx).mono fun v h => by
    have e : Spec.lookup (.str x) D2 = (codeO x).map .int := by
      rw [show D2 = CT.map fun p => (PyData.str p.1, PyData.int p.2) from rfl, lookup_str, codes_eq]
    cases hc : codeO x with
    | none =>
      rw [hc] at h e
      exact .inr ⟨Flat.none_inv h, hc, e⟩
    | some k =>
      rw [hc] at h e
      obtain ⟨t', rfl⟩ := Flat.int_inv h
      exact .inl ⟨k, t', rfl, hc, e⟩
theorem name_law (w : World) (loose : List Str) (mean : ExcName → Option Value) (mg mb : Str → Option Value) (n : Int) (t : Tok) : PClaim w loose mean mg mb 33 [.int n t] (NameFacts n) :=
  (nameOf_ok w loose mean mg mb n t).mono fun _ h => nameFacts_of h
theorem code_law_at (w : World) (loose : List Str) (mean : ExcName → Option Value) (mg mb : Str → Option Value) (x : Str) (t : Tok) (k : Int) (hx : x.length ≤ 1000) (hk : codeO x = some k) : PClaim w loose mean mg mb 40 [.str x t] (fun v => ∃ t, v = .int k t) :=
  (code_law w loose mean mg mb x t hx).mono fun v h => by
    rcases h with ⟨k', t', rfl, hc, _⟩ | ⟨_, hc, _⟩
    · rw [hk] at hc; cases hc; exact ⟨t', rfl⟩
    · rw [hk] at hc; cases hc
theorem code_law_none (w : World) (loose : List Str) (mean : ExcName → Option Value) (mg mb : Str → Option Value) (x : Str) (t : Tok) (hx : x.length ≤ 1000) (hk : codeO x = none) : PClaim w loose mean mg mb 40 [.str x t] (fun v => v = .none) :=
  (code_law w loose mean mg mb x t hx).mono fun v h => by
    rcases h with ⟨k', t', _, hc, _⟩ | ⟨rfl, _⟩
    · rw [hk] at hc; cases hc
    · rfl
theorem left_law (w : World) (loose : List Str) (mean : ExcName → Option Value) (mg mb : Str → Option Value) (x : Str) (t : Tok) (b : Bool) (hx : x.length ≤ 1000) (hb : leftB x = b) : PClaim w loose mean mg mb 47 [.str x t] (fun v => v = .bool b) :=
  (isLeft_ok w loose mean mg mb x t hx).mono fun v h => by rw [h, hb]
theorem keep2 {h₀ h h' : Heap} {L : Addr} {m : Str → Option Value} {news : List (Addr × Obj)} {P : Prop} (F : Fr h₀ L h m) (N : News h₀ L h news) (hk : ∀ b o, h.get? b = some o → h'.get? b = some o) (k : Fr h₀ L h' m → News h₀ L h' news → P) : P := k (F.keeps hk) (N.grown hk)
section
variable {prog : Program} {w : World} {A : Around} {E : Value → Shared → Prop} {s : Shared} {d : Addr} {D : List (PyData × PyData)} {x : Str} {i k : Int} {t : Tok} {Q : Value → Shared → Prop}
theorem gi_hit (T : IntTab prog w s.heap d D) (hL : Spec.lookup (.int i) D = some (.str x)) (h : ∀ t', Q (.str x t') { s with toks := s.toks + 1 }) : wpAny (model prog w) A (call (.builtin "dict.get") [.ref d, .int i t]) Q E s :=
  call_get1_intTab T fun v hv => by rw [hL] at hv; obtain ⟨t', rfl⟩ := Flat.str_inv hv; exact h t'
theorem gi_miss (T : IntTab prog w s.heap d D) (hL : Spec.lookup (.int i) D = none) (h : Q .none { s with toks := s.toks + 1 }) : wpAny (model prog w) A (call (.builtin "dict.get") [.ref d, .int i t]) Q E s :=
  call_get1_intTab T fun v hv => by rw [hL] at hv; rw [Flat.none_inv hv]; exact h
theorem ii_hit {y : PyData} (T : IntTab prog w s.heap d D) (hL : Spec.lookup (.int i) D = some y) (h : Q (.bool true) { s with toks := s.toks + 1 }) : wpAny (model prog w) A (compareOp .In (.int i t) (.ref d)) Q E s :=
  in_intTab T (by rw [hL]; exact h)
theorem ii_miss (T : IntTab prog w s.heap d D) (hL : Spec.lookup (.int i) D = none) (h : Q (.bool false) { s with toks := s.toks + 1 }) : wpAny (model prog w) A (compareOp .In (.int i t) (.ref d)) Q E s :=
  in_intTab T (by rw [hL]; exact h)
theorem it_hit {value slice : Expr} (T : IntTab prog w s.heap d D) (hL : Spec.lookup (.int i) D = some (.str x)) (h : ∀ t', Q (.str x t') { s with toks := s.toks + 1 })
    (hs : subscripted slice false (.ref d) (.int i t) = operate [.ref d, .int i t] (getItem (.ref d) (.int i t)) := by with_unfolding_all rfl) (hg : ∀ r, letTemporaryGo value (.ref d) r = pure () := by intro _; with_unfolding_all rfl) :
    wpAny (model prog w) A (subscriptTail value slice (.ref d) (.int i t)) Q E s :=
  item_intTab T hL (fun v hv => by obtain ⟨t', rfl⟩ := Flat.str_inv hv; exact h t') hs hg
theorem gs_hit (T : StrTab prog w s.heap d D) (hL : Spec.lookup (.str x) D = some (.int k)) (h : ∀ t', Q (.int k t') { s with toks := s.toks + 1 }) : wpAny (model prog w) A (call (.builtin "dict.get") [.ref d, .str x t]) Q E s :=
  call_get1_strTab T fun v hv => by rw [hL] at hv; obtain ⟨t', rfl⟩ := Flat.int_inv hv; exact h t'
theorem gs_miss (T : StrTab prog w s.heap d D) (hL : Spec.lookup (.str x) D = none) (h : Q .none { s with toks := s.toks + 1 }) : wpAny (model prog w) A (call (.builtin "dict.get") [.ref d, .str x t]) Q E s :=
  call_get1_strTab T fun v hv => by rw [hL] at hv; rw [Flat.none_inv hv]; exact h
theorem is_hit {value slice : Expr} (T : StrTab prog w s.heap d D) (hL : Spec.lookup (.str x) D = some (.int k)) (h : ∀ t', Q (.int k t') { s with toks := s.toks + 1 })
    (hs : subscripted slice false (.ref d) (.str x t) = operate [.ref d, .str x t] (getItem (.ref d) (.str x t)) := by with_unfolding_all rfl) (hg : ∀ r, letTemporaryGo value (.ref d) r = pure () := by intro _; with_unfolding_all rfl) :
    wpAny (model prog w) A (subscriptTail value slice (.ref d) (.str x t)) Q E s :=
  item_strTab T hL (fun v hv => by obtain ⟨t', rfl⟩ := Flat.int_inv hv; exact h t') hs hg
end
def Same (l : List (Addr × Obj)) (n : List (Addr × Obj)) : Prop := n = l
theorem intsAre_all2 : ∀ {vs : List Value} {ns : List Int}, IntsAre vs ns → All2 (fun v n => ∃ t, v = Value.int n t) vs ns
  | _, _, .nil => .nil
  | _, _, .cons n t h => .cons ⟨t, rfl⟩ (intsAre_all2 h)
def P4 (names : List Str) (led : List (Addr × Obj)) (h₀ : Heap) (L : Addr) (m : Str → Option Value) (s : Shared) (fl : Flow) (s' : Shared) : Prop :=
  fl = .next ∧ ∃ h' tk' m', s' = { s with heap := h', toks := tk' } ∧ Off names m m' ∧ Fr h₀ L h' m' ∧ News h₀ L h' led
theorem cut4 (names : List Str) {prog : Program} {w : World} {A : Around} {t : Sem Flow} {Q : Flow → Shared → Prop} {E : Value → Shared → Prop} {s : Shared} {h₀ : Heap} {L : Addr} {m : Str → Option Value} {led : List (Addr × Obj)} (ff : Fr h₀ L s.heap m)
    (nn : News h₀ L s.heap led) (h1 : wpAny (model prog w) A t (P4 names led h₀ L m s) E s) (h2 : ∀ fl s', P4 names led h₀ L m s fl s' → Q fl s') : wpAny (model prog w) A t Q E s := wpAny_mono h1 h2 fun _ _ e => e
end Mine
end
end
section
open PySem PySem.W PySem.Spec PySem.Calls PyProof.Rows PyProof.V
namespace Mine
noncomputable def gallop' : Bool → Keyed → Array Keyed → Nat → Nat → Nat → StateT SortSt Sem (Option Nat) := sortPriv% PySem.Builtin.gallop
noncomputable def setMinGallop' : Nat → StateT SortSt Sem Unit := sortPriv% PySem.Builtin.setMinGallop
noncomputable def mergeLo' : Array Keyed → Array Keyed → StateT SortSt Sem (Array Keyed) := sortPriv% PySem.Builtin.mergeLo
noncomputable def mergeHi' : Array Keyed → Array Keyed → StateT SortSt Sem (Array Keyed) := sortPriv% PySem.Builtin.mergeHi
/-- what the sort may not touch: the kind, the items, the runs, the failure -/
def Sm (st st' : SortSt) : Prop := kindOf st' = kindOf st ∧ arrOf st' = arrOf st ∧ pendingOf st' = pendingOf st ∧ failedOf st' = failedOf st
theorem Sm.refl (st : SortSt) : Sm st st := ⟨rfl, rfl, rfl, rfl⟩
theorem Sm.trans {st st' st'' : SortSt} (h : Sm st st') (h' : Sm st' st'') : Sm st st'' := ⟨h'.1.trans h.1, h'.2.1.trans h.2.1, h'.2.2.1.trans h.2.2.1, h'.2.2.2.trans h.2.2.2⟩
section
variable {prog : Program} {w : World} {A : Around} {E : Value → Shared → Prop} {s : Shared} {κ : PyProof.Rows.KeyKind}
def KOk (κ : PyProof.Rows.KeyKind) (p : Keyed) : Prop := ∃ a, κ.keyOf p.1 = some a
theorem wpS_elem {st : SortSt} {a : Array Keyed} {i : Nat} {Q : Keyed → SortSt → Prop} (hi : i < a.size) (h : ∀ p, p ∈ a.toList → Q p st) : wpS (model prog w) A E s (elem' a i) Q st := by
  rw [elem'_eq, getElem?_pos a i hi]
  exact wpS_pure (h _ (by simp))
theorem wpS_setMin {st : SortSt} {g : Nat} {Q : Unit → SortSt → Prop} (h : ∀ st', Sm st st' → Q () st') : wpS (model prog w) A E s (setMinGallop' g) Q st :=
  wpS_modify (h _ ⟨rfl, rfl, rfl, rfl⟩)
theorem wpS_ite {α : Type} {c : Prop} [Decidable c] {t e : StateT SortSt Sem α} {Q : α → SortSt → Prop} {st : SortSt} (ht : c → wpS (model prog w) A E s t Q st) (he : ¬ c → wpS (model prog w) A E s e Q st) : wpS (model prog w) A E s (if c then t else e) Q st := by
  by_cases q : c
  · rw [if_pos q]; exact ht q
  · rw [if_neg q]; exact he q
theorem wpS_lt' {st : SortSt} {p q : Keyed} {Q : Option Bool → SortSt → Prop} (hO : κ.OneLt) (hk : kindOf st = oneType') (hp : KOk κ p) (hq : KOk κ q) (h : ∀ b, Q (some b) st) : wpS (model prog w) A E s (lt' p q) Q st := by
  obtain ⟨a, ha⟩ := hp
  obtain ⟨b, hb⟩ := hq
  rw [lt'_eq]
  refine wpS_bind (wpS_get ?_)
  rw [hk, keyLt'_oneType]
  refine wpS_bind (wpS_lift (wpAny_attempt (hO prog w A _ s p.1 q.1 a b ha hb ⟨rfl, ?_⟩)))
  exact wpS_pure (h _)
theorem wpS_gallop {st : SortSt} {left : Bool} {key : Keyed} {arr : Array Keyed} {base n hint : Nat} {Q : Option Nat → SortSt → Prop} (hO : κ.OneLt) (hk : kindOf st = oneType') (hkey : KOk κ key) (harr : ∀ p ∈ arr.toList, KOk κ p) (hb : base + n ≤ arr.size) (hh : hint < n) (h : ∀ k, k ≤ n → Q (some k) st) :
    wpS (model prog w) A E s (gallop' left key arr base n hint) Q st := by
  cases left
  · refine wpS_bind (wpS_bind (wpS_elem (by omega) fun p hp => ?_))
    first
      | refine wpS_ite (fun h => absurd h (by decide)) (fun _ => wpS_bind (wpS_lt' hO hk hkey (harr p hp) fun b => wpS_pure ?_))
      | refine wpS_ite (fun _ => wpS_lt' hO hk (harr p hp) hkey fun b => ?_) (fun h => absurd rfl h)
    dsimp only [Option.map_some]
    refine wpS_ite (fun _ => ?_) (fun _ => ?_)
    · refine wpS_bind (wpS_mono (wpS_forRange (I := fun _ c st' => st' = st ∧ ∃ l r, c = (none, l, r)) (Q := fun c st' => st' = st ∧ ∃ l r, c = (none, l, r)) ?_ ?_ ⟨rfl, 0, 1, rfl⟩) ?_)
      · rintro i c st' _ _ ⟨rfl, l, r, rfl⟩
        dsimp only
        refine wpS_ite (fun _ => wpS_pure ⟨rfl, l, r, rfl⟩) (fun hc => ?_)
        refine wpS_bind (wpS_bind (wpS_elem (by omega) fun p hp => ?_))
        first
          | refine wpS_ite (fun h => absurd h (by decide)) (fun _ => wpS_bind (wpS_lt' hO hk hkey (harr p hp) fun b => wpS_pure ?_))
          | refine wpS_ite (fun _ => wpS_lt' hO hk (harr p hp) hkey fun b => ?_) (fun h => absurd rfl h)
        dsimp only [Option.map_some]
        exact wpS_ite (fun _ => wpS_pure ⟨rfl, _, _, rfl⟩) (fun _ => wpS_pure ⟨rfl, _, _, rfl⟩)
      · rintro c st' h'; exact h'
      · rintro c st' ⟨rfl, l, r, rfl⟩
        dsimp only
        refine wpS_bind (wpS_mono (wpS_forRange (I := fun _ c st'' => st'' = st' ∧ ∃ l r, c = (none, l, r) ∧ r ≤ n) (Q := fun c st'' => st'' = st' ∧ ∃ l r, c = (none, l, r) ∧ r ≤ n) ?_ ?_ ⟨rfl, _, _, rfl, by omega⟩) ?_)
        · rintro i c st'' _ _ ⟨rfl, l, r, rfl, hr⟩
          dsimp only
          refine wpS_ite (fun _ => wpS_pure ⟨rfl, l, r, rfl, hr⟩) (fun hc => ?_)
          refine wpS_bind (wpS_bind (wpS_elem (by omega) fun p hp => ?_))
          first
            | refine wpS_ite (fun h => absurd h (by decide)) (fun _ => wpS_bind (wpS_lt' hO hk hkey (harr p hp) fun b => wpS_pure ?_))
            | refine wpS_ite (fun _ => wpS_lt' hO hk (harr p hp) hkey fun b => ?_) (fun h => absurd rfl h)
          dsimp only [Option.map_some]
          exact wpS_ite (fun _ => wpS_pure ⟨rfl, _, _, rfl, by omega⟩) (fun _ => wpS_pure ⟨rfl, _, _, rfl, by omega⟩)
        · rintro c st'' h'; exact h'
        · rintro c st'' ⟨rfl, l, r, rfl, hr⟩
          exact wpS_pure (h r hr)
    · refine wpS_bind (wpS_mono (wpS_forRange (I := fun _ c st' => st' = st ∧ ∃ l r, c = (none, l, r)) (Q := fun c st' => st' = st ∧ ∃ l r, c = (none, l, r)) ?_ ?_ ⟨rfl, 0, 1, rfl⟩) ?_)
      · rintro i c st' _ _ ⟨rfl, l, r, rfl⟩
        dsimp only
        refine wpS_ite (fun _ => wpS_pure ⟨rfl, l, r, rfl⟩) (fun hc => ?_)
        refine wpS_bind (wpS_bind (wpS_elem (by omega) fun p hp => ?_))
        first
          | refine wpS_ite (fun h => absurd h (by decide)) (fun _ => wpS_bind (wpS_lt' hO hk hkey (harr p hp) fun b => wpS_pure ?_))
          | refine wpS_ite (fun _ => wpS_lt' hO hk (harr p hp) hkey fun b => ?_) (fun h => absurd rfl h)
        dsimp only [Option.map_some]
        exact wpS_ite (fun _ => wpS_pure ⟨rfl, _, _, rfl⟩) (fun _ => wpS_pure ⟨rfl, _, _, rfl⟩)
      · rintro c st' h'; exact h'
      · rintro c st' ⟨rfl, l, r, rfl⟩
        dsimp only
        refine wpS_bind (wpS_mono (wpS_forRange (I := fun _ c st'' => st'' = st' ∧ ∃ l r, c = (none, l, r) ∧ r ≤ n) (Q := fun c st'' => st'' = st' ∧ ∃ l r, c = (none, l, r) ∧ r ≤ n) ?_ ?_ ⟨rfl, _, _, rfl, by omega⟩) ?_)
        · rintro i c st'' _ _ ⟨rfl, l, r, rfl, hr⟩
          dsimp only
          refine wpS_ite (fun _ => wpS_pure ⟨rfl, l, r, rfl, hr⟩) (fun hc => ?_)
          refine wpS_bind (wpS_bind (wpS_elem (by omega) fun p hp => ?_))
          first
            | refine wpS_ite (fun h => absurd h (by decide)) (fun _ => wpS_bind (wpS_lt' hO hk hkey (harr p hp) fun b => wpS_pure ?_))
            | refine wpS_ite (fun _ => wpS_lt' hO hk (harr p hp) hkey fun b => ?_) (fun h => absurd rfl h)
          dsimp only [Option.map_some]
          exact wpS_ite (fun _ => wpS_pure ⟨rfl, _, _, rfl, by omega⟩) (fun _ => wpS_pure ⟨rfl, _, _, rfl, by omega⟩)
        · rintro c st'' h'; exact h'
        · rintro c st'' ⟨rfl, l, r, rfl, hr⟩
          exact wpS_pure (h r hr)
  · refine wpS_bind (wpS_bind (wpS_elem (by omega) fun p hp => ?_))
    first
      | refine wpS_ite (fun h => absurd h (by decide)) (fun _ => wpS_bind (wpS_lt' hO hk hkey (harr p hp) fun b => wpS_pure ?_))
      | refine wpS_ite (fun _ => wpS_lt' hO hk (harr p hp) hkey fun b => ?_) (fun h => absurd rfl h)
    dsimp only [Option.map_some]
    refine wpS_ite (fun _ => ?_) (fun _ => ?_)
    · refine wpS_bind (wpS_mono (wpS_forRange (I := fun _ c st' => st' = st ∧ ∃ l r, c = (none, l, r)) (Q := fun c st' => st' = st ∧ ∃ l r, c = (none, l, r)) ?_ ?_ ⟨rfl, 0, 1, rfl⟩) ?_)
      · rintro i c st' _ _ ⟨rfl, l, r, rfl⟩
        dsimp only
        refine wpS_ite (fun _ => wpS_pure ⟨rfl, l, r, rfl⟩) (fun hc => ?_)
        refine wpS_bind (wpS_bind (wpS_elem (by omega) fun p hp => ?_))
        first
          | refine wpS_ite (fun h => absurd h (by decide)) (fun _ => wpS_bind (wpS_lt' hO hk hkey (harr p hp) fun b => wpS_pure ?_))
          | refine wpS_ite (fun _ => wpS_lt' hO hk (harr p hp) hkey fun b => ?_) (fun h => absurd rfl h)
        dsimp only [Option.map_some]
        exact wpS_ite (fun _ => wpS_pure ⟨rfl, _, _, rfl⟩) (fun _ => wpS_pure ⟨rfl, _, _, rfl⟩)
      · rintro c st' h'; exact h'
      · rintro c st' ⟨rfl, l, r, rfl⟩
        dsimp only
        refine wpS_bind (wpS_mono (wpS_forRange (I := fun _ c st'' => st'' = st' ∧ ∃ l r, c = (none, l, r) ∧ r ≤ n) (Q := fun c st'' => st'' = st' ∧ ∃ l r, c = (none, l, r) ∧ r ≤ n) ?_ ?_ ⟨rfl, _, _, rfl, by omega⟩) ?_)
        · rintro i c st'' _ _ ⟨rfl, l, r, rfl, hr⟩
          dsimp only
          refine wpS_ite (fun _ => wpS_pure ⟨rfl, l, r, rfl, hr⟩) (fun hc => ?_)
          refine wpS_bind (wpS_bind (wpS_elem (by omega) fun p hp => ?_))
          first
            | refine wpS_ite (fun h => absurd h (by decide)) (fun _ => wpS_bind (wpS_lt' hO hk hkey (harr p hp) fun b => wpS_pure ?_))
            | refine wpS_ite (fun _ => wpS_lt' hO hk (harr p hp) hkey fun b => ?_) (fun h => absurd rfl h)
          dsimp only [Option.map_some]
          exact wpS_ite (fun _ => wpS_pure ⟨rfl, _, _, rfl, by omega⟩) (fun _ => wpS_pure ⟨rfl, _, _, rfl, by omega⟩)
        · rintro c st'' h'; exact h'
        · rintro c st'' ⟨rfl, l, r, rfl, hr⟩
          exact wpS_pure (h r hr)
    · refine wpS_bind (wpS_mono (wpS_forRange (I := fun _ c st' => st' = st ∧ ∃ l r, c = (none, l, r)) (Q := fun c st' => st' = st ∧ ∃ l r, c = (none, l, r)) ?_ ?_ ⟨rfl, 0, 1, rfl⟩) ?_)
      · rintro i c st' _ _ ⟨rfl, l, r, rfl⟩
        dsimp only
        refine wpS_ite (fun _ => wpS_pure ⟨rfl, l, r, rfl⟩) (fun hc => ?_)
        refine wpS_bind (wpS_bind (wpS_elem (by omega) fun p hp => ?_))
        first
          | refine wpS_ite (fun h => absurd h (by decide)) (fun _ => wpS_bind (wpS_lt' hO hk hkey (harr p hp) fun b => wpS_pure ?_))
          | refine wpS_ite (fun _ => wpS_lt' hO hk (harr p hp) hkey fun b => ?_) (fun h => absurd rfl h)
        dsimp only [Option.map_some]
        exact wpS_ite (fun _ => wpS_pure ⟨rfl, _, _, rfl⟩) (fun _ => wpS_pure ⟨rfl, _, _, rfl⟩)
      · rintro c st' h'; exact h'
      · rintro c st' ⟨rfl, l, r, rfl⟩
        dsimp only
        refine wpS_bind (wpS_mono (wpS_forRange (I := fun _ c st'' => st'' = st' ∧ ∃ l r, c = (none, l, r) ∧ r ≤ n) (Q := fun c st'' => st'' = st' ∧ ∃ l r, c = (none, l, r) ∧ r ≤ n) ?_ ?_ ⟨rfl, _, _, rfl, by omega⟩) ?_)
        · rintro i c st'' _ _ ⟨rfl, l, r, rfl, hr⟩
          dsimp only
          refine wpS_ite (fun _ => wpS_pure ⟨rfl, l, r, rfl, hr⟩) (fun hc => ?_)
          refine wpS_bind (wpS_bind (wpS_elem (by omega) fun p hp => ?_))
          first
            | refine wpS_ite (fun h => absurd h (by decide)) (fun _ => wpS_bind (wpS_lt' hO hk hkey (harr p hp) fun b => wpS_pure ?_))
            | refine wpS_ite (fun _ => wpS_lt' hO hk (harr p hp) hkey fun b => ?_) (fun h => absurd rfl h)
          dsimp only [Option.map_some]
          exact wpS_ite (fun _ => wpS_pure ⟨rfl, _, _, rfl, by omega⟩) (fun _ => wpS_pure ⟨rfl, _, _, rfl, by omega⟩)
        · rintro c st'' h'; exact h'
        · rintro c st'' ⟨rfl, l, r, rfl, hr⟩
          exact wpS_pure (h r hr)
end
end Mine
end
section
open PySem PySem.W PySem.Spec PySem.Calls PyProof.Rows PyProof.V
namespace Mine
def From (a b out : Array Keyed) : Prop := ∀ p ∈ out.toList, p ∈ a.toList ∨ p ∈ b.toList
theorem From.push {a b out : Array Keyed} {p : Keyed} (h : From a b out) (hp : p ∈ a.toList ∨ p ∈ b.toList) : From a b (out.push p) := by
  intro q hq
  rw [Array.toList_push] at hq
  rcases List.mem_append.mp hq with h' | h'
  · exact h q h'
  · rw [List.mem_singleton.mp h']; exact hp
theorem From.app {a b x y : Array Keyed} (h : From a b x) (h' : From a b y) : From a b (x ++ y) := by
  intro q hq
  rw [Array.toList_append] at hq
  rcases List.mem_append.mp hq with q' | q'
  · exact h q q'
  · exact h' q q'
theorem From.exA {a b : Array Keyed} (i j : Nat) : From a b (a.extract i j) := by
  intro q hq
  rw [Array.toList_extract] at hq
  exact .inl (List.mem_of_mem_drop (List.mem_of_mem_take hq))
theorem From.exB {a b : Array Keyed} (i j : Nat) : From a b (b.extract i j) := by
  intro q hq
  rw [Array.toList_extract] at hq
  exact .inr (List.mem_of_mem_drop (List.mem_of_mem_take hq))
def B1 (a b : Array Keyed) (M : Nat) (out : Array Keyed) (ia ib : Nat) : Prop := From a b out ∧ ia + 1 < a.size ∧ ib < b.size ∧ a.size + b.size ≤ M + (ia + ib)
section
variable {prog : Program} {w : World} {A : Around} {E : Value → Shared → Prop} {s : Shared} {κ : PyProof.Rows.KeyKind}
theorem wpS_turn {β : Type} {m : StateT SortSt Sem β} {Q : β → SortSt → Prop} {st : SortSt} (P : (β → SortSt → Prop) → Prop) (hP : P Q) (h : ∀ Q', P Q' → wpS (model prog w) A E s m Q' st) : wpS (model prog w) A E s m Q st := h Q hP
theorem wpS_mergeLo {st : SortSt} {a b : Array Keyed} {Q : Array Keyed → SortSt → Prop} (hO : κ.OneLt) (hk : kindOf st = oneType') (ha : ∀ p ∈ a.toList, KOk κ p) (hb : ∀ p ∈ b.toList, KOk κ p) (h1 : 1 ≤ a.size) (h2 : 1 ≤ b.size)
    (h : ∀ out st', From a b out → Sm st st' → Q out st') : wpS (model prog w) A E s (mergeLo' a b) Q st := by
  refine wpS_bind (wpS_lift (wpAny_rule ⟨rfl, ?_⟩))
  extract_lets total done lastOfA ia0 ib0
  have hdone : ∀ o i j, From a b o → From a b (done o i j) := fun o i j q => (q.app (.exA _ _)).app (.exB _ _)
  have hlast : ∀ o i j, From a b o → From a b (lastOfA o i j) := fun o i j q => (q.app (.exB _ _)).app (.exA _ _)
  have htot : total = a.size + b.size := rfl
  clear_value total done lastOfA
  refine wpS_bind (wpS_elem (by omega) fun p0 hp0 => ?_)
  have f0 : From a b #[p0] := fun q hq => by
    have : q = p0 := by simpa using hq
    rw [this]; exact .inr hp0
  extract_lets out0
  refine wpS_ite (fun _ => wpS_pure (h _ _ (hdone _ _ _ f0) (.refl _))) (fun n1 => ?_)
  refine wpS_ite (fun _ => wpS_pure (h _ _ (hlast _ _ _ f0) (.refl _))) (fun n2 => ?_)
  have m1 : 1 < b.size := by
    have : ¬ (1 = b.size) := fun e => n1 (beq_iff_eq.mpr e)
    omega
  have m2 : 0 + 1 < a.size := by
    have : ¬ (0 + 1 = a.size) := fun e => n2 (beq_iff_eq.mpr e)
    omega
  refine wpS_bind (wpS_get ?_)
  extract_lets mg0
  refine wpS_bind (wpS_mono (wpS_forRange
    (I := fun i c st' => Sm st st' ∧ ∃ out ia ib mg, c = (none, out, ia, ib, mg) ∧ B1 a b (total - i) out ia ib)
    (Q := fun c st' => Sm st st' ∧ ∃ r x, c = (some r, x) ∧ From a b r) ?step ?fin ⟨.refl _, _, _, _, _, rfl, f0, m2, m1, by omega⟩) ?post)
  case fin =>
    rintro c st' ⟨_, out, ia, ib, mg, _, _, q1, q3, q2⟩
    omega
  case post =>
    rintro c st' ⟨hs, r, x, rfl, hr⟩
    exact wpS_pure (h _ _ hr hs)
  case step =>
    rintro i c st' _ hi ⟨hs, out, ia, ib, mg, rfl, hB⟩
    clear h h1 h2 f0 n1 n2 m1 m2 hp0
    extract_lets s1 out1 s2 ia1 s3 ib1 mg1
    generalize hM : total - i = M at hB
    have hM' : total - (i + 1) = M - 1 := by omega
    rw [hM']
    clear hM hM'
    refine wpS_bind (wpS_mono (wpS_forRange
      (I := fun _ c st'' => st'' = st' ∧ ∃ out ia ib ac bc, c = (none, out, ia, ib, ac, bc) ∧ B1 a b M out ia ib)
      (Q := fun c st'' => st'' = st' ∧ ((∃ r x, c = (some r, x) ∧ From a b r) ∨ ∃ out ia ib ac bc, c = (none, out, ia, ib, ac, bc) ∧ B1 a b M out ia ib)) ?istep ?ifin ⟨rfl, _, _, _, _, _, rfl, hB⟩) ?ipost)
    case ifin =>
      rintro c st'' ⟨rfl, hh⟩
      exact ⟨rfl, .inr hh⟩
    case istep =>
      rintro j c st'' _ _ ⟨rfl, out, ia, ib, ac, bc, rfl, hF, b1, b2, b3⟩
      dsimp only
      refine wpS_bind (wpS_elem b2 fun pb hpb => ?_)
      refine wpS_bind (wpS_elem (by omega) fun pa hpa => ?_)
      refine wpS_bind (wpS_lt' hO (hs.1.trans hk) (hb _ hpb) (ha _ hpa) fun bw => ?_)
      dsimp only
      refine wpS_ite (fun _ => ?_) (fun _ => ?_)
      · refine wpS_bind (wpS_elem b2 fun pb' hpb' => ?_)
        have f1 := hF.push (a := a) (.inr hpb')
        refine wpS_ite (fun _ => wpS_pure ⟨rfl, .inl ⟨_, _, rfl, hdone _ _ _ f1⟩⟩) (fun n3 => ?_)
        rw [beq_iff_eq] at n3
        exact wpS_ite (fun _ => wpS_pure ⟨rfl, .inr ⟨_, _, _, _, _, rfl, f1, b1, by omega, by omega⟩⟩) (fun _ => wpS_pure ⟨rfl, _, _, _, _, _, rfl, f1, b1, by omega, by omega⟩)
      · refine wpS_bind (wpS_elem (by omega) fun pa' hpa' => ?_)
        have f1 := hF.push (b := b) (.inl hpa')
        refine wpS_ite (fun _ => wpS_pure ⟨rfl, .inl ⟨_, _, rfl, hlast _ _ _ f1⟩⟩) (fun n3 => ?_)
        rw [beq_iff_eq] at n3
        exact wpS_ite (fun _ => wpS_pure ⟨rfl, .inr ⟨_, _, _, _, _, rfl, f1, by omega, b2, by omega⟩⟩) (fun _ => wpS_pure ⟨rfl, _, _, _, _, _, rfl, f1, by omega, b2, by omega⟩)
    case ipost =>
      rintro c st'' ⟨rfl, ⟨r, x, rfl, hr⟩ | ⟨out, ia, ib, ac, bc, rfl, hB⟩⟩
      · exact wpS_pure ⟨hs, r, _, rfl, hr⟩
      · refine wpS_bind (wpS_lift (wpAny_rule ⟨rfl, ?_⟩))
        refine wpS_bind (wpS_mono (wpS_forRange
          (I := fun j c st'' => Sm st st'' ∧ ∃ out ia ib mg ac bc, c = (none, out, ia, ib, mg, ac, bc) ∧ B1 a b (M - min j 1) out ia ib)
          (Q := fun c st'' => Sm st st'' ∧ ((∃ r x, c = (some r, x) ∧ From a b r) ∨ ∃ out ia ib mg ac bc, c = (none, out, ia, ib, mg, ac, bc) ∧ B1 a b (M - 1) out ia ib)) ?gstep ?gfin ⟨hs, _, _, _, _, _, _, rfl, hB⟩) ?gpost)
        case gfin =>
          rintro c st'' ⟨hs2, out, ia, ib, mg, ac, bc, rfl, hB⟩
          rw [show min (max 0 total) 1 = 1 by omega] at hB
          exact ⟨hs2, .inr ⟨_, _, _, _, _, _, rfl, hB⟩⟩
        case gpost =>
          rintro c st'' ⟨hs2, ⟨r, x, rfl, hr⟩ | ⟨out, ia, ib, mg, ac, bc, rfl, hB⟩⟩
          · exact wpS_pure ⟨hs2, r, _, rfl, hr⟩
          · refine wpS_bind (wpS_setMin fun st3 hs3 => ?_)
            exact wpS_pure ⟨hs2.trans hs3, _, _, _, _, rfl, hB⟩
        case gstep =>
          rintro j c st'' _ _ ⟨hs2, out, ia, ib, mg, ac, bc, rfl, hF, b1, b2, b3⟩
          have b7 : a.size + b.size ≤ M - 1 + 1 + (ia + ib) := by omega
          rw [show min (j + 1) 1 = 1 from by omega]
          generalize M - 1 = M1 at b7
          clear b3 hs hB
          refine wpS_turn (P := fun Q1 => (∀ (st' : SortSt) (r : Array Keyed) x, Sm st st' → From a b r → Q1 (.done (some r, x)) st') ∧ (∀ (st' : SortSt) (o : Array Keyed) (i j m x y : Nat), Sm st st' → B1 a b M1 o i j → Q1 (.done (none, o, i, j, m, x, y)) st') ∧
            (∀ (st' : SortSt) (o : Array Keyed) (i j m x y : Nat), Sm st st' → B1 a b M1 o i j → Q1 (.yield (none, o, i, j, m, x, y)) st'))
            ⟨fun st' r x q1 q2 => ⟨q1, .inl ⟨r, x, rfl, q2⟩⟩, fun st' o i j m x y q1 q2 => ⟨q1, .inr ⟨o, i, j, m, x, y, rfl, q2⟩⟩, fun st' o i j m x y q1 q2 => ⟨q1, o, i, j, m, x, y, rfl, q2⟩⟩ ?_
          rintro Q1 ⟨hret, hbrk, hyld⟩
          extract_lets t1 o1 t2 i1 t3 j1 t4 m1 t5 x1 y1 jn J mgd
          have eo : o1 = out := rfl
          have ei : i1 = ia := rfl
          have ej : j1 = ib := rfl
          have en : jn = j1 + 1 := rfl
          clear_value jn
          clear_value o1 i1 j1 m1 x1 y1
          subst eo ei ej
          have hJ : ∀ u g, wpS (model prog w) A E s (J u g) Q1 st'' := by
            intro u g
            refine wpS_bind (wpS_setMin fun st3 hs3 => ?_)
            have hs4 := hs2.trans hs3
            have hk3 := hs4.1.trans hk
            clear hs2 hs3
            refine wpS_bind (wpS_elem (by omega) fun p hp => ?_)
            refine wpS_bind (wpS_gallop hO hk3 (hb _ hp) ha (by omega) (by omega) fun k1 hk1 => ?_)
            replace hk1 : i1 + k1 ≤ a.size := by omega
            dsimp -zeta -zetaHave only
            extract_lets ac2 J2 o6 i6
            have hJ2 : ∀ u o i, From a b o → i + 1 < a.size → i1 ≤ i → wpS (model prog w) A E s (J2 u o i) Q1 st3 := by
              intro u o i E1 e1 e2
              refine wpS_bind (wpS_elem (by omega) fun q hq => ?_)
              have E2 := E1.push (a := a) (.inr hq)
              extract_lets o3 i4
              have ei : i4 = i + 1 := rfl
              clear_value i4
              subst ei
              refine wpS_ite (fun _ => wpS_pure (hret _ _ _ hs4 (hdone _ _ _ E2))) (fun n2 => ?_)
              rw [beq_iff_eq] at n2
              refine wpS_bind (wpS_elem (by omega) fun r hr => ?_)
              refine wpS_bind (wpS_gallop hO hk3 (ha _ hr) hb (by omega) (by omega) fun k2 hk2 => ?_)
              replace hk2 : jn + k2 ≤ b.size := by omega
              dsimp -zeta -zetaHave only
              extract_lets bc3 J3 o5 j5
              have hJ3 : ∀ u o j, From a b o → j < b.size → jn ≤ j → wpS (model prog w) A E s (J3 u o j) Q1 st3 := by
                intro u o j E3 f1 f2
                refine wpS_bind (wpS_elem (by omega) fun t ht => ?_)
                have E4 := E3.push (b := b) (.inl ht)
                extract_lets o4
                refine wpS_ite (fun _ => wpS_pure (hret _ _ _ hs4 (hlast _ _ _ E4))) (fun n5 => ?_)
                rw [beq_iff_eq] at n5
                have hB : B1 a b M1 o4 (i + 1) j := ⟨E4, by omega, by omega, by omega⟩
                exact wpS_ite (fun _ => wpS_pure (hbrk _ _ _ _ _ _ _ hs4 hB)) (fun _ => wpS_pure (hyld _ _ _ _ _ _ _ hs4 hB))
              clear_value J3
              refine wpS_ite (fun _ => ?_) (fun _ => hJ3 _ _ _ E2 (by omega) (Nat.le_refl _))
              have ej : j5 = jn + k2 := rfl
              clear_value j5
              subst ej
              have E5 : From a b o5 := E2.app (From.exB _ _)
              refine wpS_ite (fun _ => wpS_pure (hret _ _ _ hs4 (hdone _ _ _ E5))) (fun n6 => hJ3 _ _ _ E5 ?_ (by omega))
              rw [beq_iff_eq] at n6
              omega
            clear_value J2
            refine wpS_ite (fun _ => ?_) (fun _ => hJ2 _ _ _ hF b1 (Nat.le_refl _))
            have ei : i6 = i1 + k1 := rfl
            clear_value i6
            subst ei
            have E6 : From a b o6 := hF.app (From.exA _ _)
            refine wpS_ite (fun _ => wpS_pure (hret _ _ _ hs4 (hlast _ _ _ E6))) (fun n7 => ?_)
            refine wpS_ite (fun _ => wpS_pure (hret _ _ _ hs4 (hdone _ _ _ E6))) (fun n8 => hJ2 _ _ _ E6 ?_ (by omega))
            rw [beq_iff_eq] at n7 n8
            omega
          clear_value J
          exact wpS_ite (fun _ => hJ _ _) (fun _ => hJ _ _)
end
end Mine
end
section
open PySem PySem.W PySem.Spec PySem.Calls PyProof.Rows PyProof.V
namespace Mine
theorem From.rev {a b x : Array Keyed} (h : From a b x) : From a b x.reverse := fun q hq => h q (by simpa using hq)
def B2 (a b : Array Keyed) (M : Nat) (out : Array Keyed) (na nb : Nat) : Prop := From a b out ∧ 0 < na ∧ na < a.size ∧ 1 < nb ∧ nb ≤ b.size ∧ na + nb ≤ M
section
variable {prog : Program} {w : World} {A : Around} {E : Value → Shared → Prop} {s : Shared} {κ : PyProof.Rows.KeyKind}
theorem wpS_mergeHi {st : SortSt} {a b : Array Keyed} {Q : Array Keyed → SortSt → Prop} (hO : κ.OneLt) (hk : kindOf st = oneType') (ha : ∀ p ∈ a.toList, KOk κ p) (hb : ∀ p ∈ b.toList, KOk κ p) (h1 : 1 ≤ a.size) (h2 : 1 ≤ b.size)
    (h : ∀ out st', From a b out → Sm st st' → Q out st') : wpS (model prog w) A E s (mergeHi' a b) Q st := by
  refine wpS_bind (wpS_lift (wpAny_rule ⟨rfl, ?_⟩))
  extract_lets total done first na0 nb0
  have hdone : ∀ o i j, From a b o → From a b (done o i j) := fun o i j q => ((From.exA _ _).app (.exB _ _)).app q.rev
  have hfst : ∀ o i j, From a b o → From a b (first o i j) := fun o i j q => ((From.exB _ _).app (.exA _ _)).app q.rev
  have htot : total = a.size + b.size := rfl
  have en0 : na0 = a.size - 1 := rfl
  have em0 : nb0 = b.size := rfl
  clear_value total done first na0 nb0
  refine wpS_bind (wpS_elem (by omega) fun p0 hp0 => ?_)
  have f0 : From a b #[p0] := fun q hq => by
    have : q = p0 := by simpa using hq
    rw [this]; exact .inl hp0
  extract_lets out0
  refine wpS_ite (fun _ => wpS_pure (h _ _ (hdone _ _ _ f0) (.refl _))) (fun n1 => ?_)
  refine wpS_ite (fun _ => wpS_pure (h _ _ (hfst _ _ _ f0) (.refl _))) (fun n2 => ?_)
  rw [beq_iff_eq] at n1 n2
  refine wpS_bind (wpS_get ?_)
  extract_lets mg0
  refine wpS_bind (wpS_mono (wpS_forRange
    (I := fun i c st' => Sm st st' ∧ ∃ out na nb mg, c = (none, na, nb, out, mg) ∧ B2 a b (total - i) out na nb)
    (Q := fun c st' => Sm st st' ∧ ∃ r x, c = (some r, x) ∧ From a b r) ?step ?fin ?init) ?post)
  case init => exact ⟨.refl _, _, _, _, _, rfl, f0, by omega, by omega, by omega, by omega, by omega⟩
  case fin =>
    rintro c st' ⟨_, out, na, nb, mg, _, _, q1, _, _, _, q2⟩
    omega
  case post =>
    rintro c st' ⟨hs, r, x, rfl, hr⟩
    exact wpS_pure (h _ _ hr hs)
  case step =>
    rintro i c st' _ hi ⟨hs, out, na, nb, mg, rfl, hB⟩
    clear h h1 h2 f0 n1 n2 hp0 em0 en0
    extract_lets s1 out1 s2 ia1 s3 ib1 mg1
    generalize hM : total - i = M at hB
    have hM' : total - (i + 1) = M - 1 := by omega
    rw [hM']
    clear hM hM'
    refine wpS_bind (wpS_mono (wpS_forRange
      (I := fun _ c st'' => st'' = st' ∧ ∃ out na nb ac bc, c = (none, na, nb, out, ac, bc) ∧ B2 a b M out na nb)
      (Q := fun c st'' => st'' = st' ∧ ((∃ r x, c = (some r, x) ∧ From a b r) ∨ ∃ out na nb ac bc, c = (none, na, nb, out, ac, bc) ∧ B2 a b M out na nb)) ?istep ?ifin ⟨rfl, _, _, _, _, _, rfl, hB⟩) ?ipost)
    case ifin =>
      rintro c st'' ⟨rfl, hh⟩
      exact ⟨rfl, .inr hh⟩
    case istep =>
      rintro j c st'' _ _ ⟨rfl, out, na, nb, ac, bc, rfl, hF, b1, b2, b3, b4, b5⟩
      obtain ⟨na, rfl⟩ : ∃ x, na = x + 1 := ⟨na - 1, by omega⟩
      obtain ⟨nb, rfl⟩ : ∃ x, nb = x + 2 := ⟨nb - 2, by omega⟩
      dsimp only
      refine wpS_bind (wpS_elem (by omega) fun pb hpb => ?_)
      refine wpS_bind (wpS_elem (by omega) fun pa hpa => ?_)
      refine wpS_bind (wpS_lt' hO (hs.1.trans hk) (hb _ hpb) (ha _ hpa) fun bw => ?_)
      dsimp only
      refine wpS_ite (fun _ => ?_) (fun _ => ?_)
      · refine wpS_bind (wpS_elem (by omega) fun pa' hpa' => ?_)
        have f1 := hF.push (b := b) (.inl hpa')
        refine wpS_ite (fun _ => wpS_pure ⟨rfl, .inl ⟨_, _, rfl, hdone _ _ _ f1⟩⟩) (fun n3 => ?_)
        rw [beq_iff_eq] at n3
        have hB : B2 a b M (out.push pa') (na + 1 - 1) (nb + 2) := ⟨f1, by omega, by omega, by omega, by omega, by omega⟩
        exact wpS_ite (fun _ => wpS_pure ⟨rfl, .inr ⟨_, _, _, _, _, rfl, hB⟩⟩) (fun _ => wpS_pure ⟨rfl, _, _, _, _, _, rfl, hB⟩)
      · refine wpS_bind (wpS_elem (by omega) fun pb' hpb' => ?_)
        have f1 := hF.push (a := a) (.inr hpb')
        refine wpS_ite (fun _ => wpS_pure ⟨rfl, .inl ⟨_, _, rfl, hfst _ _ _ f1⟩⟩) (fun n3 => ?_)
        rw [beq_iff_eq] at n3
        have hB : B2 a b M (out.push pb') (na + 1) (nb + 2 - 1) := ⟨f1, by omega, by omega, by omega, by omega, by omega⟩
        exact wpS_ite (fun _ => wpS_pure ⟨rfl, .inr ⟨_, _, _, _, _, rfl, hB⟩⟩) (fun _ => wpS_pure ⟨rfl, _, _, _, _, _, rfl, hB⟩)
    case ipost =>
      rintro c st'' ⟨rfl, ⟨r, x, rfl, hr⟩ | ⟨out, na, nb, ac, bc, rfl, hB⟩⟩
      · exact wpS_pure ⟨hs, r, _, rfl, hr⟩
      · refine wpS_bind (wpS_lift (wpAny_rule ⟨rfl, ?_⟩))
        refine wpS_bind (wpS_mono (wpS_forRange
          (I := fun j c st'' => Sm st st'' ∧ ∃ out na nb mg ac bc, c = (none, na, nb, out, mg, ac, bc) ∧ B2 a b (M - min j 1) out na nb)
          (Q := fun c st'' => Sm st st'' ∧ ((∃ r x, c = (some r, x) ∧ From a b r) ∨ ∃ out na nb mg ac bc, c = (none, na, nb, out, mg, ac, bc) ∧ B2 a b (M - 1) out na nb)) ?gstep ?gfin ⟨hs, _, _, _, _, _, _, rfl, hB⟩) ?gpost)
        case gfin =>
          rintro c st'' ⟨hs2, out, na, nb, mg, ac, bc, rfl, hB⟩
          rw [show min (max 0 total) 1 = 1 by omega] at hB
          exact ⟨hs2, .inr ⟨_, _, _, _, _, _, rfl, hB⟩⟩
        case gpost =>
          rintro c st'' ⟨hs2, ⟨r, x, rfl, hr⟩ | ⟨out, na, nb, mg, ac, bc, rfl, hB⟩⟩
          · exact wpS_pure ⟨hs2, r, _, rfl, hr⟩
          · refine wpS_bind (wpS_setMin fun st3 hs3 => ?_)
            exact wpS_pure ⟨hs2.trans hs3, _, _, _, _, rfl, hB⟩
        case gstep =>
          rintro j c st'' _ _ ⟨hs2, out, na, nb, mg, ac, bc, rfl, hF, b1, b2, b3, b4, b5⟩
          obtain ⟨na, rfl⟩ : ∃ x, na = x + 1 := ⟨na - 1, by omega⟩
          obtain ⟨nb, rfl⟩ : ∃ x, nb = x + 2 := ⟨nb - 2, by omega⟩
          have b7 : na + nb + 1 ≤ M - 1 := by omega
          rw [show min (j + 1) 1 = 1 from by omega]
          generalize M - 1 = M1 at b7
          clear b5 b1 b3 hs hB
          refine wpS_turn (P := fun Q1 => (∀ (st' : SortSt) (r : Array Keyed) x, Sm st st' → From a b r → Q1 (.done (some r, x)) st') ∧ (∀ (st' : SortSt) (o : Array Keyed) (i j m x y : Nat), Sm st st' → B2 a b M1 o i j → Q1 (.done (none, i, j, o, m, x, y)) st') ∧
            (∀ (st' : SortSt) (o : Array Keyed) (i j m x y : Nat), Sm st st' → B2 a b M1 o i j → Q1 (.yield (none, i, j, o, m, x, y)) st'))
            ⟨fun st' r x q1 q2 => ⟨q1, .inl ⟨r, x, rfl, q2⟩⟩, fun st' o i j m x y q1 q2 => ⟨q1, .inr ⟨o, i, j, m, x, y, rfl, q2⟩⟩, fun st' o i j m x y q1 q2 => ⟨q1, o, i, j, m, x, y, rfl, q2⟩⟩ ?_
          rintro Q1 ⟨hret, hbrk, hyld⟩
          extract_lets t1 i1 t2 j1 t3 o1 t4 m1 t5 x1 y1 jn J mgd
          have eo : o1 = out := rfl
          have ei : i1 = na + 1 := rfl
          have ej : j1 = nb + 2 := rfl
          have en : jn = nb + 1 := rfl
          clear_value jn
          clear_value o1 i1 j1 m1 x1 y1
          subst eo ei ej en
          have hJ : ∀ u g, wpS (model prog w) A E s (J u g) Q1 st'' := by
            intro u g
            refine wpS_bind (wpS_setMin fun st3 hs3 => ?_)
            have hs4 := hs2.trans hs3
            have hk3 := hs4.1.trans hk
            clear hs2 hs3
            refine wpS_bind (wpS_elem (by omega) fun p hp => ?_)
            refine wpS_bind (wpS_gallop hO hk3 (hb _ hp) ha (by omega) (by omega) fun at1 hat1 => ?_)
            dsimp -zeta -zetaHave only
            extract_lets k1 ac2 J2 o6 i6
            have ek1 : k1 = na + 1 - at1 := rfl
            have hJ2 : ∀ u x o, From a b o → x ≤ na → wpS (model prog w) A E s (J2 u (x + 1) o) Q1 st3 := by
              intro u x o E1 e1
              refine wpS_bind (wpS_elem (by omega) fun q hq => ?_)
              have E2 := E1.push (a := a) (.inr hq)
              extract_lets o3 nz
              have ez : nz = x := rfl
              clear_value nz
              subst ez
              refine wpS_ite (fun _ => wpS_pure (hret _ _ _ hs4 (hfst _ _ _ E2))) (fun n2 => ?_)
              rw [beq_iff_eq] at n2
              refine wpS_bind (wpS_elem (by omega) fun r hr => ?_)
              refine wpS_bind (wpS_gallop hO hk3 (ha _ hr) hb (by omega) (by omega) fun at2 hat2 => ?_)
              dsimp -zeta -zetaHave only
              extract_lets k2 bc3 J3 o5 j5
              have ek2 : k2 = nb + 1 - at2 := rfl
              have hJ3 : ∀ u y o, From a b o → 2 ≤ y → y ≤ nb + 1 → wpS (model prog w) A E s (J3 u y o) Q1 st3 := by
                intro u y o E3 f1 f2
                refine wpS_bind (wpS_elem (by omega) fun t ht => ?_)
                have E4 := E3.push (b := b) (.inl ht)
                extract_lets o4
                refine wpS_ite (fun _ => wpS_pure (hret _ _ _ hs4 (hdone _ _ _ E4))) (fun n5 => ?_)
                rw [beq_iff_eq] at n5
                have hB : B2 a b M1 o4 nz y := ⟨E4, by omega, by omega, by omega, by omega, by omega⟩
                exact wpS_ite (fun _ => wpS_pure (hbrk _ _ _ _ _ _ _ hs4 hB)) (fun _ => wpS_pure (hyld _ _ _ _ _ _ _ hs4 hB))
              clear_value J3 k2
              refine wpS_ite (fun _ => ?_) (fun _ => hJ3 _ _ _ E2 (by omega) (Nat.le_refl _))
              have E5 : From a b o5 := E2.app (From.exB _ _).rev
              refine wpS_ite (fun _ => wpS_pure (hret _ _ _ hs4 (hfst _ _ _ E5))) (fun n6 => ?_)
              refine wpS_ite (fun _ => wpS_pure (hret _ _ _ hs4 (hdone _ _ _ E5))) (fun n7 => ?_)
              have ej : j5 = at2 := rfl
              clear_value j5
              subst ej
              rw [beq_iff_eq] at n6 n7
              exact hJ3 _ _ _ E5 (by omega) hat2
            clear_value J2 k1
            refine wpS_ite (fun _ => ?_) (fun _ => hJ2 _ na _ hF (Nat.le_refl _))
            have E6 : From a b o6 := hF.app (From.exA _ _).rev
            refine wpS_ite (fun _ => wpS_pure (hret _ _ _ hs4 (hdone _ _ _ E6))) (fun n7 => ?_)
            have ei : i6 = at1 := rfl
            clear_value i6
            subst ei
            rw [beq_iff_eq] at n7
            obtain ⟨x, rfl⟩ : ∃ x, i6 = x + 1 := ⟨i6 - 1, by omega⟩
            exact hJ2 _ x _ E6 (by omega)
          clear_value J
          exact wpS_ite (fun _ => hJ _ _) (fun _ => hJ _ _)
end
end Mine
end
section
open PySem PySem.W PySem.Spec PySem.Calls PyProof.Rows PyProof.V
namespace Mine
/-- what holds through the whole sort: the items are the input's, nothing failed, the runs are P -/
structure SJ (a₀ : Array Keyed) (P : Array (Nat × Nat × Nat)) (st : SortSt) : Prop where
  size : (arrOf st).size = a₀.size
  mem : ∀ p ∈ (arrOf st).toList, p ∈ a₀.toList
  kind : kindOf st = oneType'
  failed : failedOf st = none
  pend : pendingOf st = P
def KsOk (κ : PyProof.Rows.KeyKind) (a : Array Keyed) : Prop := ∀ p ∈ a.toList, KOk κ p
section
variable {a₀ : Array Keyed} {P : Array (Nat × Nat × Nat)} {st : SortSt} {κ : PyProof.Rows.KeyKind}
theorem SJ.ok (h : SJ a₀ P st) (h0 : KsOk κ a₀) : KsOk κ (arrOf st) := fun p hp => h0 p (h.mem p hp)
theorem SJ.perm {xs : Array Keyed} (h : SJ a₀ P st) (hp : xs.Perm (arrOf st)) : SJ a₀ P (setArr st xs) :=
  ⟨hp.size_eq.trans h.size, fun p hq => h.mem p ((Array.perm_iff_toList_perm.mp hp).mem_iff.mp hq), h.kind, h.failed, h.pend⟩
theorem SJ.sm {st' : SortSt} (h : SJ a₀ P st) (hs : Sm st st') : SJ a₀ P st' :=
  ⟨by rw [hs.2.1]; exact h.size, by rw [hs.2.1]; exact h.mem, hs.1.trans h.kind, hs.2.2.2.trans h.failed, hs.2.2.1.trans h.pend⟩
theorem SJ.setP (h : SJ a₀ P st) (P' : Array (Nat × Nat × Nat)) : SJ a₀ P' (setPending st P') := ⟨h.size, h.mem, h.kind, h.failed, rfl⟩
end
section
variable {prog : Program} {w : World} {A : Around} {E : Value → Shared → Prop} {s : Shared} {κ : PyProof.Rows.KeyKind} {a₀ : Array Keyed} {P : Array (Nat × Nat × Nat)}
theorem wpS_ltJ {st : SortSt} {i j : Nat} {Q : Option Bool → SortSt → Prop} (hO : κ.OneLt) (hJ : SJ a₀ P st) (h0 : KsOk κ a₀) (hi : i < a₀.size) (hj : j < a₀.size) (h : ∀ b, Q (some b) st) :
    wpS (model prog w) A E s (ltAt' i j) Q st := by
  rw [ltAt'_eq]
  refine wpS_bind (wpS_get ?_)
  refine wpS_bind (wpS_elem (by rw [hJ.size]; exact hi) fun p hp => ?_)
  refine wpS_bind (wpS_elem (by rw [hJ.size]; exact hj) fun q hq => ?_)
  exact wpS_lt' hO hJ.kind (hJ.ok h0 p hp) (hJ.ok h0 q hq) h
theorem wpS_revJ {st : SortSt} {i j : Nat} {Q : Unit → SortSt → Prop} (hJ : SJ a₀ P st) (h : ∀ st', SJ a₀ P st' → Q () st') : wpS (model prog w) A E s (reverseSlice' i j) Q st :=
  wpS_reverse (h _ (hJ.perm (mirror_perm _ _ _ _)))
theorem wpS_set {σ : Type} {M : Model} {st st' : σ} {Q : PUnit → σ → Prop} (h : Q ⟨⟩ st') : wpS M A E s (set st' : StateT σ Sem PUnit) Q st := by
  unfold wpS; rw [StateT.run_set]; exact wpAny_pure ⟨rfl, h⟩
theorem wpS_countJ {st : SortSt} {lo nrem : Nat} {Q : Option Nat → SortSt → Prop} (hO : κ.OneLt) (h0 : KsOk κ a₀) (hJ : SJ a₀ P st) (hn : lo + nrem ≤ a₀.size) (h1 : 1 ≤ nrem)
    (h : ∀ m st', SJ a₀ P st' → 1 ≤ m → m ≤ nrem → Q (some m) st') : wpS (model prog w) A E s (countRun' lo nrem) Q st := by
  rw [countRun'_eq]
  dsimp only
  refine wpS_bind (wpS_mono (wpS_forRange (I := fun x c st' => SJ a₀ P st' ∧ c = (none, x)) (Q := fun c st' => SJ a₀ P st' ∧ ∃ n, c = (none, n) ∧ 1 ≤ n ∧ n ≤ nrem) ?step1 ?fin1 ⟨hJ, rfl⟩) ?post1)
  case fin1 =>
    rintro c st' ⟨hJ', rfl⟩
    exact ⟨hJ', _, rfl, by omega, by omega⟩
  case step1 =>
    rintro x c st' hx hxn ⟨hJ', rfl⟩
    dsimp only
    refine wpS_bind (wpS_ltJ hO hJ' h0 (by omega) (by omega) fun b => ?_)
    dsimp only
    refine wpS_ite (fun _ => ?_) (fun _ => ?_)
    · exact wpS_pure ⟨hJ', x, rfl, hx, by omega⟩
    · exact wpS_pure ⟨hJ', rfl⟩
  case post1 =>
    rintro c st1 ⟨hJ1, n, rfl, hn1, hn2⟩
    dsimp only
    refine wpS_ite (fun _ => wpS_pure (h _ _ hJ1 hn1 hn2)) (fun hne => ?_)
    have hnn : n + 1 ≤ nrem := by simp at hne; omega
    have tail : ∀ (T : StateT SortSt Sem (Option Nat)), (∀ st2, SJ a₀ P st2 → wpS (model prog w) A E s T Q st2) → ∀ st2, SJ a₀ P st2 → wpS (model prog w) A E s T Q st2 := fun _ h => h
    refine wpS_ite (fun hgt => ?_) (fun hgt => ?_)
    rotate_left
    refine tail _ ?_ _ hJ1
    rotate_left
    refine wpS_bind (wpS_ltJ hO hJ1 h0 (by omega) (by omega) fun b => ?_)
    dsimp only
    refine wpS_ite (fun _ => wpS_pure (h _ _ hJ1 hn1 hn2)) (fun _ => ?_)
    refine wpS_bind (wpS_revJ hJ1 fun st2 hJ2 => ?_)
    refine tail _ ?_ _ hJ2
    all_goals
      intro st2 hJ2
      refine wpS_bind (wpS_lift (wpAny_rule ⟨rfl, ?_⟩))
      refine wpS_bind (wpS_mono (wpS_forRange (I := fun x c st' => SJ a₀ P st' ∧ ∃ q, c = (none, x, q)) (Q := fun c st' => SJ a₀ P st' ∧ ∃ m q, c = (none, m, q) ∧ 1 ≤ m ∧ m ≤ nrem) ?step ?fin ⟨hJ2, 0, rfl⟩) ?post)
      case fin =>
        rintro c st' ⟨hJ', q, rfl⟩
        exact ⟨hJ', _, q, rfl, by omega, by omega⟩
      case step =>
        rintro x c st' hx hxn ⟨hJ', q, rfl⟩
        dsimp only
        refine wpS_bind (wpS_ltJ hO hJ' h0 (by omega) (by omega) fun b => ?_)
        dsimp only
        refine wpS_ite (fun _ => ?_) (fun _ => ?_)
        · refine wpS_ite (fun _ => ?_) (fun _ => ?_)
          · exact wpS_bind (wpS_revJ hJ' fun st2 hJ2 => wpS_pure ⟨hJ2, 0, rfl⟩)
          · exact wpS_pure ⟨hJ', 0, rfl⟩
        · refine wpS_bind (wpS_ltJ hO hJ' h0 (by omega) (by omega) fun b => ?_)
          dsimp only
          refine wpS_ite (fun _ => ?_) (fun _ => ?_)
          · exact wpS_pure ⟨hJ', x, q, rfl, by omega, by omega⟩
          · exact wpS_pure ⟨hJ', q + 1, rfl⟩
      case post =>
        rintro c st' ⟨hJ', m, q, rfl, hm1, hm2⟩
        dsimp only
        refine wpS_ite (fun _ => ?_) (fun _ => ?_)
        · refine wpS_bind (wpS_revJ hJ' fun st3 hJ3 => ?_)
          refine wpS_bind (wpS_revJ hJ3 fun st4 hJ4 => ?_)
          refine wpS_bind (wpS_mono (wpS_forRange (I := fun x c st' => SJ a₀ P st' ∧ c = (none, x)) (Q := fun c st' => SJ a₀ P st' ∧ ∃ n, c = (none, n) ∧ 1 ≤ n ∧ n ≤ nrem) ?step1 ?fin1 ⟨hJ4, rfl⟩) ?post1)
          case fin1 =>
            rintro c st' ⟨hJ', rfl⟩
            exact ⟨hJ', _, rfl, by omega, by omega⟩
          case step1 =>
            rintro x c st' hx hxn ⟨hJ', rfl⟩
            dsimp only
            refine wpS_bind (wpS_ltJ hO hJ' h0 (by omega) (by omega) fun b => ?_)
            dsimp only
            refine wpS_ite (fun _ => ?_) (fun _ => ?_)
            · exact wpS_pure ⟨hJ', x, rfl, by omega, by omega⟩
            · exact wpS_pure ⟨hJ', rfl⟩
          case post1 =>
            rintro c st1 ⟨hJ1, n, rfl, hn1, hn2⟩
            exact wpS_pure (h _ _ hJ1 hn1 hn2)
        · refine wpS_bind (wpS_revJ hJ' fun st4 hJ4 => ?_)
          refine wpS_bind (wpS_mono (wpS_forRange (I := fun x c st' => SJ a₀ P st' ∧ c = (none, x)) (Q := fun c st' => SJ a₀ P st' ∧ ∃ n, c = (none, n) ∧ 1 ≤ n ∧ n ≤ nrem) ?step1 ?fin1 ⟨hJ4, rfl⟩) ?post1)
          case fin1 =>
            rintro c st' ⟨hJ', rfl⟩
            exact ⟨hJ', _, rfl, by omega, by omega⟩
          case step1 =>
            rintro x c st' hx hxn ⟨hJ', rfl⟩
            dsimp only
            refine wpS_bind (wpS_ltJ hO hJ' h0 (by omega) (by omega) fun b => ?_)
            dsimp only
            refine wpS_ite (fun _ => ?_) (fun _ => ?_)
            · exact wpS_pure ⟨hJ', x, rfl, by omega, by omega⟩
            · exact wpS_pure ⟨hJ', rfl⟩
          case post1 =>
            rintro c st1 ⟨hJ1, n, rfl, hn1, hn2⟩
            exact wpS_pure (h _ _ hJ1 hn1 hn2)
theorem wpS_insJ {st : SortSt} {lo n ok : Nat} {Q : Bool → SortSt → Prop} (hO : κ.OneLt) (h0 : KsOk κ a₀) (hJ : SJ a₀ P st) (hn : lo + n ≤ a₀.size)
    (h : ∀ st', SJ a₀ P st' → Q true st') : wpS (model prog w) A E s (binarySort' lo n ok) Q st := by
  rw [binarySort'_eq]
  refine wpS_bind (wpS_mono (wpS_forRange (I := fun k c st' => c = (none, ()) ∧ SJ a₀ P st') (Q := fun c st' => c = (none, ()) ∧ SJ a₀ P st') ?step (fun _ _ h => h) ⟨rfl, hJ⟩) ?post)
  case post =>
    rintro c st' ⟨rfl, hJ'⟩
    exact wpS_pure (h st' hJ')
  case step =>
    rintro k c st' hk hkn ⟨rfl, hJ'⟩
    refine wpS_bind (wpS_mono (wpS_forRange (I := fun x c st'' => st'' = st' ∧ ∃ l r, c = (none, l, r) ∧ l ≤ r ∧ r ≤ k) (Q := fun c st'' => st'' = st' ∧ ∃ l r, c = (none, l, r)) ?istep ?ifin ⟨rfl, 0, k, rfl, by omega, by omega⟩) ?ipost)
    case ifin =>
      rintro c st'' ⟨rfl, l, r, rfl, _, _⟩
      exact ⟨rfl, l, r, rfl⟩
    case istep =>
      rintro x c st'' _ hxk ⟨rfl, l, r, rfl, hlr, hrk⟩
      dsimp only
      refine wpS_ite (fun hge => ?_) (fun hge => ?_)
      · exact wpS_pure ⟨rfl, l, r, rfl⟩
      · refine wpS_bind (wpS_ltJ hO hJ' h0 (by omega) (by omega) fun b => ?_)
        dsimp only
        refine wpS_ite (fun _ => ?_) (fun _ => ?_)
        · exact wpS_pure ⟨rfl, l, (l + r) / 2, rfl, by omega, by omega⟩
        · exact wpS_pure ⟨rfl, (l + r) / 2 + 1, r, rfl, by omega, by omega⟩
    case ipost =>
      rintro c st'' ⟨rfl, l, r, rfl⟩
      dsimp only
      rw [moveDown'_eq]
      exact wpS_bind (wpS_modify (wpS_pure ⟨rfl, hJ'.perm (bubble_perm _ _ _)⟩))
end
end Mine
end
section
open PySem PySem.W PySem.Spec PySem.Calls PyProof.Rows PyProof.V
namespace Mine
theorem foldl_set_size {k : Nat} : ∀ (l : List (Keyed × Nat)) (a : Array Keyed), (l.foldl (fun a x => a.setIfInBounds (k + x.2) x.1) a).size = a.size
  | [], _ => rfl
  | x :: l, a => by rw [List.foldl_cons, foldl_set_size l]; simp
theorem mem_setIB {a : Array Keyed} {i : Nat} {p q : Keyed} (h : q ∈ (a.setIfInBounds i p).toList) : q ∈ a.toList ∨ q = p := by
  rw [Array.toList_setIfInBounds] at h
  exact List.mem_or_eq_of_mem_set h
theorem foldl_set_mem {k : Nat} {q : Keyed} : ∀ (l : List (Keyed × Nat)) (a : Array Keyed), q ∈ (l.foldl (fun a x => a.setIfInBounds (k + x.2) x.1) a).toList → q ∈ a.toList ∨ q ∈ l.map (·.1)
  | [], _, h => .inl h
  | x :: l, a, h => by
    rw [List.foldl_cons] at h
    rcases foldl_set_mem l _ h with h' | h'
    · rcases mem_setIB h' with h' | h'
      · exact .inl h'
      · exact .inr (by rw [h']; exact .head _)
    · exact .inr (.tail _ h')
theorem mem_extract {a : Array Keyed} {i j : Nat} {q : Keyed} (h : q ∈ (a.extract i j).toList) : q ∈ a.toList := by
  rw [Array.toList_extract] at h
  exact List.mem_of_mem_drop (List.mem_of_mem_take h)
section
variable {prog : Program} {w : World} {A : Around} {E : Value → Shared → Prop} {s : Shared} {κ : PyProof.Rows.KeyKind} {a₀ : Array Keyed}
theorem wpS_mergeJ {st : SortSt} {n₁ n₂ pw z : Nat} {Q : Bool → SortSt → Prop} (hO : κ.OneLt) (h0 : KsOk κ a₀) (hJ : SJ a₀ #[(0, n₁, pw), (n₁, n₂, z)] st) (hn : n₁ + n₂ ≤ a₀.size) (h1 : 1 ≤ n₁) (h2 : 1 ≤ n₂)
    (h : ∀ st', SJ a₀ #[(0, n₁ + n₂, pw)] st' → Q true st') : wpS (model prog w) A E s (mergeAt' 0) Q st := by
  refine wpS_bind (wpS_get ?_)
  have hp := hJ.pend
  dsimp only [pendingOf] at hp
  rw [hp]
  have e0 : (#[(0, n₁, pw), (n₁, n₂, z)] : Array (Nat × Nat × Nat))[0]? = some (0, n₁, pw) := rfl
  have e1 : (#[(0, n₁, pw), (n₁, n₂, z)] : Array (Nat × Nat × Nat))[0 + 1]? = some (n₁, n₂, z) := rfl
  have e2 : ((#[(0, n₁, pw), (n₁, n₂, z)] : Array (Nat × Nat × Nat)).setIfInBounds 0 (0, n₁ + n₂, pw)).eraseIdxIfInBounds (0 + 1) = #[(0, n₁ + n₂, pw)] := by simp [Array.eraseIdxIfInBounds]
  rw [e0, e1]
  dsimp only
  rw [e2]
  refine wpS_bind (wpS_set ?_)
  have hJ1 := hJ.setP #[(0, n₁ + n₂, pw)]
  change wpS _ _ _ _ _ _ (setPending st #[(0, n₁ + n₂, pw)])
  generalize setPending st #[(0, n₁ + n₂, pw)] = st1 at hJ1
  have hz := hJ.size
  have hA := hJ.ok h0
  refine wpS_bind (wpS_elem (a := arrOf st) (by omega) fun p hp => ?_)
  refine wpS_bind (wpS_gallop (arr := arrOf st) hO hJ1.kind (hA p hp) hA (by omega) (by omega) fun k hk => ?_)
  dsimp only
  refine wpS_ite (fun _ => wpS_pure (h _ hJ1)) (fun hc => ?_)
  have hk' : k < n₁ := by simp at hc; omega
  refine wpS_bind (wpS_elem (a := arrOf st) (by omega) fun p' hp' => ?_)
  refine wpS_bind (wpS_gallop (arr := arrOf st) hO hJ1.kind (hA p' hp') hA (by omega) (by omega) fun k2 hk2 => ?_)
  dsimp only
  refine wpS_ite (fun _ => wpS_pure (h _ hJ1)) (fun hc2 => ?_)
  have hk2' : 0 < k2 := by simp at hc2; omega
  have post : ∀ (out : Array Keyed) (st' : SortSt), From ((arrOf st).extract (0 + k) n₁) ((arrOf st).extract n₁ (n₁ + k2)) out → Sm st1 st' →
      Q (failedOf st').isNone (setArr st' (out.toList.zipIdx.foldl (fun a x => a.setIfInBounds (0 + k + x.2) x.1) (arrOf st'))) := by
    intro out st' hF hS
    have hJ2 := hJ1.sm hS
    rw [hJ2.failed]
    refine h _ ⟨(foldl_set_size _ _).trans hJ2.size, fun q hq => ?_, hJ2.kind, hJ2.failed, hJ2.pend⟩
    rcases foldl_set_mem _ _ hq with hq | hq
    · exact hJ2.mem q hq
    · rw [List.zipIdx_map_fst] at hq
      rcases hF q hq with hq | hq
      · exact hJ.mem q (mem_extract hq)
      · exact hJ.mem q (mem_extract hq)
  have hsx : ((arrOf st).extract (0 + k) n₁).size = n₁ - k := by rw [Array.size_extract]; omega
  have hsy : ((arrOf st).extract n₁ (n₁ + k2)).size = k2 := by rw [Array.size_extract]; omega
  have hX : ∀ q ∈ ((arrOf st).extract (0 + k) n₁).toList, KOk κ q := fun q hq => hA q (mem_extract hq)
  have hY : ∀ q ∈ ((arrOf st).extract n₁ (n₁ + k2)).toList, KOk κ q := fun q hq => hA q (mem_extract hq)
  refine wpS_ite (fun _ => ?_) (fun _ => ?_)
  · exact wpS_bind (wpS_mergeLo (a := (arrOf st).extract (0 + k) n₁) (b := (arrOf st).extract n₁ (n₁ + k2)) hO hJ1.kind hX hY (by omega) (by omega) fun out st' hF hS => wpS_bind (wpS_modify (wpS_bind (wpS_get (wpS_pure (post out st' hF hS))))))
  · exact wpS_bind (wpS_mergeHi (a := (arrOf st).extract (0 + k) n₁) (b := (arrOf st).extract n₁ (n₁ + k2)) hO hJ1.kind hX hY (by omega) (by omega) fun out st' hF hS => wpS_bind (wpS_modify (wpS_bind (wpS_get (wpS_pure (post out st' hF hS))))))
end
section
variable {prog : Program} {w : World} {A : Around} {E : Value → Shared → Prop} {s : Shared} {κ : PyProof.Rows.KeyKind} {a₀ : Array Keyed}
def J3 (a₀ : Array Keyed) (st : SortSt) : Prop := SJ a₀ #[(0, 126, 0)] st ∨ ∃ n₁ n₂ pw, n₁ + n₂ = 126 ∧ 1 ≤ n₁ ∧ 1 ≤ n₂ ∧ SJ a₀ #[(0, n₁, pw), (n₁, n₂, 0)] st
theorem wpS_runs126 {st : SortSt} {Q : Unit → SortSt → Prop} (hO : κ.OneLt) (h0 : KsOk κ a₀) (hz : a₀.size = 126) (hJ : SJ a₀ #[] st)
    (h : ∀ st' P, SJ a₀ P st' → Q () st') : wpS (model prog w) A E s sortRuns' Q st := by
  rw [sortRuns'_eq]
  refine wpS_bind (wpS_get ?_)
  dsimp only
  rw [hJ.size, hz, show minRun' 126 126 0 = 63 from rfl]
  refine wpS_bind (wpS_mono (wpS_forRange
    (I := fun x c st' => (x = 0 ∧ c = (none, 0) ∧ SJ a₀ #[] st') ∨ (x = 1 ∧ ∃ n, c = (none, n) ∧ 63 ≤ n ∧ n < 126 ∧ SJ a₀ #[(0, n, 0)] st') ∨ (1 ≤ x ∧ c = (none, 126) ∧ J3 a₀ st'))
    (Q := fun c st' => c = (none, 126) ∧ J3 a₀ st') ?step ?fin (.inl ⟨rfl, rfl, hJ⟩)) ?post)
  case fin =>
    rintro c st' (⟨hx, _⟩ | ⟨hx, _⟩ | ⟨_, hc, hD⟩)
    · omega
    · omega
    · exact ⟨hc, hD⟩
  case step =>
    rintro x c st' _ hx (⟨rfl, rfl, hJ'⟩ | ⟨rfl, n, rfl, hn1, hn2, hJ'⟩ | ⟨hx1, rfl, hD⟩)
    · dsimp only
      rw [if_neg (by omega)]
      refine wpS_bind (wpS_countJ hO h0 hJ' (by omega) (by omega) fun m st2 hJ2 hm1 hm2 => ?_)
      dsimp only
      have key : ∀ (n : Nat) (st3 : SortSt), SJ a₀ #[] st3 → 63 ≤ n → n ≤ 126 →
          ((0 + 1 = 0 ∧ ((none, 0 + n) : Option Unit × Nat) = (none, 0) ∧ SJ a₀ #[] (setPending st3 ((pendingOf st3).push (0, n, 0)))) ∨ (0 + 1 = 1 ∧ ∃ n', ((none, 0 + n) : Option Unit × Nat) = (none, n') ∧ 63 ≤ n' ∧ n' < 126 ∧ SJ a₀ #[(0, n', 0)] (setPending st3 ((pendingOf st3).push (0, n, 0)))) ∨ (1 ≤ 0 + 1 ∧ ((none, 0 + n) : Option Unit × Nat) = (none, 126) ∧ J3 a₀ (setPending st3 ((pendingOf st3).push (0, n, 0))))) := by
        intro n st3 hJ3 h1 h2
        have hp : (pendingOf st3).push (0, n, 0) = #[(0, n, 0)] := by rw [hJ3.pend]; rfl
        rw [hp]
        have := hJ3.setP #[(0, n, 0)]
        by_cases e : n = 126
        · subst e
          exact .inr (.inr ⟨by omega, rfl, .inl this⟩)
        · exact .inr (.inl ⟨rfl, n, by rw [Nat.zero_add], h1, by omega, this⟩)
      refine wpS_ite (fun hlt => ?_) (fun hlt => ?_)
      · refine wpS_bind (wpS_lift (wpAny_rule ⟨rfl, ?_⟩))
        refine wpS_bind (wpS_insJ hO h0 hJ2 (by omega) fun st3 hJ3 => ?_)
        refine wpS_ite (fun hx => absurd hx (by decide)) (fun _ => ?_)
        refine wpS_bind (wpS_get ?_)
        have hb : (pendingOf st3).back? = none := by rw [hJ3.pend]; rfl
        rw [hb]
        dsimp only
        exact wpS_bind (wpS_modify (wpS_pure (key (min (126 - 0) 63) _ hJ3 (by decide) (by decide))))
      · refine wpS_bind (wpS_get ?_)
        have hb : (pendingOf st2).back? = none := by rw [hJ2.pend]; rfl
        rw [hb]
        dsimp only
        exact wpS_bind (wpS_modify (wpS_pure (key _ _ hJ2 (by omega) (by omega))))
    · dsimp only
      rw [if_neg (by omega)]
      refine wpS_bind (wpS_countJ hO h0 hJ' (by omega) (by omega) fun m st2 hJ2 hm1 hm2 => ?_)
      dsimp only
      refine wpS_ite (fun hlt => ?_) (fun hlt => ?_)
      · refine wpS_bind (wpS_lift (wpAny_rule ⟨rfl, ?_⟩))
        refine wpS_bind (wpS_insJ hO h0 hJ2 (by omega) fun st3 hJ3 => ?_)
        refine wpS_ite (fun hx => absurd hx (by decide)) (fun _ => ?_)
        generalize hN : min (126 - n) 63 = n'
        have hN' : n + n' = 126 := by omega
        refine wpS_bind (wpS_get ?_)
        have hb : (pendingOf st3).back? = some (0, n, 0) := by rw [hJ3.pend]; rfl
        rw [hb]
        dsimp only
        generalize power' 126 _ _ 126 = pw
        refine wpS_bind (wpS_mono (wpS_forRange (I := fun _ c st' => c = (none, ()) ∧ st' = st3) (Q := fun c st' => c = (none, ()) ∧ st' = st3) ?pstep (fun _ _ h => h) ⟨rfl, rfl⟩) ?ppost)
        case pstep =>
          rintro x c st' _ _ ⟨rfl, rfl⟩
          refine wpS_bind (wpS_get ?_)
          rw [hJ3.pend]
          exact wpS_pure ⟨rfl, rfl⟩
        case ppost =>
          rintro c st' ⟨rfl, rfl⟩
          dsimp only
          refine wpS_bind (wpS_modify ?_)
          refine wpS_bind (wpS_modify ?_)
          have e : ((pendingOf st').modify ((pendingOf st').size - 1) fun x => (x.fst, x.2.fst, pw)).push (n, n', 0) = #[(0, n, pw), (n, n', 0)] := by rw [hJ3.pend]; simp
          refine wpS_pure (.inr (.inr ⟨by omega, by rw [hN'], .inr ⟨n, n', pw, hN', by omega, by omega, ?_⟩⟩))
          rw [← e]
          exact ⟨hJ3.size, hJ3.mem, hJ3.kind, hJ3.failed, rfl⟩
      · have hN' : n + m = 126 := by omega
        generalize m = n' at hN'
        refine wpS_bind (wpS_get ?_)
        have hb : (pendingOf st2).back? = some (0, n, 0) := by rw [hJ2.pend]; rfl
        rw [hb]
        dsimp only
        generalize power' 126 _ _ 126 = pw
        refine wpS_bind (wpS_mono (wpS_forRange (I := fun _ c st' => c = (none, ()) ∧ st' = st2) (Q := fun c st' => c = (none, ()) ∧ st' = st2) ?pstep (fun _ _ h => h) ⟨rfl, rfl⟩) ?ppost)
        case pstep =>
          rintro x c st' _ _ ⟨rfl, rfl⟩
          refine wpS_bind (wpS_get ?_)
          rw [hJ2.pend]
          exact wpS_pure ⟨rfl, rfl⟩
        case ppost =>
          rintro c st' ⟨rfl, rfl⟩
          dsimp only
          refine wpS_bind (wpS_modify ?_)
          refine wpS_bind (wpS_modify ?_)
          have e : ((pendingOf st').modify ((pendingOf st').size - 1) fun x => (x.fst, x.2.fst, pw)).push (n, n', 0) = #[(0, n, pw), (n, n', 0)] := by rw [hJ2.pend]; simp
          refine wpS_pure (.inr (.inr ⟨by omega, by rw [hN'], .inr ⟨n, n', pw, hN', by omega, by omega, ?_⟩⟩))
          rw [← e]
          exact ⟨hJ2.size, hJ2.mem, hJ2.kind, hJ2.failed, rfl⟩
    · dsimp only
      rw [if_pos (Nat.le_refl _)]
      exact wpS_pure ⟨rfl, hD⟩
  case post =>
    rintro c st' ⟨rfl, hD⟩
    dsimp only
    refine wpS_bind (wpS_mono (wpS_forRange (I := fun _ c st'' => c = (none, ()) ∧ ((∃ q, SJ a₀ #[q] st'') ∨ J3 a₀ st'')) (Q := fun c st'' => c = (none, ()) ∧ ∃ P, SJ a₀ P st'') ?pstep ?pfin ⟨rfl, .inr hD⟩) ?ppost)
    case pfin =>
      rintro c st'' ⟨rfl, ⟨q, hq⟩ | hq | ⟨_, _, _, _, _, _, hq⟩⟩
      · exact ⟨rfl, _, hq⟩
      · exact ⟨rfl, _, hq⟩
      · exact ⟨rfl, _, hq⟩
    case ppost =>
      rintro c st'' ⟨rfl, P, hq⟩
      exact wpS_pure (h _ _ hq)
    case pstep =>
      rintro x c st'' _ _ ⟨rfl, hh⟩
      refine wpS_bind (wpS_get ?_)
      rcases hh with ⟨q, hq⟩ | hq | ⟨n₁, n₂, pw, hn, hn1, hn2, hq⟩
      · rw [hq.pend]
        exact wpS_pure ⟨rfl, _, hq⟩
      · rw [hq.pend]
        exact wpS_pure ⟨rfl, _, hq⟩
      · rw [hq.pend]
        have hs : (#[(0, n₁, pw), (n₁, n₂, 0)] : Array (Nat × Nat × Nat)).size = 2 := rfl
        rw [hs]
        refine wpS_ite (fun hx => absurd hx (by decide)) (fun _ => ?_)
        rw [if_neg (show ¬ (2 - 2 > 0) from by decide), if_neg (show ¬ (Option.any _ none = true) from by simp)]
        refine wpS_bind (wpS_mergeJ hO h0 hq (by omega) hn1 hn2 fun st3 hJ3 => ?_)
        refine wpS_ite (fun hx => absurd hx (by decide)) (fun _ => ?_)
        exact wpS_pure ⟨rfl, .inl ⟨_, hJ3⟩⟩
end
end Mine
end
section
open PySem PySem.W PySem.Spec PySem.Calls PyProof.Rows PyProof.V
noncomputable section
namespace Mine
def SDictIs (prog : Program) (w : World) (o : Obj) (D : List (PyData × PyData)) : Prop := ∃ kvs, o.IsDictOf (PySem.strKind prog w) kvs ∧ FlatPairs PyData.str kvs D
section
variable {prog : Program} {w : World} {A : Around} {E : Value → Shared → Prop} {s : Shared} {a₀ : Array Keyed}
/-- a list that is ascending already is one run, and stays as it is -/
theorem wpS_runsAsc {st : SortSt} {Q : Unit → SortSt → Prop} (h0 : IntKeys a₀) (hB : SBase a₀ st) (he : arrOf st = a₀) (hz : a₀.size = 127) (hasc : ∀ i, 1 ≤ i → i < 127 → K a₀ (i - 1) ≤ K a₀ i)
    (h : ∀ st', arrOf st' = a₀ → failedOf st' = none → Q () st') : wpS (model prog w) A E s sortRuns' Q st := by
  rw [sortRuns'_eq]
  refine wpS_bind (wpS_get ?_)
  dsimp only
  rw [hB.size, hz, show minRun' 127 127 0 = 64 from rfl]
  refine wpS_bind (wpS_mono (wpS_forRange
    (I := fun x c st' => (x = 0 ∧ c = (none, 0) ∧ st' = st) ∨ (1 ≤ x ∧ c = (none, 127) ∧ arrOf st' = a₀ ∧ failedOf st' = none ∧ (pendingOf st').size = 1))
    (Q := fun c st' => c = (none, 127) ∧ arrOf st' = a₀ ∧ failedOf st' = none ∧ (pendingOf st').size = 1) ?step ?fin (.inl ⟨rfl, rfl, rfl⟩)) ?post)
  case fin =>
    rintro c st' (⟨hx, _⟩ | ⟨_, hc⟩)
    · omega
    · exact hc
  case step =>
    rintro x c st' _ hx (⟨rfl, rfl, rfl⟩ | ⟨_, rfl, hD⟩)
    · dsimp only
      rw [if_neg (by omega), countRun0_eq]
      refine wpS_bind (wpS_bind (wpS_ascLoop h0 (by omega) (Nat.le_refl 1) (by omega) hB (fun i j hij hj => by
        have : i = j := by omega
        subst this; exact Int.le_refl _) fun n hn1 hn2 _ hor => ?_))
      have hn : n = 127 := by
        by_cases hne : n = 127
        · exact hne
        · exfalso
          have hlt := hor.resolve_left (by omega)
          rw [he] at hlt
          have := hasc n hn1 (by omega)
          omega
      subst hn
      dsimp only
      rw [if_pos (by rfl)]
      refine wpS_pure ?_
      dsimp only
      rw [if_neg (by omega)]
      refine wpS_bind (wpS_get ?_)
      have hb : (pendingOf st').back? = none := by rw [hB.pend]; rfl
      rw [hb]
      dsimp only
      refine wpS_bind (wpS_modify (wpS_pure (.inr ⟨by omega, rfl, he, hB.failed, ?_⟩)))
      show ((pendingOf st').push _).size = 1
      rw [hB.pend]
      rfl
    · dsimp only
      rw [if_pos (Nat.le_refl _)]
      exact wpS_pure ⟨rfl, hD⟩
  case post =>
    rintro c st' ⟨rfl, h1, h2, h3⟩
    dsimp only
    refine wpS_bind (wpS_mono (wpS_forRange (I := fun _ c st'' => st'' = st' ∧ c = (none, ())) (Q := fun c st'' => st'' = st' ∧ c = (none, ())) ?_ (fun _ _ hh => hh) ⟨rfl, rfl⟩) ?_)
    · rintro x c st'' _ _ ⟨rfl, rfl⟩
      refine wpS_bind (wpS_get ?_)
      rw [if_pos (by rw [h3]; exact Nat.le_refl 1)]
      exact wpS_pure ⟨rfl, rfl⟩
    · rintro c st'' ⟨rfl, rfl⟩
      exact wpS_pure (h _ h1 h2)
/-- list.sort of one or two runs and more: what the runs leave is what the list holds -/
theorem list_sort_by {Φ : Array Keyed → Prop} {a : Addr} {vs : List Value} {n : Nat} {P : Fin → Shared → Prop} (ho : s.heap.get? a = some (seqObj "list" vs.toArray n)) (h2 : 2 ≤ vs.length) (hl : vs.length ≤ 200) (hkk : keyKind' vs.toArray = pure oneType')
    (hR : ∀ (A : Around) (E : Value → Shared → Prop) (s : Shared), wpS (model prog w) A E s sortRuns' (fun _ st' => failedOf st' = none ∧ (arrOf st').size = vs.length ∧ Φ (arrOf st')) (SortSt.mk' oneType' (pairsOf vs) #[] 7 none))
    (h : ∀ xs : Array Keyed, xs.size = vs.length → Φ xs → P (.done (.ret .none)) { s with heap := sortedHeap s.heap a vs (xs.map (·.2)) }) :
    wpAny (model prog w) A (Builtin.«list.sort» ⟨[.ref a], []⟩) P E s := by
  have ha : a < s.heap.objs.size := Heap.lt_size ho
  have hsz : vs.toArray.size = vs.length := List.size_toArray ..
  have hline : (200 : Nat) ≤ sizeLine := by rw [sizeLine_eq]; decide
  rw [list_sort_plain]
  refine wpAny_bind (listItems_at ho rfl (wpAny_bind (listUpdate_at ho rfl ?_ (by omega) (Nat.zero_le _))))
  obtain ⟨e1, ho1⟩ : ∃ e1, (s.heap.update a (Obj.mapSeq fun _ => #[])).get? a = some (seqObj "list" #[] e1) := ⟨_, get?_update_seq ho (fun _ => #[])⟩
  refine wpAny_bind (seqEpoch_at ho1 rfl (wpAny_bind (wpAny_newTuple (wpAny_bind (wpAny_newList (wpAny_holding ?_)))  (by dsimp only; omega))))
  have hz1 : (s.heap.update a (Obj.mapSeq fun _ => #[])).objs.size = s.heap.objs.size := Heap.size_update ..
  have ho6 : (((s.heap.update a (Obj.mapSeq fun _ => #[])).push (seqObj "tuple" vs.toArray 0)).push (seqObj "list" #[] 0)).get? a = some (seqObj "list" #[] e1) :=
    Heap.get?_push_of_some _ (Heap.get?_push_of_some _ ho1)
  show wpAny (model prog w) A _ P E { s with heap := ((s.heap.update a (Obj.mapSeq fun _ => #[])).push (seqObj "tuple" vs.toArray 0)).push (seqObj "list" #[] 0) }
  dsimp only
  rw [if_neg (by omega), if_neg (by omega), hkk]
  refine wpAny_bind (wpAny_pure (wpAny_bind (wpAny_mono (hR _ _ _) ?_ fun _ _ e => e)))
  rintro ⟨⟨⟩, st'⟩ s' ⟨rfl, hf, hz, hΦ⟩
  dsimp only
  refine wpAny_bind (seqEpoch_at ho6 rfl (wpAny_bind (listUpdate_at ho6 rfl ?_ (Nat.zero_le _) (by rw [Array.size_map]; exact Nat.le_succ_of_le (Nat.le_trans (Nat.le_of_eq hz) (by omega))))))
  rw [hf]
  simp only [bne_self_eq_false, Bool.false_eq_true, if_false]
  exact wpAny_pure (h _ hz hΦ)
end
end Mine
end
end
section
open PySem PySem.W PySem.Spec PySem.Calls PyProof.Rows PyProof.V
noncomputable section
namespace Mine
theorem intsAre_by : ∀ (vs : List Value) (ns : List Int), vs.length = ns.length → (∀ (j : Nat) (v : Value), vs[j]? = some v → ∃ n t, ns[j]? = some n ∧ v = .int n t) → IntsAre vs ns
  | [], [], _, _ => .nil
  | [], _ :: _, h, _ => by simp at h
  | _ :: _, [], h, _ => by simp at h
  | v :: vs, n :: ns, hl, h => by
    obtain ⟨n', t, e, rfl⟩ := h 0 v rfl
    cases e
    exact .cons n t (intsAre_by vs ns (by simpa using hl) fun j u hu => h (j + 1) u (by simpa using hu))
theorem strsAre_by : ∀ (vs : List Value) (ss : List Str), vs.length = ss.length → (∀ (j : Nat) (v : Value), vs[j]? = some v → ∃ x t, ss[j]? = some x ∧ v = .str x t) → StrsAre vs ss
  | [], [], _, _ => .nil
  | [], _ :: _, h, _ => by simp at h
  | _ :: _, [], h, _ => by simp at h
  | v :: vs, n :: ns, hl, h => by
    obtain ⟨n', t, e, rfl⟩ := h 0 v rfl
    cases e
    exact .cons n t (strsAre_by vs ns (by simpa using hl) fun j u hu => h (j + 1) u (by simpa using hu))
theorem sorted_frame {h₀ h : Heap} {L D : Addr} {m : Str → Option Value} {news : List (Addr × Obj)} {vs : List Value} {out : Array Value} (F : Fr h₀ L h m) (N : News h₀ L h ((D, listOf vs.toArray 0) :: news)) (hlt : ∀ p ∈ news, p.1 < D) :
    Fr h₀ L (sortedHeap h D vs out) m ∧ ∃ e, News h₀ L (sortedHeap h D vs out) ((D, listOf out e) :: news) := by
  obtain ⟨hD, hL, h0⟩ := N _ (.head _)
  have old : ∀ b o, b ≠ D → h.get? b = some o → (sortedHeap h D vs out).get? b = some o := fun b o hb e => (sortedHeap_old hb (Heap.lt_size e)).trans e
  obtain ⟨oL, a1, a2, hoL, a3⟩ := F.ns
  refine ⟨⟨⟨oL, a1, a2, old _ _ (Ne.symm hL) hoL, a3⟩, fun b o e => old b o (fun hb => ?_) (F.keep b o e), F.above⟩, ?_⟩
  · rw [hb] at e
    rw [h0] at e
    cases e
  · obtain ⟨e, he⟩ := sortedHeap_at (out := out) (n := 0) hD
    refine ⟨e, fun p hp => ?_⟩
    rcases List.mem_cons.mp hp with rfl | hp
    · exact ⟨he, hL, h0⟩
    · exact ⟨old _ _ (Nat.ne_of_lt (hlt p hp)) (N p (.tail _ hp)).1, (N p (.tail _ hp)).2⟩
theorem ct_short : CT.all (fun p => decide (0 < p.1.length) && decide (p.1.length ≤ 90)) = true := by decide +kernel
theorem ct_len : CT.length = 126 := by decide +kernel
theorem nt_len : NT.length = 127 := by decide +kernel
noncomputable def ascB : List Int → Bool
  | a :: b :: r => decide (a ≤ b) && ascB (b :: r)
  | _ => true
theorem nt_asc : ascB (NT.map (·.1)) = true := by decide +kernel
theorem ascB_at : ∀ (l : List Int), ascB l = true → ∀ (i : Nat) (a b : Int), l[i]? = some a → l[i + 1]? = some b → a ≤ b
  | [], _, _, _, _, h, _ => by simp at h
  | [x], _, i, _, _, _, h => by simp at h
  | x :: y :: r, h, i, a, b, h1, h2 => by
    simp only [ascB, Bool.and_eq_true, decide_eq_true_eq] at h
    cases i with
    | zero => cases h1; cases h2; exact h.1
    | succ i => exact ascB_at (y :: r) h.2 i a b (by simpa using h1) (by simpa using h2)
theorem K_pairs {vs : List Value} {ns : List Int} (hI : IntsAre vs ns) {i : Nat} {n : Int} (h : ns[i]? = some n) : K (pairsOf vs) i = n := by
  have hlt : i < vs.length := by
    rw [hI.length]
    exact (List.getElem?_eq_some_iff.mp h).1
  unfold K
  have e : (pairsOf vs)[i]? = some (vs[i], vs[i]) := by
    rw [← Array.getElem?_toList, pairsOf_toList, List.getElem?_zip_eq_some]
    exact ⟨List.getElem?_eq_getElem hlt, List.getElem?_eq_getElem hlt⟩
  rw [e]
  rw [← hI.nums, List.getElem?_map, List.getElem?_eq_getElem hlt] at h
  simpa using h
section
variable {prog : Program} {w : World} {A : Around} {E : Value → Shared → Prop} {s : Shared} {h₀ : Heap} {L : Addr} {m : Str → Option Value} {news : List (Addr × Obj)} {d : Addr} {o : Obj} {Q : Value → Shared → Prop}
theorem sorted_strs_law (hh : A.handled = none) (F : Fr h₀ L s.heap m) (N : News h₀ L s.heap news) (hm : (d, o) ∈ news) (lo : (d == sysModules) = false) (hd : SDictIs prog w o D2)
    (h : ∀ l h' tk' vs (ss : List Str) c, StrsAre vs ss → ss.length = 126 → (∀ x ∈ ss, 0 < x.length ∧ x.length ≤ 90) → Fr h₀ L h' m → News h₀ L h' ((l, W.listOf vs.toArray c) :: news) → (∀ p ∈ news, p.1 < l) → Q (.ref l) { s with heap := h', toks := tk' }) :
    wpAny (model prog w) A (call (.builtin "sorted") [.ref d]) Q E s := by
  obtain ⟨kvs, hk, hf⟩ := hd
  obtain ⟨ep, hat⟩ := (kda_dict N hm hk).dictAt
  have hlen : kvs.length = 126 := by rw [← hf.length, show D2 = CT.map _ from rfl, List.length_map, ct_len]
  refine kdu_sorted (kdl_dict (knd := PySem.strKind prog w) (kvs := kvs) (ep := ep) lo) hh F N hat (kdl_size (by omega)) fun D h' tk vs F' N' l1 hl hv => ?_
  have hS : StrsAre vs (CT.map (·.1)) := strsAre_by _ _ (by rw [hl, hlen, List.length_map, ct_len]) fun j v hj => by
    obtain ⟨k, x, hx, hkv⟩ := hv j v hj
    obtain ⟨dv, hdv, _⟩ := hf.at hx
    rw [show D2 = CT.map _ from rfl, List.getElem?_map] at hdv
    obtain ⟨p, hp, e⟩ := Option.map_eq_some_iff.mp hdv
    cases e
    obtain ⟨t, rfl⟩ := Value.isStrOf_shape hkv
    exact ⟨p.1, t, by rw [List.getElem?_map, hp]; rfl, rfl⟩
  have hz : vs.length = 126 := hl.trans hlen
  refine wpAny_call_entry PyProof.Rows.slot_list_sort ⟨_, (N' _ (.head _)).1, rfl⟩ PyProof.Rows.entry_list_sort (list_sort_by (n := 0) (Φ := fun xs => ∀ p ∈ xs.toList, p ∈ (pairsOf vs).toList) (N' _ (.head _)).1 (by omega) (by omega) ?_ (fun A E s => ?_) fun xs hxz hΦ => ⟨.none, rfl, ?_⟩) (PyProof.Rows.args_list_sort _)
  · obtain ⟨v₁, v₂, r, rfl⟩ : ∃ v₁ v₂ r, vs = v₁ :: v₂ :: r := by
      match vs, hz with
      | v₁ :: v₂ :: r, _ => exact ⟨v₁, v₂, r, rfl⟩
    exact keyKind_strs hS
  · have h0 : KsOk PyProof.Rows.strKind (pairsOf vs) := hS.keysOf
    exact wpS_runs126 strKind_oneLt h0 (by rw [pairsOf_size]; exact hz) ⟨rfl, fun _ hp => hp, rfl, rfl, rfl⟩ fun st' P hJ => ⟨hJ.failed, by rw [hJ.size, pairsOf_size], hJ.mem⟩
  · obtain ⟨F2, c, N2⟩ := sorted_frame (out := xs.map (·.2)) F' N' l1
    have hall : ∀ v ∈ (xs.map (·.2)).toList, ∃ x t, v = .str x t ∧ x ∈ CT.map (·.1) := fun v hv => by
      rw [Array.toList_map] at hv
      obtain ⟨p, hp, rfl⟩ := List.mem_map.mp hv
      have hq := hΦ p hp
      rw [pairsOf_toList] at hq
      obtain ⟨e1, e2⟩ := mem_zip_self hq
      rw [← e1]
      obtain ⟨x, t, e⟩ := hS.all _ e2
      refine ⟨x, t, e, ?_⟩
      rw [← hS.strs]
      exact List.mem_map.mpr ⟨_, e2, by rw [e]; rfl⟩
    have hS2 := strsAre_map (xs.map (·.2)).toList fun v hv => let ⟨x, t, e, _⟩ := hall v hv; ⟨x, t, e⟩
    refine h D _ tk (xs.map (·.2)).toList _ c hS2 (by rw [List.length_map, Array.length_toList, Array.size_map]; omega) (fun x hx => ?_) F2 (by rw [Array.toArray_toList]; exact N2) l1
    obtain ⟨v, hv, e⟩ := List.mem_map.mp hx
    obtain ⟨y, t, rfl, hy⟩ := hall v hv
    have e' : y = x := e
    subst e'
    obtain ⟨p, hp, rfl⟩ := List.mem_map.mp hy
    have := List.all_eq_true.mp ct_short p hp
    simpa using this
theorem sorted_ints_law (hh : A.handled = none) (F : Fr h₀ L s.heap m) (N : News h₀ L s.heap news) (hm : (d, o) ∈ news) (lo : (d == sysModules) = false) (hd : DictIs prog w o D1)
    (h : ∀ l h' tk' vs c, IntsAre vs (NT.map (·.1)) → Fr h₀ L h' m → News h₀ L h' ((l, W.listOf vs.toArray c) :: news) → (∀ p ∈ news, p.1 < l) → Q (.ref l) { s with heap := h', toks := tk' }) :
    wpAny (model prog w) A (call (.builtin "sorted") [.ref d]) Q E s := by
  obtain ⟨kvs, hk, hf⟩ := hd
  obtain ⟨ep, hat⟩ := (kda_dict N hm hk).dictAt
  have hlen : kvs.length = 127 := by rw [← hf.length, show D1 = NT.map _ from rfl, List.length_map, nt_len]
  refine kdu_sorted (kdl_dict (knd := PySem.intKind prog w) (kvs := kvs) (ep := ep) lo) hh F N hat (kdl_size (by omega)) fun D h' tk vs F' N' l1 hl hv => ?_
  have hI : IntsAre vs (NT.map (·.1)) := intsAre_by _ _ (by rw [hl, hlen, List.length_map, nt_len]) fun j v hj => by
    obtain ⟨k, x, hx, hkv⟩ := hv j v hj
    obtain ⟨dv, hdv, _⟩ := hf.at hx
    rw [show D1 = NT.map _ from rfl, List.getElem?_map] at hdv
    obtain ⟨p, hp, e⟩ := Option.map_eq_some_iff.mp hdv
    cases e
    obtain ⟨t, rfl⟩ := Flat.int_inv (kdl_flat_int hkv)
    exact ⟨p.1, t, by rw [List.getElem?_map, hp]; rfl, rfl⟩
  have hz : vs.length = 127 := hl.trans hlen
  refine wpAny_call_entry PyProof.Rows.slot_list_sort ⟨_, (N' _ (.head _)).1, rfl⟩ PyProof.Rows.entry_list_sort (list_sort_by (n := 0) (Φ := fun xs => xs = pairsOf vs) (N' _ (.head _)).1 (by omega) (by omega) ?_ (fun A E s => ?_) fun xs hxz hΦ => ⟨.none, rfl, ?_⟩) (PyProof.Rows.args_list_sort _)
  · obtain ⟨v₁, v₂, r, rfl⟩ : ∃ v₁ v₂ r, vs = v₁ :: v₂ :: r := by
      match vs, hz with
      | v₁ :: v₂ :: r, _ => exact ⟨v₁, v₂, r, rfl⟩
    exact keyKind_ints hI
  · refine wpS_runsAsc hI.intKeys ⟨Array.Perm.refl _, rfl, rfl, rfl⟩ rfl (by rw [pairsOf_size]; exact hz) (fun i h1 h2 => ?_) fun st' e1 e2 => ⟨e2, by rw [e1, pairsOf_size], e1⟩
    have z : (NT.map (·.1)).length = 127 := by rw [List.length_map, nt_len]
    have g1 := List.getElem?_eq_getElem (l := NT.map (·.1)) (i := i - 1) (by omega)
    have g2 := List.getElem?_eq_getElem (l := NT.map (·.1)) (i := i) (by omega)
    rw [K_pairs hI g1, K_pairs hI g2]
    exact ascB_at _ nt_asc (i - 1) _ _ g1 (by rw [show i - 1 + 1 = i by omega]; exact g2)
  · obtain ⟨F2, c, N2⟩ := sorted_frame (out := xs.map (·.2)) F' N' l1
    have e : xs.map (·.2) = vs.toArray := by
      rw [hΦ]
      apply Array.toList_inj.mp
      rw [Array.toList_map, pairsOf_toList, List.map_snd_zip (Nat.le_refl _)]
    rw [e] at F2 N2 ⊢
    exact h D (sortedHeap h' D vs vs.toArray) tk vs c hI F2 N2 l1
end
end Mine
end
end
section
open PySem PySem.W PySem.Spec PySem.Calls PyProof.Rows PyProof.V
noncomputable section
namespace Mine
section
variable {prog : Program} {w : World} {A : Around} {E : Value → Shared → Prop} {s : Shared} {h₀ : Heap} {L : Addr} {m : Str → Option Value} {news : List (Addr × Obj)} {d l : Addr} {o : Obj} {vs : List Value} {ss : List Str} {i : Int} {u : Tok} {Q : Value → Shared → Prop}
theorem len_126 (hl : s.heap.IsList l vs.toArray) (hS : StrsAre vs ss) (hlen : ss.length = 126) (h : ∀ t tk', Q (.int 126 t) { s with toks := tk' }) : wpAny (model prog w) A (call (.builtin "len") [.ref l]) Q E s := by
  have e : vs.toArray.size = 126 := by rw [List.size_toArray, strsAre_len hS, hlen]
  exact call_len_list hl (by rw [e]; decide) (by rw [e]; exact h _ _)
theorem item_126 {value slice : Expr} (hl : s.heap.IsList l vs.toArray) (hS : StrsAre vs ss) (hlen : ss.length = 126) (hall : ∀ x ∈ ss, 0 < x.length ∧ x.length ≤ 90) (h0 : 0 ≤ i) (h1 : i < 126)
    (h : ∀ x t, 0 < x.length → x.length ≤ 90 → Q (.str x t) s)
    (hs : subscripted slice false (.ref l) (.int i u) = operate [.ref l, .int i u] (getItem (.ref l) (.int i u)) := by with_unfolding_all rfl) :
    wpAny (model prog w) A (subscriptTail value slice (.ref l) (.int i u)) Q E s := by
  have hlt : i.toNat < ss.length := by omega
  obtain ⟨t, hv⟩ := strsAre_get hS i.toNat ss[i.toNat] (List.getElem?_eq_getElem hlt)
  have q := hall _ (List.getElem_mem hlt)
  exact tail_any hl.typeIs slot_list_getitem.lookup (wpAny_getItem_list hl h0 (by omega) (by simpa using hv) (h _ t q.1 q.2)) hs
end
theorem bent_law (w : World) (loose : List Str) (mean : ExcName → Option Value) (mg mb : Str → Option Value) (x : Str) (t : Tok) (n : Int) (u : Tok) (hx : x.length ≤ 90) (h0 : 0 < x.length) : PClaim w loose mean mg mb 68 [.str x t, .int n u] (fun v => ∃ y t, v = .str y t ∧ y.length ≤ 1000) :=
  (bent_ok w loose mean mg mb x t (by omega) h0 n u).mono fun v ⟨y, t, e, hy⟩ => ⟨y, t, e, by omega⟩
noncomputable def W13 : List Str := ["", "func", "param", "result", "i32", "i64", "f", "i8", "offset=8", "align=1", "then", "item", "declare"].map Str.ofString
noncomputable def wOk1 (x : Str) : Bool := decide (x.length ≤ 1000) && (codeO x == none) && (leftB x == false)
noncomputable def wOk2 (x : Str) : Bool := decide (x.length ≤ 1000) && (codeO x == none) && (leftB x == true)
theorem w13_ok : W13.all wOk1 = true := by decide +kernel
theorem wOk1_of {x : Str} (h : wOk1 x = true) : x.length ≤ 1000 ∧ codeO x = none ∧ leftB x = false := by
  unfold wOk1 at h
  simp only [Bool.and_eq_true, decide_eq_true_eq, beq_iff_eq] at h
  exact ⟨h.1.1, h.1.2, h.2⟩
theorem wOk2_of {x : Str} (h : wOk2 x = true) : x.length ≤ 1000 ∧ codeO x = none ∧ leftB x = true := by
  unfold wOk2 at h
  simp only [Bool.and_eq_true, decide_eq_true_eq, beq_iff_eq] at h
  exact ⟨h.1.1, h.1.2, h.2⟩
theorem cut5 (names : List Str) {prog : Program} {w : World} {A : Around} {t : Sem Flow} {Q : Flow → Shared → Prop} {E : Value → Shared → Prop} {s : Shared} {h₀ h : Heap} {L : Addr} {m : Str → Option Value} {led : List (Addr × Obj)} (ff : Fr h₀ L h m)
    (nn : News h₀ L h led) (h1 : wpAny (model prog w) A t (P4 names led h₀ L m s) E s) (h2 : ∀ fl s', P4 names led h₀ L m s fl s' → Q fl s') : wpAny (model prog w) A t Q E s := wpAny_mono h1 h2 fun _ _ e => e
end Mine
end
end
section
open PySem PySem.W PySem.Spec PySem.Calls PyProof.Rows PyProof.V
noncomputable section
namespace Mine
noncomputable def stepC (D : List (PyData × PyData)) (p : Int × Str) : List (PyData × PyData) := if (Spec.lookup (.str p.2) D).isSome then D else putD (.str p.2) (.int p.1) D
theorem fold_codes : NT.foldl stepC [] = D2 := by kernel_rfl
theorem nt_self : NT.all (fun p => lkN p.1 NT == some p.2) = true := by decide +kernel
theorem stepC_ge (D : List (PyData × PyData)) (p : Int × Str) : D.length ≤ (stepC D p).length := by
  unfold stepC
  split
  · exact Nat.le_refl _
  · exact putD_ge _ _ _
theorem foldC_ge : ∀ (l : List (Int × Str)) (D : List (PyData × PyData)), D.length ≤ (l.foldl stepC D).length
  | [], _ => Nat.le_refl _
  | q :: l, D => Nat.le_trans (stepC_ge D q) (foldC_ge l _)
theorem D2_len : D2.length = 126 := by unfold D2; rw [List.length_map]; decide +kernel
theorem intsAre_fst : ∀ {vs : List Value} {l : List (Int × Str)}, IntsAre vs (l.map (·.1)) → All2 (fun v (p : Int × Str) => ∃ t, v = Value.int p.1 t) vs l
  | [], [], _ => .nil
  | v :: vs, p :: l, h => by
    rw [List.map_cons] at h
    cases h with
    | cons n t h => exact .cons ⟨t, rfl⟩ (intsAre_fst h)
  | v :: vs, [], h => by cases h
  | [], p :: l, h => by rw [List.map_cons] at h; cases h
def KJ (prog : Program) (w : World) (g : Obj → List (Addr × Obj)) (r : List (Int × Str)) (n : List (Addr × Obj)) : Prop := ∃ o' D', n = g o' ∧ SDictIs prog w o' D' ∧ r.foldl stepC D' = D2
section
variable {prog : Program} {w : World} {A : Around} {E : Value → Shared → Prop} {s : Shared} {env : Env} {h₀ : Heap} {target : Expr} {body : List Stmt} {Q : Flow → Shared → Prop}
theorem codes_loop {ax d : Addr} {lo o₁ : Obj} {vs : List Value} {n : Nat} {m : Str → Option Value} {news : List (Addr × Obj)} {g : Obj → List (Addr × Obj)}
    (hh : A.handled = none) (F : Fr h₀ env.locals s.heap m) (N : News h₀ env.locals s.heap news) (U : UpdF d o₁ news g) (hm : (ax, lo) ∈ news) (hc : lo.cls = .type "list") (hd : lo.data = .seq vs.toArray n)
    (hI : IntsAre vs (NT.map (·.1))) (hD : SDictIs prog w o₁ [])
    (fin : ∀ m' o h tk, Off [Str.ofString "code"] m m' → SDictIs prog w o D2 → Fr h₀ env.locals h m' → News h₀ env.locals h (g o) → Q .next { s with heap := h, toks := tk })
    (turn : ∀ k x tn o D (r : List (Int × Str)) m' h tk I io, Spec.lookup (.int k) D1 = some (.str x) → x.length ≤ 90 → Off [Str.ofString "code"] m m' → SDictIs prog w o D → D.length ≤ sizeLine → r.foldl stepC (stepC D (k, x)) = D2 → Fr h₀ env.locals h m' →
      io.cls = .type "list_iterator" → (∀ p ∈ news, p.1 < I) → News h₀ env.locals h ((I, io) :: g o) →
      wpAny (model prog w) A (assign target env (.int k tn)) (fun _ s₂ => wpAny (model prog w) A (execs body env)
        (UnrPostW h₀ env.locals { s with heap := h, toks := tk } [(I, io)] (fun m'' n'' => SubL [(ax, lo)] n'' ∧ KJ prog w g r n'' ∧ Off [Str.ofString "code"] m m'') Q) E s₂) E { s with heap := h, toks := tk }) :
    wpAny (model prog w) A (pyIter (.ref ax)) (fun it s₂ => TurnsAt prog w A h₀ env target body Q E it s₂) E s := by
  obtain ⟨own, rest, hn, hg, h1, h2⟩ := U.split
  have hg0 : news = g o₁ := hn.trans (hg o₁).symm
  refine list_iter (fun v (p : Int × Str) => (∃ t, v = Value.int p.1 t) ∧ p ∈ NT) [Str.ofString "code"] (fun (r : List (Int × Str)) n' => ∃ o' D', n' = g o' ∧ SDictIs prog w o' D' ∧ r.foldl stepC D' = D2) hh F N hm hc hd ((intsAre_fst hI).withMem fun p hp => hp)
    ⟨o₁, [], hg0, hD, fold_codes⟩ ?_ ?_
  · rintro n' m' h tk ⟨o', D', rfl, hD', hf⟩ ho F' N'
    have e : D' = D2 := hf
    subst e
    exact fin m' o' h tk ho hD' F' N'
  · rintro v ⟨k, x⟩ r n' m' h tk I io ⟨⟨tn, rfl⟩, hmem⟩ ⟨o', D', rfl, hD', hf⟩ ho F' hio l1 N'
    have hl : Spec.lookup (.int k) D1 = some (.str x) := by
      rw [show D1 = NT.map fun p => (PyData.int p.1, PyData.str p.2) from rfl, lookup_int]
      have := List.all_eq_true.mp nt_self _ hmem
      rw [beq_iff_eq.mp this]; rfl
    have hsz : D'.length ≤ sizeLine := by
      have q := foldC_ge ((k, x) :: r) D'
      rw [hf, D2_len] at q
      rw [sizeLine_eq]; omega
    exact turn k x tn o' D' r m' h tk I io hl (nt_facts hmem).1 ho hD' hsz hf F' hio l1 N'
theorem stepC_in {D : List (PyData × PyData)} {k : Int} {x : Str} (h : (Spec.lookup (.str x) D).isSome = true) : stepC D (k, x) = D := by
  show (if _ then _ else _) = _
  rw [if_pos h]
theorem stepC_out {D : List (PyData × PyData)} {k : Int} {x : Str} (h : (Spec.lookup (.str x) D).isSome = false) : stepC D (k, x) = putD (.str x) (.int k) D := by
  show (if _ then _ else _) = _
  rw [if_neg (by rw [h]; simp)]
end
end Mine
end
end
section
open PySem PySem.W PySem.Spec PySem.Calls PyProof.Rows PyProof.V
noncomputable section
namespace Mine
noncomputable def jn (c : Nat) : List (List Nat) → List Nat
  | [] => []
  | [p] => p
  | p :: q :: r => p ++ c :: jn c (q :: r)
theorem cut_eq {c : Nat} : ∀ {p q r s : List Nat}, c ∉ p → c ∉ q → p ++ c :: r = q ++ c :: s → p = q ∧ r = s
  | [], [], _, _, _, _, h => ⟨rfl, (List.cons.inj h).2⟩
  | [], b :: q, _, _, _, hq, h => absurd ((List.cons.inj h).1 ▸ List.mem_cons_self ..) hq
  | a :: p, [], _, _, hp, _, h => absurd ((List.cons.inj h).1 ▸ List.mem_cons_self ..) hp
  | a :: p, b :: q, r, s, hp, hq, h => by
    have h1 := List.cons.inj h
    obtain ⟨e1, e2⟩ := cut_eq (fun x => hp (List.mem_cons_of_mem _ x)) (fun x => hq (List.mem_cons_of_mem _ x)) h1.2
    exact ⟨by rw [h1.1, e1], e2⟩
theorem cut_ne {c : Nat} {p q r : List Nat} (hp : c ∉ p) (h : p = q ++ c :: r) : False := hp (h ▸ List.mem_append_right _ (List.mem_cons_self ..))
theorem jn_inj {c : Nat} : ∀ {l m : List (List Nat)}, l ≠ [] → m ≠ [] → (∀ p ∈ l, c ∉ p) → (∀ p ∈ m, c ∉ p) → jn c l = jn c m → l = m
  | [], _, h, _, _, _, _ => absurd rfl h
  | _, [], _, h, _, _, _ => absurd rfl h
  | [p], [q], _, _, _, _, h => by rw [show p = q from h]
  | [p], q :: q' :: r, _, _, hl, _, h => (cut_ne (hl p (List.mem_cons_self ..)) h).elim
  | p :: p' :: r, [q], _, _, _, hm, h => (cut_ne (hm q (List.mem_cons_self ..)) h.symm).elim
  | p :: p' :: r, q :: q' :: s, _, _, hl, hm, h => by
    obtain ⟨e1, e2⟩ := cut_eq (hl p (List.mem_cons_self ..)) (hm q (List.mem_cons_self ..)) h
    rw [e1, jn_inj (by simp) (by simp) (fun x hx => hl x (List.mem_cons_of_mem _ hx)) (fun x hx => hm x (List.mem_cons_of_mem _ hx)) e2]
theorem join_jn (c : Nat) : ∀ l : List Str, (Str.join ⟨#[c]⟩ l).cps.toList = jn c (l.map fun p => p.cps.toList)
  | [] => rfl
  | [p] => rfl
  | p :: q :: r => by
    have ih := join_jn c (q :: r)
    show (p ++ (⟨#[c]⟩ : Str) ++ Str.join ⟨#[c]⟩ (q :: r)).cps.toList = p.cps.toList ++ c :: jn c ((q :: r).map fun p => p.cps.toList)
    rw [← ih]
    rw [Str.cps_append, Str.cps_append]
    simp
theorem split_is {x : Str} {c : Nat} {l : List Str} (hl : l ≠ []) (hj : jn c (l.map fun p => p.cps.toList) = x.cps.toList) (hf : ∀ p ∈ l, c ∉ p.cps.toList) : Txt.split x ⟨#[c]⟩ = l := by
  have h1 : jn c ((Txt.split x ⟨#[c]⟩).map fun p => p.cps.toList) = jn c (l.map fun p => p.cps.toList) := by
    rw [← join_jn, StrLaws.join_split, hj]
  have hne : Txt.split x ⟨#[c]⟩ ≠ [] := by
    have := split_pos x ⟨#[c]⟩
    intro e; rw [e] at this; exact absurd this (by decide)
  have h2 := jn_inj (by simpa using hne) (by simpa using hl) (by
    intro p hp; obtain ⟨s, hs, rfl⟩ := List.mem_map.mp hp; exact StrLaws.split_free x c s hs) (by
    intro p hp; obtain ⟨s, hs, rfl⟩ := List.mem_map.mp hp; exact hf s hs) h1
  have inj : ∀ {a b : List Str}, a.map (fun p => p.cps.toList) = b.map (fun p => p.cps.toList) → a = b := by
    intro a
    induction a with
    | nil => intro b h; cases b with | nil => rfl | cons => simp at h
    | cons s a ih =>
      intro b h
      cases b with
      | nil => simp at h
      | cons t b =>
        simp only [List.map_cons, List.cons.injEq] at h
        rw [ih h.2, Str.ext' (Array.ext' h.1)]
  exact inj h2
noncomputable def L8 : List Str := ["f32.load", "f64.load", "f32.store", "f64.store", "f32.const", "f64.const", "f32.eq", "f64.ge", "f32.abs", "f64.copysign", "f32.min", "f64.sqrt", "i32.trunc_f32_s", "i64.trunc_f64_u", "i32.trunc_sat_f64_s", "i64.trunc_sat_f32_u", "f32.convert_i64_u", "f64.promote_f32", "f32.demote_f64", "i32.reinterpret_f32", "i64.reinterpret_f64", "f64.reinterpret_i64", "f32.reinterpret_i32", "v128.load", "v128.const", "v128.any_true", "i8x16.shuffle", "i8x16.add", "i16x8.mul", "i32x4.splat", "i64x2.eq", "f32x4.sqrt", "f64x2.abs", "i16x8.q15mulr_sat_s", "i32x4.trunc_sat_f32x4_s", "i64x2.extend_low_i32x4_s", "f32x4.demote_f64x2_zero"].map Str.ofString
theorem l8_ok : L8.all wOk2 = true := by decide +kernel
theorem l8_free : L8.all (fun p => !p.cps.toList.contains 32) = true := by decide +kernel
theorem split_L8 {x : Str} (hj : jn 32 (L8.map fun p => p.cps.toList) = x.cps.toList) : Txt.split x (Str.ofString " ") = L8 := by
  rw [show Str.ofString " " = ⟨#[32]⟩ by decide +kernel]
  refine split_is (by unfold L8; simp) hj fun p hp => ?_
  have := List.all_eq_true.mp l8_free p hp
  simpa using this
end Mine
end
end
section
open PySem PySem.W PySem.Calls PyProof.Rows PyProof.V
noncomputable section
namespace Mine
def StopL (p : Prop) : Prop := p
theorem StopL.out {p : Prop} (h : StopL p) : p := h
/-- a row of the law's list as it stands in a heap, made after n -/
def RowF (n : Nat) (h : Heap) (v : Value) (q : Int × Str × Str) : Prop := ∃ a t1 t2 t3, v = .ref a ∧ h.get? a = some (tup3 q.1 t1 q.2.1 t2 q.2.2 t3) ∧ n ≤ a
section
variable {prog : Program} {w : World} {A : Around} {h₀ : Heap} {L : Addr} {m : Str → Option Value} {env : Env}
/-- an expression that makes a row, wherever the frame stands so -/
def RowE (prog : Program) (w : World) (A : Around) (h₀ : Heap) (L : Addr) (m : Str → Option Value) (env : Env) (e : Expr) (q : Int × Str × Str) : Prop :=
  (∀ rest, starEach (e :: rest) env = (false, eval e env) :: starEach rest env) ∧
  ∀ (s : Shared) (Q : Value → Shared → Prop) (E : Value → Shared → Prop), Fr h₀ L s.heap m → (∀ t1 t2 t3 tk', Q (.ref s.heap.objs.size) { s with heap := s.heap.push (tup3 q.1 t1 q.2.1 t2 q.2.2 t3), toks := tk' }) → wpAny (model prog w) A (eval e env) Q E s
inductive RowsE (prog : Program) (w : World) (A : Around) (h₀ : Heap) (L : Addr) (m : Str → Option Value) (env : Env) : List Expr → List (Int × Str × Str) → Prop
  | nil : RowsE prog w A h₀ L m env [] []
  | cons {e q es qs} : RowE prog w A h₀ L m env e q → RowsE prog w A h₀ L m env es qs → RowsE prog w A h₀ L m env (e :: es) (q :: qs)
theorem rows_eval {pos : Pos} {n : Nat} : ∀ {es : List Expr} {qs : List (Int × Str × Str)}, RowsE prog w A h₀ L m env es qs → ∀ {s : Shared} {Q : List Value → Shared → Prop} {E : Value → Shared → Prop}, Fr h₀ L s.heap m → n ≤ s.heap.objs.size →
    (∀ vs h' tk', All2 (RowF n h') vs qs → (∀ b o, s.heap.get? b = some o → h'.get? b = some o) → Fr h₀ L h' m → Q vs { s with heap := h', toks := tk' }) → wpAny (model prog w) A (spliced (backTo pos (starEach es env))) Q E s
  | _, _, .nil, s, _, _, F, _, h => spliced_none (h [] s.heap s.toks .nil (fun _ _ e => e) F)
  | _, _, .cons ⟨h1, h2⟩ r, s, Q, E, F, hn, h => by
    refine spliced_more ?_ (he := h1 _)
    refine h2 s _ _ F fun t1 t2 t3 tk => ?_
    refine rows_eval (n := n) r (F.push _) (by rw [Heap.size_push]; exact Nat.le_succ_of_le hn) fun vs h' tk' hA hk F' => ?_
    exact h (_ :: vs) h' tk' (.cons ⟨_, t1, t2, t3, rfl, hk _ _ (Heap.get?_push_size _ rfl), hn⟩ hA) (fun b o e => hk b o (Heap.get?_push_of_some _ e)) F'
theorem rowE_c {i : Int} {y z : Str} {k k1 k2 k3 : Nat} {p p1 p2 p3 : Pos} : RowE prog w A h₀ L m env (.Tuple [.Constant (.int i) k1 p1, .Constant (.str y) k2 p2, .Constant (.str z) k3 p3] k p) (i, y, z) :=
  ⟨fun _ => rfl, fun s Q E F h => Tuple_ (spliced_more (wpAny_Constant_int (spliced_more (Constant_str (spliced_more (Constant_str (spliced_none (wpAny_newTuple (h _ _ _ _)))))))))⟩
theorem rowE_n {cn : Str} {cs : Scope} {a : Addr} {ccd : Value} {cl : List (Str × Addr)} {x : Str} {i : Int} {y z : Str} {k k1 k2 : Nat} {p p1 p2 p3 : Pos} (hv : ∃ t, m x = some (.str z t))
    (hk : cs.kind = .function) (hx : (envX cn cs L a ccd cl).kindOf x = some .local) (hd : (x == ("__debug__" : Str)) = false) :
    RowE prog w A h₀ L m (envX cn cs L a ccd cl) (.Tuple [.Constant (.int i) k1 p1, .Constant (.str y) k2 p2, .Name x p3] k p) (i, y, z) :=
  ⟨fun _ => rfl, fun s Q E F h => Tuple_ (spliced_more (wpAny_Constant_int (spliced_more (Constant_str (spliced_more (nameX_L (h₀ := h₀) F hv.choose_spec (spliced_none (wpAny_newTuple (h _ _ _ _))) hk hx hd))))))⟩
end
theorem ll_len : LL.length = 26 := by decide +kernel
theorem all2_len {n : Nat} {h : Heap} {vs : List Value} (hA : All2 (RowF n h) vs LL) : vs.length = 26 := by
  rw [← ll_len]
  generalize LL = qs at hA
  induction hA with
  | nil => rfl
  | cons _ _ ih => rw [List.length_cons, List.length_cons, ih]
theorem lawList_ok (w : World) (loose : List Str) (mean : ExcName → Option Value) (mg mb : Str → Option Value) :
  ∀ (dp un : Nat) (gd : Option (List Code)) (cn : Str) (cs : Scope) (a : Addr) (ccd : Value) (cl : List (Str × Addr)) (outer : List Env) (A₀ : Around) (base h₀ : Heap) (L : Addr) (m : Str → Option Value) (s : Shared) (Q E : Value → Shared → Prop),
    Below A₀ base outer h₀ → Fr h₀ L s.heap m → (hd.heap_39 w.params).In h₀ → Top hd.view_39 loose mean mg mb h₀ → cs.kind = .function → dp + 1 < recursionLimit → un + 8 < cLine →
    (∀ (l : Addr) (vs : List Value) (h' : Heap) (tk' : Nat), s.heap.objs.size ≤ l → h'.get? l = some (W.listOf vs.toArray 0) → All2 (RowF s.heap.objs.size h') vs LL → (∀ b o, s.heap.get? b = some o → h'.get? b = some o) → Q (.ref l) { s with heap := h', toks := tk' }) →
      wpAny (model PySem.Challenge.rw_nm0109_01.row.prog w) (ktrTop dp un gd cn cs L a ccd cl outer) (call (.ref 54) []) Q E s := by
  w_top off
  k_with_none
  k_with "eval List" => (refine StopL.out ?_)
  k_fill
  intros
  rename_i hret
  refine wpAny_call ?_
  k_dflt (refine' enter0 ?k1 ?k2 ?k3 ?k5 ?kA ?kF ?kK ?k6 ?k7 ?k8 ?k9 ?kB ?_ ?c2 ?c3 ?c4 ?c5; (case kA => exact rfl); (case kF => exact rfl); (case kK => assumption); (case k1 => k_asm); (case k2 => k_asm); (case k3 => k_asm); (case k5 => k_asm); (case k6 => k_is); (case k7 => k_is); (case k8 => ktr_room); (case k9 => exact BindsTo.of_eq rfl); (case c5 => decide); (case kB => exact locs rfl); (case c2 => exact rfl); (case c3 => exact rfl); (case c4 => exact rfl); k_whole; intro L' h' FG' F' N' B' X' T'; (try dsimp only); (try k_lift B'); (try k_fold))
  k_steps
  unfold StopL
  (rename Fr _ _ _ _ => FL)
  (rename Shared => s0)
  have hn := Nat.le_trans FL.above (Nat.le_of_lt FL.ns.lt)
  refine List_ ?_
  with_reducible refine rows_eval (qs := LL) ?_ FL hn ?_
  · unfold LL
    with_reducible repeat' (first | exact RowsE.nil | refine RowsE.cons ?_ ?_)
    all_goals first
      | with_reducible exact rowE_c
      | exact rowE_n ⟨_, if_pos rfl⟩ rfl rfl (by decide +kernel)
      | exact rowE_n ⟨_, (if_neg (by decide +kernel)).trans (if_pos rfl)⟩ rfl rfl (by decide +kernel)
  · intro vs h2 tk2 hA hk F2
    have hlen : vs.length = 26 := all2_len hA
    refine wpAny_newList ?_ (by rw [hlen, sizeLine_eq]; decide)
    refine leaveK_ (news' := []) (F2.push _) News.nil fun kF kN => ?_
    refine hret _ vs _ _ ?_ (Heap.get?_push_size _ rfl) ?_ ?_
    · exact Nat.le_trans F2.above (Nat.le_of_lt F2.ns.lt)
    · exact hA.map_rel fun v q ⟨a, t1, t2, t3, e, hg, hl⟩ => ⟨a, t1, t2, t3, e, Heap.get?_push_of_some _ hg, hl⟩
    · exact fun b o e => Heap.get?_push_of_some _ (F2.keep b o e)
theorem rows_more {n : Nat} {h : Heap} : ∀ {vs : List Value} {qs : List (Int × Str × Str)}, All2 (RowF n h) vs qs → ∃ more : List (Addr × Obj), (∀ p ∈ more, h.get? p.1 = some p.2 ∧ n ≤ p.1) ∧ All2 (RowAt more) vs qs
  | _, _, .nil => ⟨[], (fun _ hp => nomatch hp), .nil⟩
  | _, _, .cons ⟨a, t1, t2, t3, e, g, ha⟩ r => by
    obtain ⟨more, hm, hr⟩ := rows_more r
    refine ⟨(a, _) :: more, fun p hp => ?_, .cons ⟨a, t1, t2, t3, e, .head _⟩ (hr.map_rel fun _ _ => RowAt.mono fun p hp => .tail _ hp)⟩
    rcases List.mem_cons.mp hp with rfl | hp
    · exact ⟨g, ha⟩
    · exact hm p hp
theorem rows_led {h₀ h h' : Heap} {L l : Addr} {lo : Obj} {m : Str → Option Value} {news : List (Addr × Obj)} {vs : List Value} {P : Prop} (F : Fr h₀ L h m) (N : News h₀ L h news) (hk : ∀ b o, h.get? b = some o → h'.get? b = some o) (hl : h.objs.size ≤ l) (hg : h'.get? l = some lo)
    (hA : All2 (RowF h.objs.size h') vs LL) (k : ∀ more, (∀ q ∈ news, q.1 ≠ l) → (∀ p ∈ more, ∀ q ∈ news, p.1 ≠ q.1) → All2 (RowAt more) vs LL → Fr h₀ L h' m → News h₀ L h' ((l, lo) :: (news ++ more)) → P) : P := by
  have fresh : ∀ a, h.objs.size ≤ a → a ≠ L ∧ h₀.get? a = none := fun a ha => ⟨Nat.ne_of_gt (Nat.lt_of_lt_of_le F.ns.lt ha), by
    cases e : h₀.get? a with
    | none => rfl
    | some o => exact absurd (Heap.lt_size (F.keep a o e)) (Nat.not_lt.mpr ha)⟩
  have old : ∀ q ∈ news, q.1 < h.objs.size := fun q hq => Heap.lt_size (N q hq).1
  obtain ⟨more, hm, hr⟩ := rows_more hA
  refine k more (fun q hq => Nat.ne_of_lt (Nat.lt_of_lt_of_le (old q hq) hl)) (fun p hp q hq => Nat.ne_of_gt (Nat.lt_of_lt_of_le (old q hq) (hm p hp).2)) hr (F.keeps hk) fun p hp => ?_
  rcases List.mem_cons.mp hp with rfl | hp
  · exact ⟨hg, fresh _ hl⟩
  · rcases List.mem_append.mp hp with hp | hp
    · exact ⟨hk _ _ (N p hp).1, (N p hp).2⟩
    · exact ⟨(hm p hp).1, fresh _ (hm p hp).2⟩
end Mine
end
end
section
open PySem PySem.W PySem.Calls PyProof.Rows PyProof.V
namespace Mine
def P1 (prog : Program) (w : World) (d1 : Addr) (d2 : Addr) (o2 : Obj) (c : Addr) (oc : Obj) (h₀ : Heap) (L : Addr) (m : Str → Option Value) (s : Shared) (fl : Flow) (s' : Shared) : Prop :=
  fl = .next ∧ ∃ h' tk' o m', s' = { s with heap := h', toks := tk' } ∧ Off fiveNames m m' ∧ DictIs prog w o D1 ∧ Fr h₀ L h' m' ∧ News h₀ L h' [(d2, o2), (d1, o), (c, oc)]
theorem cut1 {prog : Program} {w : World} {A : Around} {t : Sem Flow} {Q : Flow → Shared → Prop} {E : Value → Shared → Prop} {s : Shared} {h₀ : Heap} {L : Addr} {m : Str → Option Value} {d1 d2 c D3 : Addr} {o1 o2 oc oD : Obj} (ff : Fr h₀ L s.heap m)
    (nn : News h₀ L s.heap [(D3, oD), (d2, o2), (d1, o1), (c, oc)]) (h1 : wpAny (model prog w) A t (P1 prog w d1 d2 o2 c oc h₀ L m s) E s) (h2 : ∀ fl s', P1 prog w d1 d2 o2 c oc h₀ L m s fl s' → Q fl s') : wpAny (model prog w) A t Q E s := wpAny_mono h1 h2 fun _ _ e => e
def P2 (prog : Program) (w : World) (d1 : Addr) (o1 : Obj) (d2 : Addr) (c : Addr) (oc : Obj) (h₀ : Heap) (L : Addr) (m : Str → Option Value) (s : Shared) (fl : Flow) (s' : Shared) : Prop :=
  fl = .next ∧ ∃ h' tk' o2 m', s' = { s with heap := h', toks := tk' } ∧ Off [Str.ofString "code"] m m' ∧ SDictIs prog w o2 D2 ∧ Fr h₀ L h' m' ∧ News h₀ L h' [(d2, o2), (d1, o1), (c, oc)]
theorem cut2 {prog : Program} {w : World} {A : Around} {t : Sem Flow} {Q : Flow → Shared → Prop} {E : Value → Shared → Prop} {s : Shared} {h₀ : Heap} {L : Addr} {m : Str → Option Value} {d1 d2 c : Addr} {o1 o2 oc : Obj} (ff : Fr h₀ L s.heap m)
    (nn : News h₀ L s.heap [(d2, o2), (d1, o1), (c, oc)]) (h1 : wpAny (model prog w) A t (P2 prog w d1 o1 d2 c oc h₀ L m s) E s) (h2 : ∀ fl s', P2 prog w d1 o1 d2 c oc h₀ L m s fl s' → Q fl s') : wpAny (model prog w) A t Q E s := wpAny_mono h1 h2 fun _ _ e => e
abbrev keep4 {h₀ h : Heap} {L : Addr} {p0 p1 p2 p3 : Addr × Obj} (_ : Stop (News h₀ L h [p0, p1, p2, p3])) : List (Addr × Obj) := [p1, p3]
theorem keep_two {news : List (Addr × Obj)} {d : Addr} {p q : Addr × Obj} (h1 : p ∈ news) (h2 : p.1 ≠ d) (h3 : q ∈ news) (h4 : q.1 ≠ d) : ∀ x ∈ [p, q], x ∈ news ∧ x.1 ≠ d := fun x hx => by
  rcases List.mem_cons.mp hx with rfl | hx
  · exact ⟨h1, h2⟩
  · rcases List.mem_singleton.mp hx with rfl
    exact ⟨h3, h4⟩
theorem pickS {h₀ h : Heap} {L : Addr} {p0 p1 p2 : Addr × Obj} {r : List (Addr × Obj)} (N : News h₀ L h (p0 :: p1 :: p2 :: r)) : News h₀ L h (p0 :: r) := fun p hp => N p (by
  rcases List.mem_cons.mp hp with rfl | hp
  · exact .head _
  · exact .tail _ (.tail _ (.tail _ hp)))
theorem pickN {h₀ h : Heap} {L : Addr} {p0 p1 : Addr × Obj} {r : List (Addr × Obj)} (N : News h₀ L h (p0 :: p1 :: r)) : News h₀ L h (p0 :: r) := fun p hp => N p (by
  rcases List.mem_cons.mp hp with rfl | hp
  · exact .head _
  · exact .tail _ (.tail _ hp))
theorem pick4 {h₀ h : Heap} {L : Addr} {p0 p1 p2 p3 : Addr × Obj} {r : List (Addr × Obj)} (N : News h₀ L h (p0 :: p1 :: p2 :: p3 :: r)) : News h₀ L h (p0 :: r) := fun p hp => N p (by
  rcases List.mem_cons.mp hp with rfl | hp
  · exact .head _
  · exact .tail _ (.tail _ (.tail _ (.tail _ hp))))
theorem bne_self_no {x : Str} (h : (x != x) = true) : False := by simp at h
theorem ne_self_no {k : Int} (h : k ≠ k) : False := h rfl
theorem near_len {ys ws : List Value} {ks ns : List Int} {i : Nat} {a : Int} (h : IntsAre ys ks) (hl : ys.length ≤ ws.toArray.size) (hw : IntsAre ws (rangeKs a ((i + 0 - Nat.succ 0) / 1 + 1) ++ ns)) (hi : i ≤ 300 ∧ ns.length ≤ 300 := by decide +kernel) : ks.length ≤ 1000 := by
  have e1 := h.length
  have e2 := hw.length
  rw [List.size_toArray] at hl
  rw [List.length_append, rangeKs_length] at e2
  omega
theorem add_small {nr l : List Int} (h : nr.length ≤ 1000) : nr.length + (List.take 8 l).length ≤ sizeLine := by
  rw [sizeLine_eq]
  have := List.length_take_le 8 l
  omega
theorem add_small2 {l : List Int} {a : Int} : (List.take 8 l).length + [a].length ≤ sizeLine := by
  rw [sizeLine_eq]
  have := List.length_take_le 8 l
  simp only [List.length_cons, List.length_nil]
  omega
theorem row_facts {x : Int} {y z : Str} (h : rowOk (x, y, z) = true) : y.length ≤ 100 ∧ z.length + 2 ≤ sizeLine ∧ ∀ w ∈ Txt.split z (Str.ofString " "), w.length ≤ 100 := by
  unfold rowOk at h
  simp only [Bool.and_eq_true, decide_eq_true_eq, List.all_eq_true] at h
  exact ⟨h.1.1, by rw [sizeLine_eq]; omega, h.2⟩
theorem step_size {D : List (PyData × PyData)} {q : Int × Str × Str} {r : List (Int × Str × Str)} (h : r.foldl stepRow (stepRow D q) = D1) : (stepRow D q).length ≤ sizeLine := by
  have := fold_ge r (stepRow D q)
  rw [h, D1_len] at this
  rw [sizeLine_eq]; omega
theorem pick7 {h₀ h : Heap} {L : Addr} {p0 p1 p2 p3 : Addr × Obj} (N : News h₀ L h [p0, p1, p2, p3]) : News h₀ L h [p1, p2, p3] := fun p hp => N p (List.mem_cons_of_mem _ hp)
theorem all2_13 {t1 t2 t3 t4 t5 t6 t7 t8 t9 t10 t11 t12 t13 : Tok} : All2 (fun v (q : Str) => ∃ t, v = Value.str q t) [.str (Str.ofString "") t1, .str (Str.ofString "func") t2, .str (Str.ofString "param") t3, .str (Str.ofString "result") t4, .str (Str.ofString "i32") t5, .str (Str.ofString "i64") t6, .str (Str.ofString "f") t7, .str (Str.ofString "i8") t8, .str (Str.ofString "offset=8") t9, .str (Str.ofString "align=1") t10, .str (Str.ofString "then") t11, .str (Str.ofString "item") t12, .str (Str.ofString "declare") t13] W13 := by
  unfold W13
  dsimp only [List.map]
  repeat' (first | exact All2.nil | refine All2.cons ⟨_, rfl⟩ ?_)
theorem t1 : PySem.Challenge.rw_nm0109_01.Holds := hd (by
  k_with_none
  k_with "exec For Tuple Call cons nil" => (k_here; refine Stop.out ?_)
  k_with "exec For Name Call cons nil" => (k_here; refine Stop.out ?_)
  k_with "exec For Name BinOp cons nil" => (k_here; refine Stop.out ?_)
  k_with "exec For Name List cons nil" => (k_here; refine Stop.out ?_)
  k_with "exec Assign cons ListComp" => (k_here; refine Stop.out ?_)
  k_with "CompEnd" => (refine LCg.CompEnd.intro (by k_asm) (by k_asm) _ (fun p hp => hp) (by with_reducible assumption) (by lcg_src) ?_)
  k_with "CompSrcT" => (k_here; refine Stop.out ?_)
  k_with "call type:list" => (k_here; (with_reducible show wpAny _ _ (call (Value.type _) [Value.ref _]) _ _ _); (rename IsRange _ _ _ _ _ _ _ _ => rgX); (with_unfolding_all refine kll_range (by rfl) (by k_asm) (by k_asm) (by exact rgX) (by decide) (by rfl) (by kll_lit) ?_; k_whole); intro DZ vsZ cZ hZ tkZ FZ NZ l1 hIZ; (try k_lt l1); (try k_sweep))
  k_with "pyIter ref" => (k_here; (with_reducible show wpAny _ _ (pyIter (Value.ref _)) (fun it s₂ => TurnsAt _ _ _ _ _ _ _ _ _ it s₂) _ _); refine Stop.out ?_)
  k_with "call ref" => (k_here; (with_reducible show wpAny _ _ (call (Value.ref 40) _) _ _ _); k_dflt ((with_unfolding_all refine code_law _ _ _ _ _ _ _ (by with_reducible assumption) _ _ _ _ _ _ _ _ _ _ _ _ _ _ _ _ _ (by k_dflt (k_asm)) (by k_dflt (k_asm)) (by k_dflt (k_asm)) (by k_dflt (k_asm)) (by k_dflt (exact rfl)) (by k_dflt (ktr_room)) (by k_dflt (ktr_units)) ?_); intro vZ hZ tkZ hRZ hstZ; refine keep2 (by k_asm) (by k_asm) hstZ ?_; intro FZ NZ; clear hstZ; (try k_sweep); rcases hRZ with ⟨kZ, tZ, eVZ, hcZ, hLZ⟩ | ⟨eVZ, hcZ, hLZ⟩ <;> subst eVZ))
  k_with "call ref" => (k_here; (with_reducible show wpAny _ _ (call (Value.ref 33) _) _ _ _); k_dflt ((with_unfolding_all refine name_law _ _ _ _ _ _ _ _ _ _ _ _ _ _ _ _ _ _ _ _ _ _ _ _ (by k_dflt (k_asm)) (by k_dflt (k_asm)) (by k_dflt (k_asm)) (by k_dflt (k_asm)) (by k_dflt (exact rfl)) (by k_dflt (ktr_room)) (by k_dflt (ktr_units)) ?_); intro vZ hZ tkZ hRZ hstZ; refine keep2 (by k_asm) (by k_asm) hstZ ?_; intro FZ NZ; clear hstZ; (try k_sweep); rcases hRZ with ⟨sZ, tZ, kZ, eVZ, hLZ, hsZ, hcZ, hDZ, hlZ⟩ | ⟨eVZ, hLZ⟩ <;> subst eVZ))
  k_with "call ref" => (k_here; (with_reducible show wpAny _ _ (call (Value.ref 40) _) _ _ _); k_dflt ((with_unfolding_all refine code_law_at _ _ _ _ _ _ _ _ (by with_reducible assumption) (by with_reducible assumption) _ _ _ _ _ _ _ _ _ _ _ _ _ _ _ _ _ (by k_dflt (k_asm)) (by k_dflt (k_asm)) (by k_dflt (k_asm)) (by k_dflt (k_asm)) (by k_dflt (exact rfl)) (by k_dflt (ktr_room)) (by k_dflt (ktr_units)) ?_); intro vZ hZ tkZ hRZ hstZ; refine keep2 (by k_asm) (by k_asm) hstZ ?_; intro FZ NZ; clear hstZ; (try k_sweep); obtain ⟨tZ, eVZ⟩ := hRZ; subst eVZ))
  k_with "call ref" => (k_here; (with_reducible show wpAny _ _ (call (Value.ref 47) _) _ _ _); k_dflt ((with_unfolding_all refine left_law _ _ _ _ _ _ _ _ (by with_reducible assumption) (by with_reducible assumption) _ _ _ _ _ _ _ _ _ _ _ _ _ _ _ _ _ (by k_dflt (k_asm)) (by k_dflt (k_asm)) (by k_dflt (k_asm)) (by k_dflt (k_asm)) (by k_dflt (exact rfl)) (by k_dflt (ktr_room)) (by k_dflt (ktr_units)) ?_); intro vZ hZ tkZ hRZ hstZ; refine keep2 (by k_asm) (by k_asm) hstZ ?_; intro FZ NZ; clear hstZ; (try k_sweep); subst hRZ))
  k_with "call ref" => (k_here; (with_reducible show wpAny _ _ (call (Value.ref 54) _) _ _ _); k_dflt ((with_unfolding_all refine lawList_ok _ _ _ _ _ _ _ _ _ _ _ _ _ _ _ _ _ _ _ _ _ _ (by k_dflt (k_asm)) (by k_dflt (k_asm)) (by k_dflt (k_asm)) (by k_dflt (k_asm)) (by k_dflt (exact rfl)) (by k_dflt (ktr_room)) (by k_dflt (ktr_units)) ?_); intro lZ vsZ hZ tkZ nZ gZ aZ kZ; refine rows_led (by k_asm) (by k_asm) kZ nZ gZ aZ ?_; clear kZ nZ gZ aZ; intro moreZ hlZ hsZ hRZ FZ NZ; (try k_sweep)))
  k_with "getMethod ref" => (k_here; (with_reducible show wpAny _ _ (getMethod (Value.ref _) (Str.ofString "get") _) _ _ _); k_dflt (first | refine getMethod_intTab_get (by k_tabat) ?_ | refine getMethod_strTab_get (by k_tabat) ?_))
  k_with "call builtin:dict.get" => (k_here; k_dflt (first
  | (refine gi_hit (by k_tabat) (by with_reducible assumption) ?_; intro tGZ)
  | (refine gi_miss (by k_tabat) (by with_reducible assumption) ?_)
  | (refine gs_hit (by k_tabat) (by with_reducible assumption) ?_; intro tGZ)
  | (refine gs_miss (by k_tabat) (by with_reducible assumption) ?_)))
  k_with "compareOp In int ref" => (k_here; k_dflt (first
  | (refine ii_hit (by k_tabat) (by with_reducible assumption) ?_)
  | (refine ii_miss (by k_tabat) (by with_reducible assumption) ?_)))
  k_with "subscriptTail" => (k_here; (with_reducible show wpAny _ _ (subscriptTail _ _ (Value.ref _) (Value.int _ _)) _ _ _); k_dflt (refine it_hit (by k_tabat) (by with_reducible assumption) ?_); intro tGZ)
  k_with "subscriptTail" => (k_here; (with_reducible show wpAny _ _ (subscriptTail _ _ (Value.ref _) (Value.str _ _)) _ _ _); k_dflt (refine is_hit (by k_tabat) (by with_reducible assumption) ?_); intro tGZ)
  k_with "binaryOp Add ref ref" => (k_here; (with_reducible show wpAny _ _ (binaryOp _ (Value.ref _) (Value.ref _)) _ _ _); k_dflt (refine kmk_add_ints (by k_asm) (by k_asm) (by kmk_list) (by kmk_list) (by l_ints) (by l_ints) ?_ (by first | exact add_small (by with_reducible assumption) | exact add_small2)); intro DZ wsZ hZ FZ NZ l1 hIZ; (try k_lt l1); (try k_sweep))
  k_with "call type:enumerate" => (k_here; (with_reducible show wpAny _ _ (call (Value.type _) [Value.ref _]) (fun xv s₁ => wpAny _ _ (pyIter xv) (fun it s₂ => TurnsAt _ _ _ _ _ _ _ _ _ it s₂) _ s₁) _ _); refine Stop.out ?_)
  k_with "mine upd" => (first | exact UpdF.head (by first | with_reducible assumption | k_all) | exact UpdF.tail (by (refine neN ?_; (try dsimp only); first | with_reducible assumption | omega)) (by walk_at "mine upd"))
  k_with "mine sub" => (first | exact List.forall_mem_nil _ | (refine List.forall_mem_cons.mpr ⟨?_, ?_⟩; all_goals first | k_mem | walk_at "mine sub"))
  k_with "setItem ref int" => (k_here; k_dflt (refine setItem_K PyProof.V.same_int (intKind_is _ _ _ _) (by k_flat) (by k_asm) (by k_asm) (by walk_at "mine upd") (by k_asm) (by k_asm) ?_ (by with_reducible assumption)); intro hZ oZ FZ NZ hdZ hfZ; (try dsimp only at NZ); (try k_sweep))
  k_with "mine off" => (first | exact Off.refl _ _ | (refine Off.upd ?_ ?_; rotate_left; (simp [fiveNames]; done); walk_at "mine off"))
  k_with "compareOp NotIn str ref" => (k_here; k_dflt (refine notin_strTab (by k_tabat) ?_))
  k_with "setItem ref str" => (k_here; k_dflt (refine setItem_K PyProof.V.same_str (strKind_is _ _ _ _) (by k_flat) (by k_asm) (by k_asm) (by walk_at "mine upd") (by k_asm) (by k_asm) ?_ (by with_reducible assumption)); intro hZ oZ FZ NZ hdZ hfZ; (try dsimp only at NZ); (try k_sweep))
  k_with "call builtin:len" => (k_here; (with_reducible show wpAny _ _ (call (Value.builtin "len") [Value.ref _]) _ _ _); k_dflt (refine len_126 (by kmk_list) (by with_reducible assumption) (by with_reducible assumption) ?_; intro tLZ tkLZ))
  k_with "subscriptTail" => (k_here; (with_reducible show wpAny _ _ (subscriptTail _ _ (Value.ref _) (Value.int (Int.fmod _ _) _)) _ _ _); k_dflt (refine item_126 (by kmk_list) (by with_reducible assumption) (by with_reducible assumption) (by with_reducible assumption) (by exact Int.fmod_nonneg_of_pos _ (by decide)) (by exact Int.fmod_lt_of_pos _ (by decide)) ?_; intro xZ tZ hx0Z hx1Z))
  k_with "call ref" => (k_here; (with_reducible show wpAny _ _ (call (Value.ref 68) _) _ _ _); k_dflt ((with_unfolding_all refine bent_law _ _ _ _ _ _ _ _ _ (by with_reducible assumption) (by with_reducible assumption) _ _ _ _ _ _ _ _ _ _ _ _ _ _ _ _ _ (by k_dflt (k_asm)) (by k_dflt (k_asm)) (by k_dflt (k_asm)) (by k_dflt (k_asm)) (by k_dflt (exact rfl)) (by k_dflt (ktr_room)) (by k_dflt (ktr_units)) ?_); intro vZ hZ tkZ hRZ hstZ; refine keep2 (by k_asm) (by k_asm) hstZ ?_; intro FZ NZ; clear hstZ; (try k_sweep); obtain ⟨yZ, tZ, eVZ, hyZ⟩ := hRZ; subst eVZ))
  k_with "call ref" => (k_here; (with_reducible show wpAny _ _ (call (Value.ref 40) _) _ _ _); k_dflt ((with_unfolding_all refine code_law_none _ _ _ _ _ _ _ (by with_reducible assumption) (by with_reducible assumption) _ _ _ _ _ _ _ _ _ _ _ _ _ _ _ _ _ (by k_dflt (k_asm)) (by k_dflt (k_asm)) (by k_dflt (k_asm)) (by k_dflt (k_asm)) (by k_dflt (exact rfl)) (by k_dflt (ktr_room)) (by k_dflt (ktr_units)) ?_); intro vZ hZ tkZ hRZ hstZ; refine keep2 (by k_asm) (by k_asm) hstZ ?_; intro FZ NZ; clear hstZ; (try k_sweep); subst hRZ))
  k_with "call builtin:str.split" => (k_here; (with_reducible show wpAny _ _ (call (Value.builtin "str.split") _) _ _ _); (refine KSpl.split1 (by k_asm) (by k_asm) (by decide) ?_ (by first | with_reducible assumption | kspl_size)); (intro DZ lZ hZ kZ eZ aZ FZ NZ l1); (try k_lt l1))
  k_with "call builtin:sorted" => (k_here; (with_reducible show wpAny _ _ (call (Value.builtin "sorted") [Value.ref _]) _ _ _); k_dflt (refine sorted_strs_law (by rfl) (by k_asm) (by k_asm) (by k_mem) (by k_asm) (by first | with_reducible assumption | exact ⟨_, by with_reducible assumption, by with_reducible assumption⟩) ?_; intro lZ hZ tkZ vsZ ssZ cZ hSZ hlenZ hallZ FZ NZ l1; (try k_lt l1); (try k_sweep)))
  k_with "call builtin:sorted" => (k_here; (with_reducible show wpAny _ _ (call (Value.builtin "sorted") [Value.ref _]) _ _ _); k_dflt (refine sorted_ints_law (by rfl) (by k_asm) (by k_asm) (by k_mem) (by k_asm) (by with_reducible assumption) ?_; intro lZ hZ tkZ vsZ cZ hIZ FZ NZ l1; (try k_lt l1); (try k_sweep)))
  k_go0
  (all_goals try k_fold)
  (rename List Int => sc)
  (rename World => w)
  k_steps
  rename_i d1 hA o1 lo1 hs1 fs1 hi1 fi1 la d2 hB o2 lo2 hs2 fs2 hi2 fi2 lb D3 hC lc hD hE' hF F N
  unfold Stop
  have NH : Stop _ := N
  refine cut1 F N ?_ ?_
  · with_unfolding_all refine' For_turns F ?_
    k_steps
    unfold Stop
    with_unfolding_all refine' rows_iter3 (d := d1) (o₁ := o1) (keep := keep4 NH) ?hh ?F ?N ?U ?hl ?hs ?hcls ?hc ?hd ?hR ?hD ?hk ?_ ?_
    (case hh => with_unfolding_all rfl)
    (case F => k_asm)
    (case N => k_asm)
    (case U => k_updF)
    (case hl => with_reducible assumption)
    (case hs => with_reducible assumption)
    (case hcls => exact hi1.choose_spec.choose_spec.1.1)
    (case hc => rfl)
    (case hd => rfl)
    (case hR => with_reducible assumption)
    (case hD => exact ⟨_, hi1, fi1⟩)
    (case hk => exact keep_two (by k_mem) (by k_ne) (by k_mem) (by k_ne))
    · intro m' o h tk hoff hD' F' N'
      exact ⟨rfl, h, tk, o, m', rfl, hoff, hD', F', fun p hp => N' p (by revert p; walk_at "mine sub")⟩
    · (repeat (rename _ ∧ _ => lx; clear lx))
      (repeat (rename @LT.lt Nat _ _ _ => lx; clear lx))
      intro rest x y z t1 t2 t3 a o D r m' h tk I io hrest hax hok hoff hT hD' hf F' hio l1 N'
      obtain ⟨c1, c2, c3, c4, c5, rfl⟩ := Off.five hoff
      obtain ⟨kvs, hk, hfp⟩ := hD'
      have hok1 : y.length ≤ 100 := (row_facts hok).1
      have hok2 : z.length + 2 ≤ sizeLine := (row_facts hok).2.1
      have hok3 := (row_facts hok).2.2
      have hsz := step_size hf
      dsimp only
      have l1o := l1
      k_lt l1
      k_steps
      unfold Stop
      (rename Fr _ _ _ _ => lF')
      with_unfolding_all refine' For_turns lF' ?_
      k_steps
      unfold Stop
      (rename List.map _ _ = Txt.split _ _ => eSp)
      (rename StrsAre _ _ => aSp)
      rw [eSp] at aSp
      with_unfolding_all refine' words_iter (d := d1) (o₁ := o) (D₀ := D) x y ?hh ?F ?N ?U ?hm ?hc ?hd ?hR hok3 hsz ?hD ?_ ?_
      (case hh => with_unfolding_all rfl)
      (case F => k_asm)
      (case N => k_asm)
      (case U => walk_at "mine upd")
      (case hm => k_mem)
      (case hc => rfl)
      (case hd => rfl)
      (case hR => exact strsAre_all2 aSp)
      (case hD => exact ⟨kvs, hk, hfp⟩)
      · intro m₂ o₂ h₂ tk₂ hoff₂ hD₂ F₂ N₂
        obtain ⟨e1, e2, rfl⟩ := Off.two hoff₂
        replace N₂ := kti_tail N₂
        dsimp only
        k_steps
        refine ⟨_, _, _, _, rfl, (by k_asm), ?_, ?_, ?_, ⟨o₂, _, rfl, hD₂, hf⟩, ?_⟩
        · exact fun p hp => N₂ p hp
        · exact sep_one (by rfl) l1o
        · k_subL
        · repeat' (first | (with_reducible exact Off.refl _ _) | (refine Off.upd ?_ (by simp [fiveNames])))
      · intro i T t v tv r₂ m₂ o₂ D₂ h₂ tk₂ I₂ io₂ ie₂ hv hDl hoff₂ hT₂ hD₂ hf₂ F₂ hie₂ hio₂ l2 N₂
        obtain ⟨e1, e2, rfl⟩ := Off.two hoff₂
        obtain ⟨kvs₂, hk₂, hfp₂⟩ := hD₂
        dsimp only at N₂ ⊢
        have l2o := l2
        k_lt l2
        k_steps
        refine ⟨_, _, _, _, rfl, (by k_asm), ?_, ?_, ?_, ⟨_, _, rfl, ⟨_, by with_reducible assumption, by with_reducible assumption⟩, hf₂⟩, ?_⟩
        · (rename News _ _ _ _ => NL)
          exact fun p hp => NL p hp
        · exact sep_two (by rfl) l2o
        · k_subL
        · repeat' (first | (with_reducible exact Off.refl _ _) | (refine Off.upd ?_ (by simp [fiveNames])))
  · rintro fl s' ⟨rfl, h1, tk1, o1', m1, rfl, hoff1, hD1, F1, N1⟩
    obtain ⟨c1, c2, c3, c4, c5, rfl⟩ := Off.five hoff1
    clear hoff1 F N hs1 fs1 hi1 fi1
    dsimp only
    k_steps
    unfold Stop
    refine cut2 F1 N1 ?_ ?_
    · with_unfolding_all refine' For_turns F1 ?_
      k_steps
      unfold Stop
      (rename Fr _ _ _ _ => FB)
      (rename News _ _ _ _ => NB)
      (rename IntsAre _ (List.map _ _) => iB)
      obtain ⟨kvs1, hdo1, hdf1⟩ := hD1
      with_unfolding_all refine' codes_loop (d := d2) (o₁ := o2) ?hh ?F NB ?U (List.mem_cons_self ..) rfl rfl iB ⟨_, hs2, fs2⟩ ?_ ?_
      (case hh => with_unfolding_all rfl)
      (case F => k_asm)
      (case U => k_updF)
      · intro m' o h tk hoff hD' F' N'
        exact ⟨rfl, h, tk, o, m', rfl, hoff, hD', F', fun p hp => N' p (List.mem_cons_of_mem _ hp)⟩
      · intro k x tn o D r m' h tk I io hL hx hoff hD' hDl hf F' hio l1 N'
        obtain ⟨c6, rfl⟩ := Off.one hoff
        obtain ⟨kvs, hk, hfp⟩ := hD'
        (try clear FB)
        (try clear NB)
        dsimp only
        k_lt l1
        k_steps
        all_goals first
          | exact ⟨o, D, rfl, ⟨kvs, hk, hfp⟩, by rw [stepC_in (by with_reducible assumption)] at hf; exact hf⟩
          | exact ⟨_, _, rfl, ⟨_, by with_reducible assumption, by with_reducible assumption⟩, by rw [stepC_out (by with_reducible assumption)] at hf; exact hf⟩
          | (repeat' (first | (with_reducible exact Off.refl _ _) | (refine Off.upd ?_ (by simp))))
    · rintro fl s' ⟨rfl, h2, tk2, o2', m2, rfl, hoff2, hD2, F2, N2⟩
      obtain ⟨c6, rfl⟩ := Off.one hoff2
      clear hoff2 F1 N1 hs2 fs2 hi2 fi2
      dsimp only
      k_steps
      unfold Stop
      with_unfolding_all refine LCt.Assign_ListComp_T (F₀ := F2) (by rfl) (by with_unfolding_all rfl) (by with_unfolding_all rfl) (by decide) (by rfl) (by decide) (by rfl) (by rfl) (by rfl) ?_
      k_steps
      unfold Stop
      (rename News _ _ _ _ => NQ)
      have NQ2 := pickS NQ
      clear NQ
      with_unfolding_all refine LCt.CompSrcT.ledger (by rfl) (by k_asm) (by k_asm) (by k_mem) ?hsz ?_
      (case hsz => (rename IntsAre _ (_ ++ _) => iA); have q := iA.length; rw [List.size_toArray, q]; exact Nat.le_of_ble_eq_true rfl)
      intro gH
      refine kci_list (fun l k => if k.fmod 4 = sc.sum.fmod 4 then l ++ [k] else l) (by k_asm) (fun k' t' I' oI' C' oC' D' m' ys' l' h' tk' E' hk' hI' hC' hx' F' N' off' ne' => ?_) ?_ ?_
      · clear ne'
        intro hMark'
        k_steps
      · unfold KPfDone
        intro ys hI hlen
        have hnr := near_len hI hlen (by assumption)
        generalize List.foldl _ [] _ = nr at hI hnr
        k_steps
        unfold Stop
        (rename Fr _ _ _ _ => F3)
        (rename News _ _ _ _ => N3)
        replace N3 := pickN N3
        obtain ⟨kvs1, hdo1, hdf1⟩ := hD1
        obtain ⟨kvs2, hdo2, hdf2⟩ := hD2
        refine cut4 [Str.ofString "code"] F3 (pick7 N3) ?_ ?_
        · with_unfolding_all refine' For_turns F3 ?_
          k_steps
          unfold Stop
          (rename Fr _ _ _ _ => F4)
          (rename News _ _ _ _ => N4)
          (rename IntsAre _ (nr ++ List.take 8 sc) => iA)
          have N5 := pick4 N4
          (try clear N4)
          (try clear N3)
          with_unfolding_all refine' list_iter (fun v (n : Int) => ∃ t, v = Value.int n t) [Str.ofString "code"] (fun _ n' => Same _ n') ?hh ?F N5 (List.mem_cons_self ..) rfl rfl (intsAre_all2 iA) rfl ?_ ?_
          (case hh => with_unfolding_all rfl)
          (case F => k_asm)
          · rintro n' m' h tk rfl hoff F' N'
            exact ⟨rfl, h, tk, m', rfl, hoff, F', fun p hp => N' p (List.mem_cons_of_mem _ hp)⟩
          · rintro v n r n' m' h tk I io ⟨tn, rfl⟩ hj hoff F' hio l1 N'
            unfold Same at hj
            subst hj
            obtain ⟨c7, rfl⟩ := Off.one hoff
            (try clear F4)
            (try clear F3)
            (try clear N5)
            dsimp only
            k_lt l1
            k_steps
            all_goals first
              | exact (rfl : Same _ _)
              | exact (bne_self_no (by with_reducible assumption)).elim
              | exact (ne_self_no (by with_reducible assumption)).elim
              | (repeat' (first | (with_reducible exact Off.refl _ _) | (refine Off.upd ?_ (by simp))))
        · rintro fl s' ⟨rfl, h5, tk5, m5, rfl, hoff5, F5, N5⟩
          obtain ⟨c9, rfl⟩ := Off.one hoff5
          clear hoff5
          (try clear F3)
          (try clear N3)
          dsimp only
          k_steps
          unfold Stop
          (rename Fr _ _ _ _ => F6)
          (rename News _ _ _ _ => N6)
          refine cut4 [Str.ofString "x", Str.ofString "bent"] F6 N6 ?_ ?_
          · with_unfolding_all refine' For_turns F6 ?_
            k_steps
            unfold Stop
            (rename Fr _ _ _ _ => F7)
            (rename News _ _ _ _ => N7)
            (rename IntsAre _ (List.take 8 sc ++ _) => iA)
            have N8 := pick4 N7
            (try clear N7)
            with_unfolding_all refine' list_iter (fun v (n : Int) => ∃ t, v = Value.int n t) [Str.ofString "x", Str.ofString "bent"] (fun _ n' => Same _ n') ?hh ?F N8 (List.mem_cons_self ..) rfl rfl (intsAre_all2 iA) rfl ?_ ?_
            (case hh => with_unfolding_all rfl)
            (case F => k_asm)
            · rintro n' m' h tk rfl hoff F' N'
              exact ⟨rfl, h, tk, m', rfl, hoff, F', fun p hp => N' p (List.mem_cons_of_mem _ hp)⟩
            · rintro v n r n' m' h tk I io ⟨tn, rfl⟩ hj hoff F' hio l1 N'
              unfold Same at hj
              subst hj
              obtain ⟨c7, c8, rfl⟩ := Off.two hoff
              (try clear F6 F7 N8)
              dsimp only
              k_lt l1
              k_steps
              all_goals first
                | exact (rfl : Same _ _)
                | exact (bne_self_no (by with_reducible assumption)).elim
                | exact (ne_self_no (by with_reducible assumption)).elim
                | (repeat' (first | (with_reducible exact Off.refl _ _) | (refine Off.upd ?_ (by simp))))
          · rintro fl s' ⟨rfl, h7, tk7, m7, rfl, hoff7, F7, N7⟩
            obtain ⟨c10, c11, rfl⟩ := Off.two hoff7
            clear hoff7
            (try clear F6 N6)
            dsimp only
            k_steps
            unfold Stop
            have N7' := pick7 N7
            clear N7
            with_reducible refine cut5 [Str.ofString "word"] F7 N7' ?_ ?_
            · generalize hI : Expr.List _ _ = itE
              with_unfolding_all refine' For_turns F7 ?_ ?hs
              (case hs => subst hI; intro _; rfl)
              subst hI
              k_steps
              unfold Stop
              (rename Fr _ _ _ _ => FA)
              (rename News _ _ _ _ => NA)
              skip
              with_unfolding_all refine' list_iter (fun v (q : Str) => (∃ t, v = Value.str q t) ∧ wOk1 q = true) [Str.ofString "word"] (fun _ n' => Same _ n') ?hh ?F NA (List.mem_cons_self ..) rfl rfl ?hR rfl ?_ ?_
              (case hR => exact All2.withMem all2_13 (List.all_eq_true.mp w13_ok))
              (case hh => with_unfolding_all rfl)
              (case F => k_asm)
              · rintro n' m' h tk rfl hoff F' N'
                exact ⟨rfl, h, tk, m', rfl, hoff, F', fun p hp => N' p (List.mem_cons_of_mem _ hp)⟩
              · rintro v q r n' m' h tk I io ⟨⟨tn, rfl⟩, hok⟩ hj hoff F' hio l1 N'
                unfold Same at hj
                subst hj
                obtain ⟨q1, q2, q3⟩ := wOk1_of hok
                obtain ⟨e7, rfl⟩ := Off.one hoff
                (try clear FA)
                (try clear NA)
                (try clear hRR)
                dsimp only
                k_lt l1
                k_steps
                all_goals (try w_report)
                all_goals first
                  | exact (rfl : Same _ _)
                  | (repeat' (first | (with_reducible exact Off.refl _ _) | (refine Off.upd ?_ (by simp))))
            · rintro fl s' ⟨rfl, h8, tk8, m8, rfl, hoff8, F8, N8⟩
              obtain ⟨c12, rfl⟩ := Off.one hoff8
              clear hoff8
              (try clear F7 N7)
              dsimp only
              k_steps
              unfold Stop
              with_reducible refine cut5 [Str.ofString "word"] F8 N8 ?_ ?_
              · with_unfolding_all refine' For_turns F8 ?_
                k_steps
                unfold Stop
                (rename Fr _ _ _ _ => FA)
                (rename News _ _ _ _ => NA)
                (rename List.map _ _ = Txt.split _ _ => eSp)
                (rename StrsAre _ _ => aSp)
                rw [eSp, split_L8 (by decide +kernel)] at aSp
                have hRR := All2.withMem (P := fun q => wOk2 q = true) (strsAre_all2 aSp) (List.all_eq_true.mp l8_ok)
                with_unfolding_all refine' list_iter (fun v (q : Str) => (∃ t, v = Value.str q t) ∧ wOk2 q = true) [Str.ofString "word"] (fun _ n' => Same _ n') ?hh ?F NA (List.mem_cons_self ..) rfl rfl hRR rfl ?_ ?_
                (case hh => with_unfolding_all rfl)
                (case F => k_asm)
                · rintro n' m' h tk rfl hoff F' N'
                  exact ⟨rfl, h, tk, m', rfl, hoff, F', fun p hp => N' p (List.mem_cons_of_mem _ hp)⟩
                · rintro v q r n' m' h tk I io ⟨⟨tn, rfl⟩, hok⟩ hj hoff F' hio l1 N'
                  unfold Same at hj
                  subst hj
                  obtain ⟨q1, q2, q3⟩ := wOk2_of hok
                  obtain ⟨e7, rfl⟩ := Off.one hoff
                  (try clear FA)
                  (try clear NA)
                  (try clear hRR)
                  dsimp only
                  k_lt l1
                  k_steps
                  all_goals (try w_report)
                  all_goals first
                    | exact (rfl : Same _ _)
                    | (repeat' (first | (with_reducible exact Off.refl _ _) | (refine Off.upd ?_ (by simp))))
              · rintro fl s' ⟨rfl, h9, tk9, m9, rfl, hoff9, F9, N9⟩
                obtain ⟨c13, rfl⟩ := Off.one hoff9
                clear hoff9
                (try clear F8 N8)
                dsimp only
                k_steps
      · intro l k
        dsimp only
        split
        · simp
        · omega)
end Mine
end
theorem PySem.Challenge.cw_nm0109_01_holds : PySem.Challenge.rw_nm0109_01.Holds := by
  exact Mine.t1
