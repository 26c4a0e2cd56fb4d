import PyProof.Rows.All
import Wide.All
import OpenK.AllK
import Wide.FinOn
import Lean
import PySem.Challenge.RW_sj0171_01
open PySem PySem.W PyProof.Rows PySem.Calls
set_option Elab.async false
set_option maxRecDepth 100000
set_option maxHeartbeats 8000000
namespace Mine
open_top hd for PySem.Challenge.rw_sj0171_01
abbrev Led := List (Addr × Obj)

structure R where
  i : Int
  a : Int
  p : Int
  d : Int
  b : Int
deriving DecidableEq
def R.dat (r : R) : Dat := .tuple [.int r.i, .int r.a, .int r.p, .int r.d, .int r.b]
def rowsD (rs : List R) : Dat := .list (rs.map R.dat)
def pairD (x : Int × Int) : Dat := .tuple [.int x.1, .int x.2]
def intsD (ns : List Int) : Dat := .list (ns.map Dat.int)
def optD : Option R → Dat
  | none => .none
  | some r => r.dat

/-- the ledger has grown: what stood stands, and what is new lies elsewhere -/
def Grow (n n' : Led) : Prop := (∀ p ∈ n, p ∈ n') ∧ ∀ p ∈ n', p ∈ n ∨ ∀ q ∈ n, p.1 ≠ q.1
theorem Grow.refl {n : Led} : Grow n n := ⟨fun _ h => h, fun _ h => .inl h⟩
theorem Grow.trans {a b c : Led} (x : Grow a b) (y : Grow b c) : Grow a c := by
  refine ⟨fun p h => y.1 p (x.1 p h), fun p h => ?_⟩
  rcases y.2 p h with h | h
  · exact x.2 p h
  · exact .inr fun q hq => h q (x.1 q hq)
theorem Grow.cons {a b : Led} {x : Addr} {o : Obj} (h : ∀ p ∈ b, p.1 ≠ x) (y : Grow a b) : Grow a ((x, o) :: b) :=
  Grow.trans y ⟨fun _ h => .tail _ h, fun p hp => by
    rcases List.mem_cons.mp hp with rfl | hp
    · exact .inr fun q hq e => h q hq e.symm
    · exact .inl hp⟩
theorem Grow.app {a b tl : Led} (h : ∀ p ∈ tl, ∀ q ∈ b, p.1 ≠ q.1) (y : Grow a b) : Grow a (tl ++ b) :=
  Grow.trans y ⟨fun _ h => List.mem_append.mpr (.inr h), fun p hp => by
    rcases List.mem_append.mp hp with hp | hp
    · exact .inr fun q hq => h p hp q hq
    · exact .inl hp⟩
theorem ne_allLt {x : Addr} {b : Led} (h : AllLt x b) : ∀ p ∈ b, p.1 ≠ x := by
  induction b with
  | nil => intro p hp; cases hp
  | cons q r ih =>
    intro p hp
    rcases List.mem_cons.mp hp with rfl | hp
    · exact Nat.ne_of_lt h.1
    · exact ih h.2 p hp

def Says (f : Addr) (n : Nat) (args : List Dat) (res : Dat) : Prop :=
  ∀ (w : World) (p : Program) (loose : List Str) (mean : ExcName → Option Value) (mg mb : Str → Option Value)
    (dp un : Nat) (gd : Option (List Code)) (cn : Str) (cs : Scope) (a : Addr) (ccd : Value) (cl : List (Str × Addr)) (outer : List Env) (A₀ : Around) (base h₀ : Heap) (L : Addr) (m : Str → Option Value) (news : Led) (s : Shared) (vs : List Value)
    (Q E : Value → Shared → Prop),
    Below A₀ base outer h₀ → Fr h₀ L s.heap m → (hd.heap_39 w.params).In h₀ → News h₀ L s.heap news → Top p loose mean mg mb h₀ → cs.kind = .function → DatAll news vs args → dp + n < 900 → un + 100 * n < 9000 →
    (∀ r tl h' tk', InElt s.heap h' → News h₀ L h' tl → (∀ p ∈ tl, s.heap.get? p.1 = none) → DatIn (tl ++ news) r res → Q r { s with heap := h', toks := tk' }) →
    wpAny (model PySem.Challenge.rw_sj0171_01.row.prog w) (ktrTop dp un gd cn cs L a ccd cl outer) (call (.ref f) vs) Q E s

section
variable {f : Addr} {n : Nat} {args : List Dat} {w : World} {p : Program} {loose : List Str} {mean : ExcName → Option Value} {mg mb : Str → Option Value}
    {dp un : Nat} {gd : Option (List Code)} {cn : Str} {cs : Scope} {a : Addr} {ccd : Value} {cl : List (Str × Addr)} {outer : List Env} {A₀ : Around} {base h₀ : Heap} {L : Addr} {m : Str → Option Value} {news sub : Led} {s : Shared} {vs : List Value}
    {Q E : Value → Shared → Prop}
theorem says_dat {res : Dat} (C : Says f n args res) (B : Below A₀ base outer h₀) (F : Fr h₀ L s.heap m) (X : (hd.heap_39 w.params).In h₀) (N : News h₀ L s.heap news) (T : Top p loose mean mg mb h₀) (hk : cs.kind = .function)
    (D : DatAll sub vs args) (hs : ∀ p ∈ sub, p ∈ news) (hd : dp + n < 900) (hu : un + 100 * n < 9000)
    (h : ∀ r tl h' tk', Fr h₀ L h' m → News h₀ L h' (tl ++ news) → (∀ p ∈ tl, ∀ q ∈ news, p.1 ≠ q.1) → DatIn (tl ++ sub) r res → Q r { s with heap := h', toks := tk' }) :
    wpAny (model PySem.Challenge.rw_sj0171_01.row.prog w) (ktrTop dp un gd cn cs L a ccd cl outer) (call (.ref f) vs) Q E s := by
  refine C _ _ _ _ _ _ _ _ _ _ _ _ _ _ _ _ _ _ _ _ sub _ _ _ _ B F X (fun p hp => N p (hs p hp)) T hk D hd hu fun r tl h' tk' hE hN hO hD => ?_
  refine h r tl h' tk' (F.keeps hE) (fun p hp => ?_) (fun p hp q hq e => ?_) hD
  · rcases List.mem_append.mp hp with hp | hp
    · exact hN p hp
    · exact N.grown hE p hp
  · have h1 := hO p hp
    have h2 := (N q hq).1
    rw [e, h2] at h1
    cases h1
theorem says_bool {b : Bool} (C : Says f n args (.bool b)) (B : Below A₀ base outer h₀) (F : Fr h₀ L s.heap m) (X : (hd.heap_39 w.params).In h₀) (N : News h₀ L s.heap news) (T : Top p loose mean mg mb h₀) (hk : cs.kind = .function)
    (D : DatAll sub vs args) (hs : ∀ p ∈ sub, p ∈ news) (hd : dp + n < 900) (hu : un + 100 * n < 9000)
    (h : ∀ h' tk', Fr h₀ L h' m → News h₀ L h' news → Q (.bool b) { s with heap := h', toks := tk' }) :
    wpAny (model PySem.Challenge.rw_sj0171_01.row.prog w) (ktrTop dp un gd cn cs L a ccd cl outer) (call (.ref f) vs) Q E s := by
  refine says_dat C B F X N T hk D hs hd hu fun r tl h' tk' F' N' _ hD => ?_
  cases hD
  exact h _ _ F' fun p hp => N' p (List.mem_append.mpr (.inr hp))
theorem says_int {b : Int} (C : Says f n args (.int b)) (B : Below A₀ base outer h₀) (F : Fr h₀ L s.heap m) (X : (hd.heap_39 w.params).In h₀) (N : News h₀ L s.heap news) (T : Top p loose mean mg mb h₀) (hk : cs.kind = .function)
    (D : DatAll sub vs args) (hs : ∀ p ∈ sub, p ∈ news) (hd : dp + n < 900) (hu : un + 100 * n < 9000)
    (h : ∀ t h' tk', Fr h₀ L h' m → News h₀ L h' news → Q (.int b t) { s with heap := h', toks := tk' }) :
    wpAny (model PySem.Challenge.rw_sj0171_01.row.prog w) (ktrTop dp un gd cn cs L a ccd cl outer) (call (.ref f) vs) Q E s := by
  refine says_dat C B F X N T hk D hs hd hu fun r tl h' tk' F' N' _ hD => ?_
  cases hD
  exact h _ _ _ F' fun p hp => N' p (List.mem_append.mpr (.inr hp))

theorem fin_dat {res : Dat} {g h'' : Heap} {L' : Addr} {m'' : Str → Option Value} {nwE nwQ : Led} {r : Value} {tk : Nat}
    (hret : ∀ r tl h' tk', InElt s.heap h' → News h₀ L h' tl → (∀ p ∈ tl, s.heap.get? p.1 = none) → DatIn (tl ++ news) r res → Q r { s with heap := h', toks := tk' })
    (kG : GSub s.heap g (news.map (·.1))) (N : News h₀ L s.heap news) (F'' : Fr g L' h'' m'') (N'' : News g L' h'' nwE) (kN : News h₀ L h'' nwE) (G : Grow news nwQ) (hQ : ∀ p ∈ nwQ, p ∈ nwE) (D : DatIn nwQ r res) :
    Q r { s with heap := h'', toks := tk } := by
  have hE := elt_after (InElt.start _) kG N F'' N'' fun p hp => hQ p (G.1 p hp)
  refine hret r (nwQ.filter fun p => (s.heap.get? p.1).isNone) h'' tk hE (fun p hp => kN p (hQ p (List.mem_filter.mp hp).1)) (fun p hp => by simpa using (List.mem_filter.mp hp).2) (D.mono fun p hp => ?_)
  rcases G.2 p hp with h | h
  · exact List.mem_append.mpr (.inr h)
  · refine List.mem_append.mpr (.inl (List.mem_filter.mpr ⟨hp, ?_⟩))
    cases e : s.heap.get? p.1 with
    | none => rfl
    | some o =>
      exfalso
      have h1 := kG p.1 o e (fun hm => by
        obtain ⟨q, hq, e⟩ := List.mem_map.mp hm
        exact h q hq e.symm)
      have h2 := (N'' p (hQ p hp)).2.2
      rw [h1] at h2
      cases h2
end

theorem room_d {dp n : Nat} (h : dp + n < 900) : dp < recursionLimit := by
  show dp < 1000
  omega
theorem room_u {un n : Nat} (h : un + 100 * n < 9000) : un + 64 < cLine := by
  show un + 64 < 9900
  omega

theorem all1 {news : Led} {vs : List Value} {d : Dat} (h : DatAll news vs [d]) : ∃ v, vs = [v] ∧ DatIn news v d := by
  cases h with
  | cons h r => cases r; exact ⟨_, rfl, h⟩
theorem all2 {news : Led} {vs : List Value} {d e : Dat} (h : DatAll news vs [d, e]) : ∃ v w, vs = [v, w] ∧ DatIn news v d ∧ DatIn news w e := by
  cases h with
  | cons h r => obtain ⟨w, rfl, hw⟩ := all1 r; exact ⟨_, _, rfl, h, hw⟩
theorem all3 {news : Led} {vs : List Value} {d e f : Dat} (h : DatAll news vs [d, e, f]) : ∃ v w x, vs = [v, w, x] ∧ DatIn news v d ∧ DatIn news w e ∧ DatIn news x f := by
  cases h with
  | cons h r => obtain ⟨w, x, rfl, hw, hx⟩ := all2 r; exact ⟨_, _, _, rfl, h, hw, hx⟩
theorem all4 {news : Led} {vs : List Value} {d e f g : Dat} (h : DatAll news vs [d, e, f, g]) : ∃ v w x y, vs = [v, w, x, y] ∧ DatIn news v d ∧ DatIn news w e ∧ DatIn news x f ∧ DatIn news y g := by
  cases h with
  | cons h r => obtain ⟨w, x, y, rfl, hw, hx, hy⟩ := all3 r; exact ⟨_, _, _, _, rfl, h, hw, hx, hy⟩
theorem int_inv {news : Led} {v : Value} {n : Int} (h : DatIn news v (.int n)) : ∃ t, v = .int n t := by
  cases h; exact ⟨_, rfl⟩
theorem bool_inv {news : Led} {v : Value} {n : Bool} (h : DatIn news v (.bool n)) : v = .bool n := by
  cases h; rfl
theorem none_inv {news : Led} {v : Value} (h : DatIn news v .none) : v = .none := by
  cases h; rfl
theorem row_inv {news : Led} {v : Value} {r : R} (h : DatIn news v r.dat) : ∃ a n t0 t1 t2 t3 t4, v = .ref a ∧
    (a, ({ cls := .type "tuple", data := .seq [.int r.i t0, .int r.a t1, .int r.p t2, .int r.d t3, .int r.b t4].toArray n } : Obj)) ∈ news := by
  unfold R.dat at h
  cases h with
  | tuple hm hr =>
    cases hr with
    | cons h0 hr =>
      cases hr with
      | cons h1 hr =>
        obtain ⟨x, y, z, rfl, h2, h3, h4⟩ := all3 hr
        obtain ⟨_, rfl⟩ := int_inv h0
        obtain ⟨_, rfl⟩ := int_inv h1
        obtain ⟨_, rfl⟩ := int_inv h2
        obtain ⟨_, rfl⟩ := int_inv h3
        obtain ⟨_, rfl⟩ := int_inv h4
        exact ⟨_, _, _, _, _, _, _, rfl, hm⟩
theorem pair_inv {news : Led} {v : Value} {x : Int × Int} (h : DatIn news v (pairD x)) : ∃ a n t0 t1, v = .ref a ∧
    (a, ({ cls := .type "tuple", data := .seq [.int x.1 t0, .int x.2 t1].toArray n } : Obj)) ∈ news := by
  unfold pairD at h
  cases h with
  | tuple hm hr =>
    obtain ⟨x, y, rfl, h2, h3⟩ := all2 hr
    obtain ⟨_, rfl⟩ := int_inv h2
    obtain ⟨_, rfl⟩ := int_inv h3
    exact ⟨_, _, _, _, rfl, hm⟩
theorem list_inv {news : Led} {v : Value} {ds : List Dat} (h : DatIn news v (.list ds)) : ∃ a us n, v = .ref a ∧ (a, listOf us.toArray n) ∈ news ∧ DatAll news us ds := by
  cases h with
  | list hm hr => exact ⟨_, _, _, rfl, hm, hr⟩
theorem datAll_get {news : Led} {us : List Value} : ∀ {ds : List Dat} {i : Nat} {v : Value}, DatAll news us ds → us[i]? = some v → ∃ d, ds[i]? = some d ∧ DatIn news v d := by
  induction us with
  | nil => intro ds i v _ h; simp at h
  | cons u us ih =>
    intro ds i v h e
    cases h with
    | cons h r =>
      cases i with
      | zero =>
        simp only [List.getElem?_cons_zero, Option.some.injEq] at e
        exact ⟨_, by simp, e ▸ h⟩
      | succ i =>
        simp only [List.getElem?_cons_succ] at e ⊢
        exact ih r e
section
variable {prog : Program} {w : World} {A₀ A : Around} {s : Shared} {base h₀ : Heap} {outer : List Env} {L : Addr} {m : Str → Option Value} {env : Env} {news : List (Addr × Obj)}
theorem code_z {K : Frag} {p : Program} {loose : List Str} {mean : ExcName → Option Value} {mg mb : Str → Option Value} {R : Result → Shared → Prop} {name qual : Str} {params : Arguments} {body : List Stmt} {scope : Scope} {dV kV doc pm cdv ct oc : Value} {an od : Option Addr} {osl : Array (Option Value)} {f : Addr} {vs : List Value} {names : List Str}
    (B : Below A₀ base outer h₀) (F : Fr h₀ L s.heap m) (X₀ : K.In h₀) (N : News h₀ L s.heap news) (T : Top p loose mean mg mb h₀) (hA : A.frames = some (env :: outer)) (hf : env.frame = some L) (hke : env.scope.kind = .function)
    (ho : K.lookup f = some ⟨oc, od, .func (fnOf name qual params body scope dV kV doc pm an cdv ct), osl⟩) (hcd : codeIn K cdv qual = true) (hroom : A.depth < recursionLimit)
    (_hnames : params.args.map (·.arg) = names) (hbind : bindArgs (fnOf name qual params body scope dV kV doc pm an cdv ct) ⟨vs, []⟩ = pure (names.zip vs)) (hloc : ∀ y ∈ names.zip vs, scope.names.lookup y.1 = some .local)
    (h : ∀ g L' h₁, Fr h₀ L g m → Fr g L' h₁ (fun y => (names.zip vs).reverse.lookup y) → News g L' h₁ news → Below A base (env :: outer) g → K.In g → Top p loose mean mg mb g → GSub s.heap g (news.map (·.1)) →
      wpAny (model prog w) (A.deeper (envOf qual scope L' f cdv)) (execs body (envOf qual scope L' f cdv))
        (fun fl s' => LeaveK h₀ L m g R (match fl with | .ret v => v | _ => .none) s')
        (fun e s' => wpAny (model prog w) (A.deeper (envOf qual scope L' f cdv)) (leaving (envOf qual scope L' f cdv) e) (fun _ s'' => R (.error e) s'') (fun e' s'' => R (.error e') s'') s')
        { s with heap := h₁, toks := s.toks + (names.zip vs).length })
    (hco : scope.isCoroutine = false) (hgen : scope.isGenerator = false) (hk : scope.kind = .function)
    (hcell : ∀ x ∈ scope.names, x.2 ≠ .cell) : codeAny (model prog w) A (.call (.ref f) ⟨vs, []⟩) R s :=
  code_defG B F X₀ N T hA hf hke ho hcd hroom (BindsTo.of_eq hbind) hloc h hco hgen hk hcell
end

theorem ne_lt {x : Addr} {b : Led} (h : ∀ p ∈ b, p.1 < x) : ∀ p ∈ b, p.1 ≠ x := fun p hp => Nat.ne_of_lt (h p hp)

section
open LCg LCt
def CEnd (h₀ : Heap) (L : Addr) (m : Str → Option Value) (s₁ : Shared) (I : Addr) (oI : Obj) (C : Addr) (oC : Obj) (D : Addr) (oD : Obj) (nw : Led) (P : Value → Led → Prop) (y : Value) (s₂ : Shared) : Prop :=
  LCg.CompEnd h₀ L m s₁ I oI C oC D oD (Grow nw) P y s₂
theorem CEnd.same {h₀ : Heap} {L I C D : Addr} {m : Str → Option Value} {s₁ : Shared} {oI oC oD : Obj} {nw : Led} {P : Value → Led → Prop} {y : Value} {h' : Heap} {tk : Nat}
    (F : Fr h₀ L h' m) (N : News h₀ L h' ((I, oI) :: (C, oC) :: (D, oD) :: nw)) (off : Off3 I C D nw) (r : P y nw) : CEnd h₀ L m s₁ I oI C oC D oD nw P y { s₁ with heap := h', toks := tk } :=
  LCg.CompEnd.intro F N nw (fun _ h => h) off Grow.refl r
theorem CEnd.one {h₀ : Heap} {L I C D a : Addr} {m : Str → Option Value} {s₁ : Shared} {oI oC oD o : Obj} {nw : Led} {P : Value → Led → Prop} {y : Value} {h' : Heap} {tk : Nat}
    (F : Fr h₀ L h' m) (N : News h₀ L h' ((a, o) :: (I, oI) :: (C, oC) :: (D, oD) :: nw)) (off : Off3 I C D nw) (ha : ∀ p ∈ (I, oI) :: (C, oC) :: (D, oD) :: nw, p.1 ≠ a) (r : P y ((a, o) :: nw)) : CEnd h₀ L m s₁ I oI C oC D oD nw P y { s₁ with heap := h', toks := tk } := by
  refine LCg.CompEnd.intro F N ((a, o) :: nw) (fun p hp => ?_) ⟨⟨?_, ?_, ?_⟩, off⟩ (Grow.cons (fun p hp => ha p (.tail _ (.tail _ (.tail _ hp)))) Grow.refl) r
  · simp only [List.mem_cons] at hp ⊢
    rcases hp with h | h | h | h | h <;> simp [h]
  · exact fun e => ha _ (.head _) e.symm
  · exact fun e => ha _ (.tail _ (.head _)) e.symm
  · exact fun e => ha _ (.tail _ (.tail _ (.head _))) e.symm
def CTurn (Yes No : Shared → Prop) (keep ok : Bool) (s' : Shared) : Prop := ok = keep ∧ (keep = true → Yes s') ∧ (keep = false → No s')
theorem CTurn.intro {Yes No : Shared → Prop} {keep ok : Bool} {s' : Shared} (e : ok = keep) (y : keep = true → Yes s') (n : keep = false → No s') : CTurn Yes No keep ok s' := ⟨e, y, n⟩

variable {prog : Program} {w : World} {A : Around} {h₀ : Heap} {L : Addr} {m : Str → Option Value} {env : Env} {ct elt : Expr} {x : Str} {scope : Scope} {cl : List (Str × Addr)} {s : Shared} {Fin : List Value → Led → Prop} {news : Led}
theorem comp_T {α : Type} (dat : α → Dat) (keep : α → Bool) (mk : α → Dat) {xs : List α} {us : List Value} {k : Nat} {ax : Addr} (hD : DatAll news us (xs.map dat)) (hm : (ax, listOf us.toArray k) ∈ news)
    (turn : ∀ x0 ∈ xs, ∀ v I oI C oC D m₂ ys nw h tk (E' : Value → Shared → Prop), DatIn nw v (dat x0) → Grow news nw → NsObj oC m₂ → m₂ x = some v → Fr h₀ L h m → News h₀ L h ((I, oI) :: (C, oC) :: (D, lst ys) :: nw) → Off3 I C D nw → ((@Ne Nat I C) ∧ (@Ne Nat I D) ∧ (@Ne Nat C D)) →
      wpAny (model prog w) A (isTrue ct (compEnvC scope cl C env) (eval ct (compEnvC scope cl C env)))
        (CTurn (fun s' => wpAny (model prog w) A (eval elt (compEnvC scope cl C env)) (CEnd h₀ L m { s with heap := h, toks := tk } I oI C oC D (lst ys) nw (fun y nw' => DatIn nw' y (mk x0))) E' s')
          (fun s' => CEnd h₀ L m { s with heap := h, toks := tk } I oI C oC D (lst ys) nw (fun _ _ => True) Value.none s') (keep x0)) E' { s with heap := h, toks := tk })
    (fin : ∀ ys nw, DatAll nw ys ((xs.filter keep).map mk) → ys.length ≤ xs.length → Grow news nw → Fin ys nw) :
    CompRestT prog w A h₀ L m env ct elt x scope cl s (SrcAt h₀ ax us.toArray) (fun i v => us.toArray[i]? = some v) Fin us.toArray.size 0 [] news := by
  have hlen : us.toArray.size = xs.length := by rw [List.size_toArray, hD.length, List.length_map]
  rw [hlen]
  have key : ∀ (j i : Nat) (ys : List Value) (nw : Led), i + j = xs.length → DatAll nw ys (((xs.take i).filter keep).map mk) → Grow news nw →
      CompRestT prog w A h₀ L m env ct elt x scope cl s (SrcAt h₀ ax us.toArray) (fun i v => us.toArray[i]? = some v) Fin j i ys nw := by
    intro j
    induction j with
    | zero =>
      intro i ys nw hi hy G
      have e : i = xs.length := by omega
      subst e
      rw [List.take_length] at hy
      refine CompRestT.zero (fin ys nw hy ?_ G)
      rw [hy.length, List.length_map]
      exact List.length_filter_le _ _
    | succ j ih =>
      intro i ys nw hi hy G
      refine CompRestT.succ ?_
      intro v I oI C oC D m₂ h tk E' hv hC hx F N off ne
      have hil : i < xs.length := by omega
      have hv' : us[i]? = some v := by simpa using hv
      obtain ⟨d, hd, hDv⟩ := datAll_get hD hv'
      rw [List.getElem?_map, List.getElem?_eq_getElem hil] at hd
      simp only [Option.map_some, Option.some.injEq] at hd
      subst hd
      have hs : xs.take (i + 1) = xs.take i ++ [xs[i]] := by rw [List.take_add_one, List.getElem?_eq_getElem hil]; rfl
      refine wpAny_mono (turn xs[i] (List.getElem_mem hil) v I oI C oC D m₂ ys nw h tk E' (hDv.mono G.1) G hC hx F N off ne) (fun b s₂ hq => ?_) fun _ _ e => e
      obtain ⟨e, hy1, hn1⟩ := hq
      cases hk : keep xs[i] with
      | true =>
        rw [hk] at e
        subst e
        simp only [if_true]
        refine wpAny_mono (hy1 hk) (fun y s₃ hr => ?_) fun _ _ e => e
        obtain ⟨h', tk', nw', e', F', N', off', G', hP⟩ := hr
        refine ⟨h', tk', nw', e', F', N', off', .inr ⟨_, G'.1 _ (G.1 _ hm), rfl, _, rfl⟩, ih (i + 1) _ nw' (by omega) ?_ (G.trans G')⟩
        rw [hs, List.filter_append, List.map_append]
        refine DatAll.append (hy.mono G'.1) ?_
        simp only [List.filter_cons, hk, if_true, List.filter_nil, List.map_cons, List.map_nil]
        exact .cons hP .nil
      | false =>
        rw [hk] at e
        subst e
        simp only [Bool.false_eq_true, if_false]
        obtain ⟨h', tk', nw', e', F', N', off', G', _⟩ := hn1 hk
        refine ⟨h', tk', nw', e', F', N', off', .inr ⟨_, G'.1 _ (G.1 _ hm), rfl, _, rfl⟩, ih (i + 1) _ nw' (by omega) ?_ (G.trans G')⟩
        rw [hs, List.filter_append, List.map_append]
        simp only [List.filter_cons, hk, Bool.false_eq_true, if_false, List.filter_nil, List.map_nil, List.append_nil]
        exact hy.mono G'.1
  exact key xs.length 0 [] news (by omega) (by simp only [List.take_zero, List.filter_nil, List.map_nil]; exact .nil) Grow.refl

theorem comp_U {α : Type} (dat : α → Dat) (mk : α → Dat) {xs : List α} {us : List Value} {k : Nat} {ax : Addr} (hD : DatAll news us (xs.map dat)) (hm : (ax, listOf us.toArray k) ∈ news)
    (turn : ∀ x0 ∈ xs, ∀ v I oI C oC D m₂ ys nw h tk (E' : Value → Shared → Prop), DatIn nw v (dat x0) → Grow news nw → NsObj oC m₂ → m₂ x = some v → Fr h₀ L h m → News h₀ L h ((I, oI) :: (C, oC) :: (D, lst ys) :: nw) → Off3 I C D nw → ((@Ne Nat I C) ∧ (@Ne Nat I D) ∧ (@Ne Nat C D)) →
      wpAny (model prog w) A (eval elt (compEnvC scope cl C env)) (CEnd h₀ L m { s with heap := h, toks := tk } I oI C oC D (lst ys) nw (fun y nw' => DatIn nw' y (mk x0))) E' { s with heap := h, toks := tk })
    (fin : ∀ ys nw, DatAll nw ys (xs.map mk) → ys.length = xs.length → Grow news nw → Fin ys nw) :
    CompRest prog w A h₀ L m env elt x scope cl s (SrcAt h₀ ax us.toArray) (fun i v => us.toArray[i]? = some v) Fin us.toArray.size 0 [] news := by
  have hlen : us.toArray.size = xs.length := by rw [List.size_toArray, hD.length, List.length_map]
  rw [hlen]
  have key : ∀ (j i : Nat) (ys : List Value) (nw : Led), i + j = xs.length → DatAll nw ys ((xs.take i).map mk) → Grow news nw →
      CompRest prog w A h₀ L m env elt x scope cl s (SrcAt h₀ ax us.toArray) (fun i v => us.toArray[i]? = some v) Fin j i ys nw := by
    intro j
    induction j with
    | zero =>
      intro i ys nw hi hy G
      have e : i = xs.length := by omega
      subst e
      rw [List.take_length] at hy
      refine CompRest.zero (fin ys nw hy ?_ G)
      rw [hy.length, List.length_map]
    | succ j ih =>
      intro i ys nw hi hy G
      refine CompRest.succ ?_
      intro v I oI C oC D m₂ h tk E' hv hC hx F N off ne
      have hil : i < xs.length := by omega
      have hv' : us[i]? = some v := by simpa using hv
      obtain ⟨d, hd, hDv⟩ := datAll_get hD hv'
      rw [List.getElem?_map, List.getElem?_eq_getElem hil] at hd
      simp only [Option.map_some, Option.some.injEq] at hd
      subst hd
      have hs : xs.take (i + 1) = xs.take i ++ [xs[i]] := by rw [List.take_add_one, List.getElem?_eq_getElem hil]; rfl
      refine wpAny_mono (turn xs[i] (List.getElem_mem hil) v I oI C oC D m₂ ys nw h tk E' (hDv.mono G.1) G hC hx F N off ne) (fun y s₃ hr => ?_) fun _ _ e => e
      obtain ⟨h', tk', nw', e', F', N', off', G', hP⟩ := hr
      refine ⟨h', tk', nw', e', F', N', off', .inr ⟨_, G'.1 _ (G.1 _ hm), rfl, _, rfl⟩, ih (i + 1) _ nw' (by omega) ?_ (G.trans G')⟩
      rw [hs, List.map_append]
      exact DatAll.append (hy.mono G'.1) (.cons hP .nil)
  exact key xs.length 0 [] news (by omega) (by simp only [List.take_zero, List.map_nil]; exact .nil) Grow.refl
end
theorem size_le {us : List Value} {k : Nat} (h : us.length ≤ k) (hk : k ≤ 1000 := by decide) : us.toArray.size ≤ sizeLine := by
  rw [PySem.sizeLine_eq, List.size_toArray]
  omega
theorem ne_off1 {D : Addr} : ∀ {b : Led}, LCg.Off1 D b → ∀ p ∈ b, p.1 ≠ D := by
  intro b
  induction b with
  | nil => intro _ p hp; cases hp
  | cons q r ih =>
    intro h p hp
    rcases List.mem_cons.mp hp with rfl | hp
    · exact h.1
    · exact ih h.2 p hp
section
variable {prog : Program} {w : World} {A : Around} {E : Value → Shared → Prop} {s : Shared} {env : Env} {h₀ : Heap} {x : Str} {body : List Stmt} {Q : Flow → Shared → Prop}
def TEnd (h₀ : Heap) (L : Addr) (own nx : Led) (I : (Str → Option Value) → Led → Prop) (s₁ : Shared) (Q : Flow → Shared → Prop) (f : Flow) (s₂ : Shared) : Prop :=
  match f with
  | .ret v => Q (.ret v) s₂
  | .brk => Q .next s₂
  | _ => ∃ h' tk m' nx', s₂ = { s₁ with heap := h', toks := tk } ∧ Fr h₀ L h' m' ∧ News h₀ L h' (nx' ++ own) ∧ OwnOff own (nx'.map (·.1)) ∧ Grow nx nx' ∧ I m' nx'
theorem TEnd.next {L : Addr} {own nx all : Led} {I : (Str → Option Value) → Led → Prop} {s₁ : Shared} {h' : Heap} {tk : Nat} {m' : Str → Option Value} (nx' : Led) (F : Fr h₀ L h' m') (N : News h₀ L h' all) (hs : ∀ p ∈ nx' ++ own, p ∈ all)
    (off : OwnOff own (nx'.map (·.1))) (G : Grow nx nx') (i : I m' nx') : TEnd h₀ L own nx I s₁ Q .next { s₁ with heap := h', toks := tk } := ⟨h', tk, m', nx', rfl, F, fun p hp => N p (hs p hp), off, G, i⟩
theorem TEnd.ret {L : Addr} {own nx : Led} {I : (Str → Option Value) → Led → Prop} {s₁ s₂ : Shared} {v : Value} (h : Q (.ret v) s₂) : TEnd h₀ L own nx I s₁ Q (.ret v) s₂ := h

theorem for_list {α : Type} (dat : α → Dat) {xs : List α} {l : Addr} {us : List Value} {nn : Nat} {m₀ : Str → Option Value} {news : Led} {L : Addr} (I : Nat → (Str → Option Value) → Led → Prop)
    (hD : DatAll news us (xs.map dat)) (hm : (l, listOf us.toArray nn) ∈ news) (hh : A.handled = none) (hL : env.locals = L) (F : Fr h₀ L s.heap m₀) (N : News h₀ L s.heap news) (hj : I 0 m₀ news)
    (turn : ∀ i x0 v m₁ nx h tk own, xs[i]? = some x0 → DatIn nx v (dat x0) → Grow news nx → I i m₁ nx → OwnOff own (nx.map (·.1)) → Fr h₀ L h (fun y => if y = x then some v else m₁ y) → News h₀ L h (nx ++ own) →
      wpAny (model prog w) A (execs body env) (TEnd h₀ L own nx (I (i + 1)) { s with heap := h, toks := tk } Q) E { s with heap := h, toks := tk })
    (done : ∀ m₁ nx h tk, I xs.length m₁ nx → Grow news nx → Fr h₀ L h m₁ → News h₀ L h nx → Q .next { s with heap := h, toks := tk }) :
    wpAny (model prog w) A (pyIter (.ref l)) (fun it s₂ => LoopAtV prog w A h₀ env x body Q E it s₂) E s := by
  subst hL
  have hlen : us.length = xs.length := by rw [hD.length, List.length_map]
  refine kdl_iter (fun i m nx => Grow news nx ∧ I i m nx) hh hm F N ⟨Grow.refl, hj⟩ ?_ ?_
  · rintro i v m₁ nx h tk own hv hoff _ ⟨G, hi⟩ F₁ N₁
    obtain ⟨d, hd, hDv⟩ := datAll_get hD hv
    rw [List.getElem?_map] at hd
    cases hx : xs[i]? with
    | none => rw [hx] at hd; cases hd
    | some x0 =>
      rw [hx] at hd
      simp only [Option.map_some, Option.some.injEq] at hd
      subst hd
      refine wpAny_mono (turn i x0 v m₁ nx h tk own hx (hDv.mono G.1) G hi hoff F₁ N₁) (fun f s₂ hq => ?_) fun _ _ e => e
      cases f with
      | ret v => exact hq
      | brk => exact hq
      | next =>
        obtain ⟨h', tk', m', nx', rfl, F', N', off', G', i'⟩ := hq
        exact ⟨h', tk', m', nx' ++ own, nx', rfl, F', N', fun p hp => List.mem_append.mpr (.inl hp), fun p hp => List.mem_append.mpr (.inr hp), off', G'.1 _ (G.1 _ hm), G.trans G', i'⟩
      | cont =>
        obtain ⟨h', tk', m', nx', rfl, F', N', off', G', i'⟩ := hq
        exact ⟨h', tk', m', nx' ++ own, nx', rfl, F', N', fun p hp => List.mem_append.mpr (.inl hp), fun p hp => List.mem_append.mpr (.inr hp), off', G'.1 _ (G.1 _ hm), G.trans G', i'⟩
  · rintro m₁ nx h tk ⟨G, hi⟩ F₁ N₁
    rw [hlen] at hi
    exact done m₁ nx h tk hi G F₁ N₁
end
def lexGt : List Int → List Int → Bool
  | a :: as, b :: bs => if a = b then lexGt as bs else decide (b < a)
  | _, _ => false
section
variable {prog : Program} {w : World} {A : Around} {E : Value → Shared → Prop} {s : Shared}
theorem tuple_gt_tree {a b : Addr} {oa ob : Obj} {xs ys : List Value} {ns ms : List Int} {na nb : Nat} {P : Fin → Shared → Prop} (hoa : s.heap.get? a = some oa) (hda : oa.data = .seq xs.toArray na) (hob : s.heap.get? b = some ob) (hcb : ob.cls = .type "tuple") (hdb : ob.data = .seq ys.toArray nb)
    (hi : IntsAre xs ns) (hj : IntsAre ys ms) (hlen : ns.length = ms.length) (h : P (.done (.ret (.bool (lexGt ns ms)))) s) :
    wpAny (model prog w) A (Builtin.«tuple.__gt__» ⟨[.ref a, .ref b], []⟩) P E s := by
  have hTb : s.TypeIs (.ref b) "tuple" := ⟨_, hob, hcb⟩
  show wpAny _ _ (isInstance (.ref b) (.type "tuple") >>= _) _ _ s
  refine wpAny_bind (wpAny_isInstance hTb isSubtype_tuple_tuple ?_)
  simp only [Bool.not_true, Bool.false_eq_true, if_false]
  refine wpAny_bind (wpAny_tupleItemsOf hoa hda ?_)
  refine wpAny_bind (wpAny_tupleItemsOf hob hdb ?_)
  refine wpAny_bind ?_
  refine wpAny_forIn_list _
    (fun rest r s' => r.1 = none ∧ s' = s ∧ ∃ ns' ms' xs' ys', rest = List.zip xs' ys' ∧ IntsAre xs' ns' ∧ IntsAre ys' ms' ∧ ns'.length = ms'.length ∧ lexGt ns' ms' = lexGt ns ms)
    _ ?_ ?_ _ _ ⟨rfl, rfl, ns, ms, xs, ys, rfl, hi, hj, hlen, rfl⟩
  · rintro ⟨u, v⟩ rest r s' ⟨hr, rfl, ns', ms', xs', ys', hz, hx', hy', hl, hg⟩
    cases hx' with
    | nil => simp at hz
    | @cons n t vs ns'' hx'' =>
      cases hy' with
      | nil => simp at hz
      | @cons k t' ws ms'' hy'' =>
        simp only [List.zip_cons_cons, List.cons.injEq, Prod.mk.injEq] at hz
        obtain ⟨⟨rfl, rfl⟩, rfl⟩ := hz
        refine wpAny_bind (wpAny_eqBool_int ?_)
        by_cases hk : n = k
        · subst hk
          rw [beq_self_eq_true]
          simp only [Bool.not_true, Bool.false_eq_true, if_false]
          refine wpAny_pure ⟨rfl, rfl, _, _, _, _, rfl, hx'', hy'', by simpa using hl, ?_⟩
          rw [← hg]
          simp [lexGt]
        · have hb : (n == k) = false := beq_eq_false_iff_ne.mpr hk
          rw [hb]
          simp only [Bool.not_false, if_true]
          refine wpAny_bind (wpAny_rule (wpAny_bind (PyProof.Rows.gt_int (wpAny_bind (wpAny_pure (wpAny_pure (wpAny_pure ?_)))))))
          have e : lexGt ns ms = decide (k < n) := by rw [← hg]; simp [lexGt, hk]
          rw [e] at h
          exact h
  · rintro ⟨r1, r2⟩ s' ⟨hr, rfl, ns', ms', xs', ys', hz, hx', hy', hl, hg⟩
    simp only at hr
    subst hr
    refine wpAny_pure ?_
    have hf : lexGt ns ms = false := by
      rw [← hg]
      cases hx' with
      | nil => simp [lexGt]
      | cons _ _ _ =>
        cases hy' with
        | nil => simp [lexGt]
        | cons _ _ _ => simp at hz
    rw [hf] at h
    have hsz : xs.toArray.size = ys.toArray.size := by rw [List.size_toArray, List.size_toArray, hi.length, hj.length, hlen]
    show P (.done (.ret (.bool (decide (xs.toArray.size > ys.toArray.size))))) s'
    rw [hsz]
    simpa using h

theorem gt_tuples {h₀ : Heap} {L a b : Addr} {news : Led} {xs ys : List Value} {ns ms : List Int} {na nb : Nat} {Q : Value → Shared → Prop} (hu : A.units < cLine) (N : News h₀ L s.heap news)
    (ha : (a, ({ cls := .type "tuple", data := .seq xs.toArray na } : Obj)) ∈ news) (hb : (b, ({ cls := .type "tuple", data := .seq ys.toArray nb } : Obj)) ∈ news) (hi : IntsAre xs ns) (hj : IntsAre ys ms) (hlen : ns.length = ms.length) (h : Q (.bool (lexGt ns ms)) s) :
    wpAny (model prog w) A (compareOp .Gt (.ref a) (.ref b)) Q E s :=
  cmp_ofGt (wpAny_richCompare_same_room (op := .Gt) ⟨_, (N _ ha).1, rfl⟩ ⟨_, (N _ hb).1, rfl⟩ F.slot_tuple_gt
    (wpAny_call_entry F.slot_tuple_gt ⟨_, (N _ ha).1, rfl⟩ F.entry_tuple_gt (tuple_gt_tree (N _ ha).1 rfl (N _ hb).1 rfl rfl hi hj hlen ⟨_, rfl, (fun e => nomatch e), h⟩) (F.args_tuple_gt_2 _ _)) hu)
end
def better (r b : R) : Bool := lexGt [r.p, r.i] [b.p, b.i]
def bestStep (o : Option R) (r : R) : Option R := match o with
  | none => some r
  | some b => if better r b = true then some r else some b
def bestR (rs : List R) : Option R := rs.foldl bestStep none
theorem bestR_snoc (rs : List R) (r : R) : bestR (rs ++ [r]) = bestStep (bestR rs) r := by
  unfold bestR
  rw [List.foldl_append]
  rfl
theorem take_snoc {α : Type} {xs : List α} {i : Nat} {x : α} (h : xs[i]? = some x) : xs.take (i + 1) = xs.take i ++ [x] := by
  rw [List.take_add_one, h]
  rfl
theorem room_v {un n : Nat} (h : un + 100 * n < 9000) : un + 3 < cLine := by
  show un + 3 < 9900
  omega
theorem room_w {un n : Nat} (h : un + 100 * n < 9000) : un + 3 + 64 < cLine := by
  show un + 3 + 64 < 9900
  omega
theorem bestStep_yes {r b : R} (h : better r b = true) : bestStep (some b) r = some r := by
  show (if better r b = true then some r else some b) = _
  rw [if_pos h]
theorem bestStep_no {r b : R} (h : better r b = false) : bestStep (some b) r = some b := by
  show (if better r b = true then some r else some b) = _
  rw [if_neg (by rw [h]; exact Bool.false_ne_true)]
theorem sub_cons {a b : Led} {x : Addr × Obj} (h : ∀ p ∈ a, p ∈ b) : ∀ p ∈ a, p ∈ x :: b := fun p hp => .tail _ (h p hp)
theorem sub_app {a b tl : Led} (h : ∀ p ∈ a, p ∈ b) : ∀ p ∈ a, p ∈ tl ++ b := fun p hp => List.mem_append.mpr (.inr (h p hp))
theorem sub_appL {a b own : Led} (h : ∀ p ∈ a, p ∈ b) : ∀ p ∈ a, p ∈ b ++ own := fun p hp => List.mem_append.mpr (.inl (h p hp))
theorem sub_grow {a a' b : Led} (G : Grow a' b) (h : ∀ p ∈ a, p ∈ a') : ∀ p ∈ a, p ∈ b := fun p hp => G.1 p (h p hp)
theorem sub_id {a : Led} : ∀ p ∈ a, p ∈ a := fun _ h => h
theorem room_s {dp n k : Nat} (h : dp + n < 900) (hk : k + 1 ≤ n) : dp + 1 + k < 900 := by omega
theorem room_su {un n k : Nat} (h : un + 100 * n < 9000) (hk : k + 1 ≤ n) : un + 3 + 100 * k < 9000 := by omega
theorem len_led {prog : Program} {w : World} {A : Around} {E : Value → Shared → Prop} {s : Shared} {h₀ : Heap} {L l : Addr} {news : Led} {us : List Value} {n k : Nat} {Q : Value → Shared → Prop} (N : News h₀ L s.heap news) (hm : (l, listOf us.toArray n) ∈ news) (hle : us.length ≤ k)
    (h : ∀ t tk, Q (.int (us.length : Int) t) { s with toks := tk }) (hk : k ≤ 1000 := by decide) : wpAny (model prog w) A (call (.builtin "len") [.ref l]) Q E s := by
  have hl : s.heap.IsList l us.toArray := ⟨_, (N _ hm).1, rfl, n, rfl⟩
  refine len_list hl ?_ ?_
  · rw [List.size_toArray]
    omega
  · rw [List.size_toArray]
    exact h _ _
def addrOf : Option R → Int
  | none => 0
  | some r => r.a
def R.said (r : R) (x : Int × Int) : R := { r with d := x.1, b := x.2 }
def able (rs : List R) : List R := rs.filter fun r => decide (r.p > 0)
def notD (rs : List R) : List R := rs.filter fun r => !decide (r.d = r.a)
def isD (rs : List R) : List R := rs.filter fun r => decide (r.d = r.a)
def isB (rs : List R) : List R := rs.filter fun r => decide (r.b = r.a)
def chosenB (rs : List R) : Int := addrOf (bestR (if (isB (notD rs)).length > 0 then isB (notD rs) else notD rs))
def chosenD (rs : List R) (b : Int) : Int := match bestR (isD rs) with
  | none => b
  | some r => r.a
def oneRound (rs : List R) : Int × Int := (chosenD (able rs) (chosenB (able rs)), chosenB (able rs))
def isTurned (r : R) (x : Int × Int) : Bool := if decide (x.1 = r.a) != decide (r.d = r.a) then true else decide (x.2 = r.a) != decide (r.b = r.a)
def electR (rs : List R) (own : R) : Int × Int := if isTurned own (oneRound (rs ++ [own])) = true then oneRound (rs ++ [own.said (oneRound (rs ++ [own]))]) else oneRound (rs ++ [own])
theorem isTurned_yes {r : R} {x : Int × Int} (h : (decide (x.1 = r.a) != decide (r.d = r.a)) = true) : isTurned r x = true := by
  unfold isTurned
  rw [if_pos h]
theorem isTurned_no {r : R} {x : Int × Int} (h : (decide (x.1 = r.a) != decide (r.d = r.a)) = false) : isTurned r x = (decide (x.2 = r.a) != decide (r.b = r.a)) := by
  unfold isTurned
  rw [if_neg (by rw [h]; exact Bool.false_ne_true)]
section
variable {prog : Program} {w : World} {A : Around} {E : Value → Shared → Prop} {s : Shared} {h₀ : Heap} {L l a b : Addr} {m : Str → Option Value} {news : Led} {us vs : List Value} {n k : Nat} {value slice : PySem.Expr} {vl vu : Value} {lo hi : Option Int} {Q : Value → Shared → Prop}
theorem led_list (N : News h₀ L s.heap news) (hm : (l, listOf us.toArray n) ∈ news) : s.heap.IsList l us.toArray := ⟨_, (N _ hm).1, rfl, n, rfl⟩
theorem room_k (h : us.length ≤ 1000) : us.toArray.size ≤ sizeLine := by
  rw [PySem.sizeLine_eq, List.size_toArray]
  omega
theorem list_led (F : Fr h₀ L s.heap m) (N : News h₀ L s.heap news) (hm : (l, listOf us.toArray n) ∈ news) (hz : us.length ≤ 1000)
    (h : ∀ D c h', Fr h₀ L h' m → News h₀ L h' ((D, listOf us.toArray c) :: news) → (∀ q ∈ news, q.1 < D) → Q (.ref D) { s with heap := h' }) :
    wpAny (model prog w) A (call (.type "list") [.ref l]) Q E s := list_copyK F N (led_list N hm) h (room_k hz)
theorem add_led (F : Fr h₀ L s.heap m) (N : News h₀ L s.heap news) (ha : (a, listOf us.toArray n) ∈ news) (hb : (b, listOf vs.toArray k) ∈ news) (hz : us.length ≤ 1000) (hz2 : vs.length ≤ 1000)
    (h : ∀ D h', Fr h₀ L h' m → News h₀ L h' ((D, listOf (us ++ vs).toArray 0) :: news) → (∀ q ∈ news, q.1 < D) → Q (.ref D) { s with heap := h' }) :
    wpAny (model prog w) A (binaryOp .Add (.ref a) (.ref b)) Q E s :=
  kmk_add_lit F N (led_list N ha) (led_list N hb) rfl h (by rw [PySem.sizeLine_eq]; show us.length + vs.length ≤ _; omega)
theorem slice_led (F : Fr h₀ L s.heap m) (N : News h₀ L s.heap news) (hm : (l, listOf us.toArray n) ∈ news) (hz : us.length ≤ 1000) (pl : IsPart vl lo) (pu : IsPart vu hi)
    (h : ∀ D h', Fr h₀ L h' m → News h₀ L h' ((D, listOf (kms_pick us lo hi).toArray 0) :: news) → (∀ q ∈ news, q.1 < D) → Q (.ref D) { s with heap := h' })
    (hs : subscripted slice false (.ref l) (.ref s.heap.objs.size) = operate [.ref s.heap.objs.size, .ref l] (getItem (.ref l) (.ref s.heap.objs.size))) (ht : ∀ r, letTemporaryGo value (.ref l) r = pure ()) :
    wpAny (model prog w) A (subscriptTail value slice (.ref l) (.ref s.heap.objs.size)) Q E { s with heap := s.heap.push { cls := .type "slice", data := .fields #[vl, vu, .none] } } :=
  kms_slice_lit F N (led_list N hm) pl pu rfl h hs ht (room_k hz)
theorem rev_led {vk : Value} {ops : List Value} (F : Fr h₀ L s.heap m) (N : News h₀ L s.heap news) (hm : (l, listOf us.toArray n) ∈ news) (hz : us.length ≤ 1000) (pk : IsPart vk (some (-1)))
    (h : ∀ D h', Fr h₀ L h' m → News h₀ L h' ((D, listOf us.reverse.toArray 0) :: news) → (∀ q ∈ news, q.1 < D) → Q (.ref D) { s with heap := h' })
    (hs : subscripted slice false (.ref l) (.ref s.heap.objs.size) = operate ops (getItem (.ref l) (.ref s.heap.objs.size))) (ht : ∀ r, letTemporaryGo value (.ref l) r = pure ()) :
    wpAny (model prog w) A (subscriptTail value slice (.ref l) (.ref s.heap.objs.size)) Q E { s with heap := s.heap.push { cls := .type "slice", data := .fields #[.none, .none, vk] } } :=
  krv_lit F N (led_list N hm) pk rfl h hs ht (room_k hz)
theorem flat_one (v : Value) : ∀ k : Nat, (List.replicate k [v]).flatten = List.replicate k v
  | 0 => rfl
  | k + 1 => by rw [List.replicate_succ, List.flatten_cons, flat_one v k, List.replicate_succ]; rfl
theorem mul_led {v : Value} {x : Int} {u : Tok} (F : Fr h₀ L s.heap m) (N : News h₀ L s.heap news) (hm : (l, listOf [v].toArray n) ∈ news) (h0 : 0 ≤ x) (h1 : x ≤ 200)
    (h : ∀ D h', Fr h₀ L h' m → News h₀ L h' ((D, listOf (List.replicate x.toNat v).toArray 0) :: news) → (∀ q ∈ news, q.1 < D) → Q (.ref D) { s with heap := h' }) :
    wpAny (model prog w) A (binaryOp .Mult (.ref l) (.int x u)) Q E s :=
  KMa.mul F N (led_list N hm) (by omega) (by omega) (by show 1 * x.toNat ≤ 256; omega) (flat_one v _) h
theorem get_led {v : Value} {x : Int} {u : Tok} (N : News h₀ L s.heap news) (hm : (l, listOf us.toArray n) ∈ news) (h0 : 0 ≤ x) (h1 : x ≤ 1000) (hv : us[x.toNat]? = some v) (h : Q v s) :
    wpAny (model prog w) A (getItem (.ref l) (.int x u)) Q E s :=
  wpAny_getItem_list (led_list N hm) h0 (by omega) (by simpa using hv) h
theorem sub_led {v : Value} {x : Int} {u : Tok} (N : News h₀ L s.heap news) (hm : (l, listOf us.toArray n) ∈ news) (h0 : 0 ≤ x) (h1 : x ≤ 1000) (hv : us[x.toNat]? = some v) (h : Q v s)
    (hs : subscripted slice false (.ref l) (.int x u) = operate [.ref l, .int x u] (getItem (.ref l) (.int x u)) := by with_unfolding_all rfl) :
    wpAny (model prog w) A (subscriptTail value slice (.ref l) (.int x u)) Q E s :=
  tail_any (led_list N hm).typeIs slot_list_getitem.lookup (get_led N hm h0 h1 hv h) hs
theorem set_led {v : Value} {x : Int} {u : Tok} {rest : Led} {Q : Unit → Shared → Prop} (F : Fr h₀ L s.heap m) (N : News h₀ L s.heap ((l, listOf us.toArray n) :: rest)) (off : ∀ p ∈ rest, p.1 ≠ l) (h0 : 0 ≤ x) (h1 : x < us.length) (h2 : us.length ≤ 1000)
    (h : ∀ h', Fr h₀ L h' m → News h₀ L h' ((l, listOf (us.set x.toNat v).toArray n) :: rest) → Q () { s with heap := h' }) : wpAny (model prog w) A (setItem (.ref l) (.int x u) v) Q E s := by
  have z := N (l, listOf us.toArray n) (.head _)
  refine ki_setAt z.1 h0 (by omega) (by rw [List.size_toArray]; omega) (h _ (F.change (Heap.SameBut.update ..) z.2.1 z.2.2) (ki_turn (pre := []) _ N (fun _ h => nomatch h) off ?_ ?_))
  · show us.toArray.setIfInBounds x.toNat v = (us.set x.toNat v).toArray
    apply Array.toList_inj.mp
    simp
  · simp
end
theorem datAll_rows {news : Led} {us vs : List Value} {rs qs : List R} (h : DatAll news us (rs.map R.dat)) (k : DatAll news vs (qs.map R.dat)) : DatAll news (us ++ vs) ((rs ++ qs).map R.dat) := by
  rw [List.map_append]
  exact DatAll.append h k
theorem datAll_one {news : Led} {v : Value} {r : R} (h : DatIn news v r.dat) : DatAll news [v] ([r].map R.dat) := .cons h .nil
theorem datAll_take {news : Led} {us : List Value} : ∀ {ds : List Dat} (k : Nat), DatAll news us ds → DatAll news (us.take k) (ds.take k) := by
  induction us with
  | nil => intro ds k h; cases h; simp; exact .nil
  | cons u us ih =>
    intro ds k h
    cases h with
    | cons h r =>
      cases k with
      | zero => exact .nil
      | succ k => exact .cons h (ih k r)
theorem datAll_drop {news : Led} {us : List Value} : ∀ {ds : List Dat} (k : Nat), DatAll news us ds → DatAll news (us.drop k) (ds.drop k) := by
  induction us with
  | nil => intro ds k h; cases h; simp; exact .nil
  | cons u us ih =>
    intro ds k h
    cases h with
    | cons h r =>
      cases k with
      | zero => exact .cons h r
      | succ k => exact ih k r
theorem datAll_set {news : Led} {v : Value} {d : Dat} (hv : DatIn news v d) {us : List Value} : ∀ {ds : List Dat} (k : Nat), DatAll news us ds → DatAll news (us.set k v) (ds.set k d) := by
  induction us with
  | nil => intro ds k h; cases h; exact .nil
  | cons u us ih =>
    intro ds k h
    cases h with
    | cons h r =>
      cases k with
      | zero => exact .cons hv r
      | succ k => exact .cons h (ih k r)
theorem datAll_reverse {news : Led} {us : List Value} : ∀ {ds : List Dat}, DatAll news us ds → DatAll news us.reverse ds.reverse := by
  induction us with
  | nil => intro ds h; cases h; exact .nil
  | cons u us ih =>
    intro ds h
    cases h with
    | cons h r =>
      rw [List.reverse_cons, List.reverse_cons]
      exact DatAll.append (ih r) (.cons h .nil)
theorem datAll_replicate {news : Led} {v : Value} {d : Dat} (hv : DatIn news v d) : ∀ k : Nat, DatAll news (List.replicate k v) (List.replicate k d)
  | 0 => .nil
  | k + 1 => .cons hv (datAll_replicate hv k)
section
variable {L : Addr} {h₀ : Heap} {news : Led} {s : Shared} {Q : Value → Shared → Prop}
theorem fin_all {res : Dat} {g h'' : Heap} {L' : Addr} {m'' : Str → Option Value} {nwE : Led} {r : Value} {tk : Nat}
    (hret : ∀ r tl h' tk', InElt s.heap h' → News h₀ L h' tl → (∀ p ∈ tl, s.heap.get? p.1 = none) → DatIn (tl ++ news) r res → Q r { s with heap := h', toks := tk' })
    (kG : GSub s.heap g (news.map (·.1))) (N : News h₀ L s.heap news) (F'' : Fr g L' h'' m'') (N'' : News g L' h'' nwE) (kN : News h₀ L h'' nwE) (G : Grow news nwE) (D : DatIn nwE r res) :
    Q r { s with heap := h'', toks := tk } := fin_dat hret kG N F'' N'' kN G (fun _ h => h) D
end
theorem electR_yes {rs : List R} {own : R} (h : isTurned own (oneRound (rs ++ [own])) = true) : electR rs own = oneRound (rs ++ [own.said (oneRound (rs ++ [own]))]) := by
  unfold electR
  rw [if_pos h]
theorem electR_no {rs : List R} {own : R} (h : isTurned own (oneRound (rs ++ [own])) = false) : electR rs own = oneRound (rs ++ [own]) := by
  unfold electR
  rw [if_neg (by rw [h]; exact Bool.false_ne_true)]
/-- a mark at which the walk's own lines stop -/
def Hold (P : Prop) : Prop := P
theorem hold_out {P : Prop} (h : Hold P) : P := h
theorem hold_in {P : Prop} (h : P) : Hold P := h
section
variable {prog : Program} {w : World} {A : Around} {E : Value → Shared → Prop} {s : Shared} {env : Env} {h₀ : Heap} {x : Str} {body : List Stmt} {Q : Flow → Shared → Prop}
def REnd (h₀ : Heap) (L : Addr) (own : Led) (I : (Str → Option Value) → Led → Prop) (s₁ : Shared) (Q : Flow → Shared → Prop) (f : Flow) (s₂ : Shared) : Prop :=
  match f with
  | .ret v => Q (.ret v) s₂
  | .brk => Q .next s₂
  | _ => ∃ h' tk m' nx', s₂ = { s₁ with heap := h', toks := tk } ∧ Fr h₀ L h' m' ∧ News h₀ L h' (nx' ++ own) ∧ OwnOff own (nx'.map (·.1)) ∧ I m' nx'
theorem REnd.next {L : Addr} {own all : Led} {I : (Str → Option Value) → Led → Prop} {s₁ : Shared} {h' : Heap} {tk : Nat} {m' : Str → Option Value} (nx' : Led) (F : Fr h₀ L h' m') (N : News h₀ L h' all) (hs : ∀ p ∈ nx' ++ own, p ∈ all)
    (off : OwnOff own (nx'.map (·.1))) (i : I m' nx') : REnd h₀ L own I s₁ Q .next { s₁ with heap := h', toks := tk } := ⟨h', tk, m', nx', rfl, F, fun p hp => N p (hs p hp), off, i⟩
theorem REnd.ret {L : Addr} {own : Led} {I : (Str → Option Value) → Led → Prop} {s₁ s₂ : Shared} {v : Value} (h : Q (.ret v) s₂) : REnd h₀ L own I s₁ Q (.ret v) s₂ := h

theorem for_range {L : Addr} {m₀ : Str → Option Value} {news : Led} (I : Nat → (Str → Option Value) → Led → Prop) (n : Nat) {t0 : Tok} (hn : n ≤ 1000)
    (hh : A.handled = none) (hL : env.locals = L) (F : Fr h₀ L s.heap m₀) (N : News h₀ L s.heap news) (hj : I 0 m₀ news)
    (turn : ∀ (i : Nat) t m₁ nx h tk own, i < n → I i m₁ nx → OwnOff own (nx.map (·.1)) → Fr h₀ L h (fun y => if y = x then some (.int (i : Int) t) else m₁ y) → News h₀ L h (nx ++ own) →
      wpAny (model prog w) A (execs body env) (REnd h₀ L own (I (i + 1)) { s with heap := h, toks := tk } Q) E { s with heap := h, toks := tk })
    (done : ∀ m₁ nx h tk, I n m₁ nx → Fr h₀ L h m₁ → News h₀ L h nx → Q .next { s with heap := h, toks := tk }) :
    wpAny (model prog w) A (call (.type "range") [.int (n : Int) t0]) (fun xv s₁ => wpAny (model prog w) A (pyIter xv) (fun it s₂ => LoopAtV prog w A h₀ env x body Q E it s₂) E s₁) E s := by
  subst hL
  refine range1_rows F N fun h1 tk1 t₁ u₁ v₁ hr F1 N1 _ => ?_
  have hsz : Builtin.Range.rangeSize 0 (n : Int) 1 = (n : Int) := by rw [rangeSize_nat]; omega
  have hsm : Builtin.Range.small 0 (n : Int) 1 = true := small_one (by decide) (by decide) (by omega) (by omega)
  refine wpAny_pyIter_range (s := { s with heap := h1, toks := tk1 }) hr hsm ?_
  have W : Walks prog w A h1.objs.size [h1.objs.size] [h1.objs.size] n (fun i v => i < n ∧ ∃ t, v = .int ((0 : Int) + i * 1) t)
      (fun i h => IsRangeIter h h1.objs.size ((0 : Int) + (i : Nat) * 1) ((n : Int) - (i : Nat)) 1) := (Walks.range hh _ 0 1 n).bound
  refine kdr_loop I W (fun _ h => h) (fun _ h => h) ?_ ?_ ?_ ?_ (by show IsRangeIter _ _ _ _ _; rw [hsz]; simpa using Heap.get?_push_size _ rfl) (F1.push _) (fun p hp => ⟨Heap.get?_push_of_some _ (N1 p hp).1, (N1 p hp).2⟩) hj ?_ ?_
  · intro i h hi b hb
    rw [List.mem_singleton.mp hb]
    exact ⟨_, hi⟩
  · intro hm
    exact absurd F1.ns.lt ((List.mem_singleton.mp hm) ▸ Nat.lt_irrefl _)
  · intro b hb
    rw [List.mem_singleton.mp hb]
    exact next_is_new F1
  · intro p hp hI
    exact absurd (Heap.lt_size (N1 p hp).1) ((List.mem_singleton.mp hI) ▸ Nat.lt_irrefl _)
  · rintro i v m₁ nx h tk own hi ⟨_, t, rfl⟩ hoff hI F₁ N₁
    have e1 : (0 : Int) + (i : Int) * 1 = (i : Int) := by omega
    rw [e1] at F₁
    refine wpAny_mono (turn i t m₁ nx h tk own hi hI hoff F₁ N₁) (fun f s₂ hq => ?_) fun _ _ e => e
    cases f with
    | ret v => exact hq
    | brk => exact hq
    | next =>
      obtain ⟨h', tk', m', nx', rfl, F', N', off', i'⟩ := hq
      exact ⟨h', tk', m', nx' ++ own, nx', rfl, F', N', fun p hp => List.mem_append.mpr (.inl hp), fun p hp => List.mem_append.mpr (.inr hp), off', i'⟩
    | cont =>
      obtain ⟨h', tk', m', nx', rfl, F', N', off', i'⟩ := hq
      exact ⟨h', tk', m', nx' ++ own, nx', rfl, F', N', fun p hp => List.mem_append.mpr (.inl hp), fun p hp => List.mem_append.mpr (.inr hp), off', i'⟩
  · rintro m₁ nx h tk hI F₁ N₁
    exact done m₁ nx h tk hI F₁ N₁
end
def toldStep (rs : List R) (k : Nat) : List R := match rs[k]? with
  | none => rs
  | some own => rs.set k (own.said (electR (rs.take k ++ rs.drop (k + 1)) own))
def toldN (rs : List R) (k : Nat) : List R := (List.range k).foldl toldStep rs
def told (rs : List R) : List R := toldN rs rs.length
theorem toldN_succ (rs : List R) (k : Nat) : toldN rs (k + 1) = toldStep (toldN rs k) k := by
  unfold toldN
  rw [List.range_succ, List.foldl_append]
  rfl
theorem toldStep_length (rs : List R) (k : Nat) : (toldStep rs k).length = rs.length := by
  unfold toldStep
  split
  · rfl
  · rw [List.length_set]
theorem toldN_length (rs : List R) (k : Nat) : (toldN rs k).length = rs.length := by
  induction k with
  | zero => rfl
  | succ k ih => rw [toldN_succ, toldStep_length, ih]
theorem datAll_rowAt {news : Led} {us : List Value} {rs : List R} {i : Nat} {r : R} (h : DatAll news us (rs.map R.dat)) (hr : rs[i]? = some r) : ∃ v, us[i]? = some v ∧ DatIn news v r.dat := by
  have hi : i < rs.length := (List.getElem?_eq_some_iff.mp hr).1
  obtain ⟨v, hv, hd⟩ := DatAll.get h (k := i) (by simpa using hi)
  refine ⟨v, hv, ?_⟩
  have e : (rs.map R.dat)[i]'(by simpa using hi) = r.dat := by
    rw [List.getElem_map]
    congr 1
    exact (List.getElem?_eq_some_iff.mp hr).2
  rw [e] at hd
  exact hd
theorem pick_upto {us : List Value} {i : Nat} : kms_pick us none (some (i : Int)) = us.take i := by
  unfold kms_pick kms_lo kms_hi
  simp only [Nat.sub_zero, List.drop_zero]
  have h : ¬ ((i : Int) < 0) := by omega
  rw [if_neg h]
  rw [Int.toNat_natCast]
  exact kmk_take_min us i
theorem pick_from {us : List Value} {x : Int} {i : Nat} (hx : x = (i : Int)) : kms_pick us (some x) none = us.drop i := by
  subst hx
  unfold kms_pick kms_lo kms_hi
  have h : ¬ ((i : Int) < 0) := by omega
  simp only [if_neg h, Int.toNat_natCast]
  rw [List.take_of_length_le (by rw [List.length_drop]; omega)]
  exact kmk_drop_min us i
theorem pick_le (us : List Value) (lo hi : Option Int) : (kms_pick us lo hi).length ≤ us.length := by
  unfold kms_pick
  rw [List.length_take, List.length_drop]
  omega
theorem toldN_step {rs : List R} {i : Nat} {r : R} (hr : (toldN rs i)[i]? = some r) : toldN rs (i + 1) = (toldN rs i).set i (r.said (electR ((toldN rs i).take i ++ (toldN rs i).drop (i + 1)) r)) := by
  rw [toldN_succ]
  unfold toldStep
  rw [hr]
theorem datAll_cut {news : Led} {us : List Value} {rs : List R} {i : Nat} (h : DatAll news us (rs.map R.dat)) :
    DatAll news (kms_pick us none (some (i : Int)) ++ kms_pick us (some ((i : Int) + 1)) none) ((rs.take i ++ rs.drop (i + 1)).map R.dat) := by
  rw [pick_upto, pick_from (i := i + 1) (by omega)]
  refine datAll_rows ?_ ?_
  · rw [List.map_take]
    exact datAll_take i h
  · rw [List.map_drop]
    exact datAll_drop (i + 1) h
theorem datAll_setRow {news : Led} {us : List Value} {rs : List R} {i : Nat} {v : Value} {r : R} (h : DatAll news us (rs.map R.dat)) (hv : DatIn news v r.dat) : DatAll news (us.set i v) ((rs.set i r).map R.dat) := by
  rw [List.map_set]
  exact datAll_set hv i h
section
variable {tl2 tl1 rest own news : Led} {x3 x2 x1 x0 : Addr × Obj}
theorem perm9 : ∀ p ∈ x0 :: ((tl2 ++ (tl1 ++ (x3 :: rest))) ++ own), p ∈ tl2 ++ (tl1 ++ (x3 :: x2 :: x1 :: x0 :: (rest ++ own))) := by
  intro p hp
  simp only [List.mem_cons, List.mem_append] at hp ⊢
  rcases hp with h | (h | h | h | h) | h <;> simp only [h, true_or, or_true]
theorem off9 (G6 : ∀ p ∈ tl2, ∀ q ∈ tl1 ++ (x3 :: x2 :: x1 :: x0 :: (rest ++ own)), p.1 ≠ q.1) (G4 : ∀ p ∈ tl1, ∀ q ∈ x3 :: x2 :: x1 :: x0 :: (rest ++ own), p.1 ≠ q.1) (m3 : ∀ q ∈ x2 :: x1 :: x0 :: (rest ++ own), q.1 < x3.1)
    (off : ∀ p ∈ rest, p.1 ≠ x0.1) (hoff : OwnOff own ((x0 :: rest).map (·.1))) : ∀ p ∈ (tl2 ++ (tl1 ++ (x3 :: rest))) ++ own, p.1 ≠ x0.1 := by
  intro p hp
  simp only [List.mem_cons, List.mem_append] at hp
  rcases hp with (h | h | h | h) | h
  · exact G6 p h x0 (by simp)
  · exact G4 p h x0 (by simp)
  · subst h
    exact Nat.ne_of_gt (m3 x0 (by simp))
  · exact off p h
  · exact hoff p h x0.1 (by simp)
theorem own9 {o : Obj} (G6 : ∀ p ∈ tl2, ∀ q ∈ tl1 ++ (x3 :: x2 :: x1 :: x0 :: (rest ++ own)), p.1 ≠ q.1) (G4 : ∀ p ∈ tl1, ∀ q ∈ x3 :: x2 :: x1 :: x0 :: (rest ++ own), p.1 ≠ q.1) (m3 : ∀ q ∈ x2 :: x1 :: x0 :: (rest ++ own), q.1 < x3.1)
    (hoff : OwnOff own ((x0 :: rest).map (·.1))) : OwnOff own (((x0.1, o) :: (tl2 ++ (tl1 ++ (x3 :: rest)))).map (·.1)) := by
  intro p hp b hb
  obtain ⟨q, hq, rfl⟩ := List.mem_map.mp hb
  simp only [List.mem_cons, List.mem_append] at hq
  rcases hq with h | h | h | h | h
  · subst h
    exact hoff p hp x0.1 (by simp)
  · exact Ne.symm (G6 q h p (by simp [hp]))
  · exact Ne.symm (G4 q h p (by simp [hp]))
  · subst h
    exact Nat.ne_of_lt (m3 p (by simp [hp]))
  · exact hoff p hp q.1 (List.mem_map.mpr ⟨q, .tail _ h, rfl⟩)
theorem grow9 (G6 : ∀ p ∈ tl2, ∀ q ∈ tl1 ++ (x3 :: x2 :: x1 :: x0 :: (rest ++ own)), p.1 ≠ q.1) (G4 : ∀ p ∈ tl1, ∀ q ∈ x3 :: x2 :: x1 :: x0 :: (rest ++ own), p.1 ≠ q.1) (m3 : ∀ q ∈ x2 :: x1 :: x0 :: (rest ++ own), q.1 < x3.1)
    (G : Grow news rest) : Grow news (tl2 ++ (tl1 ++ (x3 :: rest))) := by
  refine Grow.app (fun p hp q hq => G6 p hp q ?_) (Grow.app (fun p hp q hq => G4 p hp q ?_) (Grow.cons (fun p hp => Nat.ne_of_lt (m3 p (by simp [hp]))) G))
  · simp only [List.mem_cons, List.mem_append] at hq ⊢
    rcases hq with h | h | h <;> simp only [h, true_or, or_true]
  · simp only [List.mem_cons, List.mem_append] at hq ⊢
    rcases hq with h | h <;> simp only [h, true_or, or_true]
end
def pairsD (xs : List (Int × Int)) : Dat := .list (xs.map pairD)
theorem row_inj {r q : R} : r.dat = q.dat ↔ r = q := by
  constructor
  · intro h
    unfold R.dat at h
    simp only [Dat.tuple.injEq, List.cons.injEq, Dat.int.injEq, and_true] at h
    obtain ⟨h1, h2, h3, h4, h5⟩ := h
    cases r; cases q
    simp_all
  · intro h
    rw [h]
theorem pair_inj {x y : Int × Int} : pairD x = pairD y ↔ x = y := by
  constructor
  · intro h
    unfold pairD at h
    simp only [Dat.tuple.injEq, List.cons.injEq, Dat.int.injEq, and_true] at h
    exact Prod.ext h.1 h.2
  · intro h
    rw [h]
theorem map_inj {α : Type} {f : α → Dat} (hf : ∀ {a b : α}, f a = f b ↔ a = b) : ∀ {xs ys : List α}, xs.map f = ys.map f ↔ xs = ys
  | [], [] => by simp
  | [], _ :: _ => by simp
  | _ :: _, [] => by simp
  | x :: xs, y :: ys => by
    rw [List.map_cons, List.map_cons, List.cons.injEq, List.cons.injEq, hf, map_inj hf]
theorem rows_inj {rs qs : List R} : rowsD rs = rowsD qs ↔ rs = qs := by
  unfold rowsD
  rw [Dat.list.injEq]
  exact map_inj row_inj
theorem pairs_inj {rs qs : List (Int × Int)} : pairsD rs = pairsD qs ↔ rs = qs := by
  unfold pairsD
  rw [Dat.list.injEq]
  exact map_inj pair_inj
theorem ints_inj {rs qs : List Int} : intsD rs = intsD qs ↔ rs = qs := by
  unfold intsD
  rw [Dat.list.injEq]
  exact map_inj (by intro a b; rw [Dat.int.injEq])
theorem ok_row (r : R) (n : Nat) : kqdOk (n + 1) r.dat = true := by
  cases n <;> rfl
theorem ok_pair (x : Int × Int) (n : Nat) : kqdOk (n + 1) (pairD x) = true := by
  cases n <;> rfl
theorem ok_rows (rs : List R) : kqdOk 8 (rowsD rs) = true := by
  unfold rowsD
  rw [kqdOk, List.all_eq_true]
  intro d hd
  obtain ⟨r, _, rfl⟩ := List.mem_map.mp hd
  exact ok_row r 6
theorem ok_pairs (rs : List (Int × Int)) : kqdOk 8 (pairsD rs) = true := by
  unfold pairsD
  rw [kqdOk, List.all_eq_true]
  intro d hd
  obtain ⟨r, _, rfl⟩ := List.mem_map.mp hd
  exact ok_pair r 6
theorem ok_ints (rs : List Int) : kqdOk 8 (intsD rs) = true := by
  unfold intsD
  rw [kqdOk, List.all_eq_true]
  intro d hd
  obtain ⟨r, _, rfl⟩ := List.mem_map.mp hd
  rfl
section
variable {prog : Program} {w : World} {A : Around} {E : Value → Shared → Prop} {s : Shared} {h₀ : Heap} {L : Addr} {news n₁ n₂ : Led} {u v : Value} {d e : Dat} {b : Bool} {Q : Value → Shared → Prop}
theorem dat_shaped {d : Dat} (h : kqdOk 8 d = true) : SeqAt.shaped (kqdP d) = true := by
  have l := kqd_lay 8 d h
  unfold SeqAt.shaped
  rw [l.1, Bool.true_and]
  exact decide_eq_true (Nat.le_trans l.2 (by decide))
theorem dat_eqv (hd : kqdOk 8 d = true) (he : kqdOk 8 e = true) (hb : b = true ↔ d = e) : PyData.eqv (kqdP d) (kqdP e) = b := by
  have q := kqd_eqv 8 d e 8 hd he
  rw [Bool.eq_iff_iff, q, hb]
theorem dat_eq (N : News h₀ L s.heap news) (Dv : DatIn n₁ u d) (s₁ : ∀ p ∈ n₁, p ∈ news) (Dw : DatIn n₂ v e) (s₂ : ∀ p ∈ n₂, p ∈ news) (hd : kqdOk 8 d = true) (he : kqdOk 8 e = true) (hu : A.units + 64 < cLine) (hb : b = true ↔ d = e) (h : Q (.bool b) s) :
    wpAny (model prog w) A (compareOp .Eq u v) Q E s := by
  obtain ⟨as, ra⟩ := kqd_in N 8 (Dv.mono s₁) hd
  obtain ⟨bs, rb⟩ := kqd_in N 8 (Dw.mono s₂) he
  exact eq_dataH ra rb (dat_shaped hd) (dat_shaped he) hu (by rw [dat_eqv hd he hb]; exact h)
theorem dat_ne (N : News h₀ L s.heap news) (Dv : DatIn n₁ u d) (s₁ : ∀ p ∈ n₁, p ∈ news) (Dw : DatIn n₂ v e) (s₂ : ∀ p ∈ n₂, p ∈ news) (hd : kqdOk 8 d = true) (he : kqdOk 8 e = true) (hu : A.units + 64 < cLine) (hb : b = true ↔ d = e) (h : Q (.bool (!b)) s) :
    wpAny (model prog w) A (compareOp .NotEq u v) Q E s := by
  obtain ⟨as, ra⟩ := kqd_in N 8 (Dv.mono s₁) hd
  obtain ⟨bs, rb⟩ := kqd_in N 8 (Dw.mono s₂) he
  exact ne_dataH ra rb (dat_shaped hd) (dat_shaped he) hu (by rw [dat_eqv hd he hb]; exact h)
theorem dec_iff {p q : Prop} [Decidable p] (h : q ↔ p) : decide p = true ↔ q := by rw [decide_eq_true_iff]; exact h.symm
end
def settledAt : List R → Nat → Nat → Option (List R × Nat)
  | _, _, 0 => none
  | rs, k, n + 1 => if told rs = rs then some (rs, k) else settledAt (told rs) (k + 1) n
def settledD : Option (List R × Nat) → Dat
  | none => .none
  | some x => .tuple [rowsD x.1, .int (x.2 : Int)]
theorem settledAt_yes {rs : List R} {k n : Nat} (h : told rs = rs) : settledAt rs k (n + 1) = some (rs, k) := by
  unfold settledAt
  rw [if_pos h]
theorem settledAt_no {rs : List R} {k n : Nat} (h : ¬ told rs = rs) : settledAt rs k (n + 1) = settledAt (told rs) (k + 1) n := by
  conv => lhs; unfold settledAt
  rw [if_neg h]
theorem told_length (rs : List R) : (told rs).length = rs.length := toldN_length rs _
theorem own_app {own tl nx : Led} (G : ∀ p ∈ tl, ∀ q ∈ nx ++ own, p.1 ≠ q.1) (hoff : OwnOff own (nx.map (·.1))) : OwnOff own ((tl ++ nx).map (·.1)) := by
  intro p hp b hb
  obtain ⟨q, hq, rfl⟩ := List.mem_map.mp hb
  rcases List.mem_append.mp hq with h | h
  · exact Ne.symm (G q h p (List.mem_append.mpr (.inr hp)))
  · exact hoff p hp q.1 (List.mem_map.mpr ⟨q, h, rfl⟩)
theorem grow_app {own tl nx news : Led} (G : ∀ p ∈ tl, ∀ q ∈ nx ++ own, p.1 ≠ q.1) (g : Grow news nx) : Grow news (tl ++ nx) :=
  Grow.app (fun p hp q hq => G p hp q (List.mem_append.mpr (.inl hq))) g
theorem sub_assoc {own tl nx : Led} : ∀ p ∈ (tl ++ nx) ++ own, p ∈ tl ++ (nx ++ own) := by
  intro p hp
  rw [List.append_assoc] at hp
  exact hp
theorem sub_mid {own tl nx : Led} : ∀ p ∈ tl ++ nx, p ∈ tl ++ (nx ++ own) := by
  intro p hp
  rcases List.mem_append.mp hp with h | h
  · exact List.mem_append.mpr (.inl h)
  · exact List.mem_append.mpr (.inr (List.mem_append.mpr (.inl h)))
def sortI (ns : List Int) : List Int := ns.mergeSort (fun a b => decide (a ≤ b))
theorem sortI_perm (ns : List Int) : (sortI ns).Perm ns := List.mergeSort_perm _ _
theorem sortI_sorted (ns : List Int) : (sortI ns).Pairwise (· ≤ ·) := by
  have h := List.pairwise_mergeSort (le := fun a b : Int => decide (a ≤ b)) (fun a b c h1 h2 => by simp only [decide_eq_true_eq] at *; omega) (fun a b => by simp only [Bool.or_eq_true, decide_eq_true_eq]; omega) ns
  exact h.imp (fun h => by simpa using h)
theorem ints_of {news : Led} {us : List Value} : ∀ {ns : List Int}, DatAll news us (ns.map Dat.int) → IntsAre us ns := by
  induction us with
  | nil =>
    intro ns h
    cases ns with
    | nil => exact .nil
    | cons n ns => cases h
  | cons u us ih =>
    intro ns h
    cases ns with
    | nil => cases h
    | cons n ns =>
      cases h with
      | cons h r =>
        obtain ⟨t, rfl⟩ := int_inv h
        exact .cons n t (ih r)
theorem of_ints {news : Led} {us : List Value} {ns : List Int} (h : IntsAre us ns) : DatAll news us (ns.map Dat.int) := by
  induction h with
  | nil => exact .nil
  | cons n t _ ih => exact .cons (.int n t) ih
theorem as_ints {rs : List R} {f : R → Int} {news : Led} {us : List Value} (h : DatAll news us (rs.map fun r => Dat.int (f r))) : DatAll news us ((rs.map f).map Dat.int) := by
  rw [List.map_map]
  exact h
section
variable {prog : Program} {w : World} {A : Around} {E : Value → Shared → Prop} {s : Shared} {h₀ : Heap} {L l : Addr} {m : Str → Option Value} {news n₁ n₂ : Led} {u v : Value} {Q : Value → Shared → Prop}
theorem sorted_led {us : List Value} {ns : List Int} {n : Nat} (F : Fr h₀ L s.heap m) (N : News h₀ L s.heap news) (hm : (l, listOf us.toArray n) ∈ news) (hD : DatAll n₁ us (ns.map Dat.int)) (hz : us.length ≤ 60)
    (h : ∀ D vs' c h', Fr h₀ L h' m → News h₀ L h' ((D, listOf vs'.toArray c) :: news) → (∀ q ∈ news, q.1 < D) → IntsAre vs' (sortI ns) → Q (.ref D) { s with heap := h' }) :
    wpAny (model prog w) A (call (.builtin "sorted") [.ref l]) Q E s := by
  have hi := ints_of hD
  refine kso_sorted F N (led_list N hm) hi (by have := hi.length; omega) fun D vs' ns' c h' F' N' l1 hi' _ hp hs _ => ?_
  have e : ns' = sortI ns := ksm_same (hp.trans (sortI_perm ns).symm) hs (sortI_sorted ns)
  subst e
  exact h D vs' c h' F' N' l1 hi'
theorem ne_pair {x y : Int × Int} (N : News h₀ L s.heap news) (Dv : DatIn n₁ u (pairD x)) (s₁ : ∀ p ∈ n₁, p ∈ news) (Dw : DatIn n₂ v (pairD y)) (s₂ : ∀ p ∈ n₂, p ∈ news) (hu : A.units + 64 < cLine) (h : Q (.bool (!decide (x = y))) s) :
    wpAny (model prog w) A (compareOp .NotEq u v) Q E s := dat_ne N Dv s₁ Dw s₂ (ok_pair _ 7) (ok_pair _ 7) hu (dec_iff pair_inj) h
theorem eq_pair {x y : Int × Int} (N : News h₀ L s.heap news) (Dv : DatIn n₁ u (pairD x)) (s₁ : ∀ p ∈ n₁, p ∈ news) (Dw : DatIn n₂ v (pairD y)) (s₂ : ∀ p ∈ n₂, p ∈ news) (hu : A.units + 64 < cLine) (h : Q (.bool (decide (x = y))) s) :
    wpAny (model prog w) A (compareOp .Eq u v) Q E s := dat_eq N Dv s₁ Dw s₂ (ok_pair _ 7) (ok_pair _ 7) hu (dec_iff pair_inj) h
theorem ne_row {x y : R} (N : News h₀ L s.heap news) (Dv : DatIn n₁ u x.dat) (s₁ : ∀ p ∈ n₁, p ∈ news) (Dw : DatIn n₂ v y.dat) (s₂ : ∀ p ∈ n₂, p ∈ news) (hu : A.units + 64 < cLine) (h : Q (.bool (!decide (x = y))) s) :
    wpAny (model prog w) A (compareOp .NotEq u v) Q E s := dat_ne N Dv s₁ Dw s₂ (ok_row _ 7) (ok_row _ 7) hu (dec_iff row_inj) h
theorem ne_rows {x y : List R} (N : News h₀ L s.heap news) (Dv : DatIn n₁ u (rowsD x)) (s₁ : ∀ p ∈ n₁, p ∈ news) (Dw : DatIn n₂ v (rowsD y)) (s₂ : ∀ p ∈ n₂, p ∈ news) (hu : A.units + 64 < cLine) (h : Q (.bool (!decide (x = y))) s) :
    wpAny (model prog w) A (compareOp .NotEq u v) Q E s := dat_ne N Dv s₁ Dw s₂ (ok_rows _) (ok_rows _) hu (dec_iff rows_inj) h
theorem eq_rows {x y : List R} (N : News h₀ L s.heap news) (Dv : DatIn n₁ u (rowsD x)) (s₁ : ∀ p ∈ n₁, p ∈ news) (Dw : DatIn n₂ v (rowsD y)) (s₂ : ∀ p ∈ n₂, p ∈ news) (hu : A.units + 64 < cLine) (h : Q (.bool (decide (x = y))) s) :
    wpAny (model prog w) A (compareOp .Eq u v) Q E s := dat_eq N Dv s₁ Dw s₂ (ok_rows _) (ok_rows _) hu (dec_iff rows_inj) h
theorem ne_pairs {x y : List (Int × Int)} (N : News h₀ L s.heap news) (Dv : DatIn n₁ u (pairsD x)) (s₁ : ∀ p ∈ n₁, p ∈ news) (Dw : DatIn n₂ v (pairsD y)) (s₂ : ∀ p ∈ n₂, p ∈ news) (hu : A.units + 64 < cLine) (h : Q (.bool (!decide (x = y))) s) :
    wpAny (model prog w) A (compareOp .NotEq u v) Q E s := dat_ne N Dv s₁ Dw s₂ (ok_pairs _) (ok_pairs _) hu (dec_iff pairs_inj) h
theorem ne_ints {x y : List Int} (N : News h₀ L s.heap news) (Dv : DatIn n₁ u (intsD x)) (s₁ : ∀ p ∈ n₁, p ∈ news) (Dw : DatIn n₂ v (intsD y)) (s₂ : ∀ p ∈ n₂, p ∈ news) (hu : A.units + 64 < cLine) (h : Q (.bool (!decide (x = y))) s) :
    wpAny (model prog w) A (compareOp .NotEq u v) Q E s := dat_ne N Dv s₁ Dw s₂ (ok_ints _) (ok_ints _) hu (dec_iff ints_inj) h
theorem isIn_ints {us : List Value} {ns : List Int} {n : Nat} {k : Int} {t : Tok} (N : News h₀ L s.heap news) (hm : (l, listOf us.toArray n) ∈ news) (hi : IntsAre us ns) (hu : A.units + 64 < cLine) (h : Q (.bool (decide (k ∈ ns))) s) :
    wpAny (model prog w) A (compareOp .In (.int k t) (.ref l)) Q E s := by
  refine kqd_isIn (n₁ := []) (n₂ := []) N hm rfl rfl (of_ints hi) (fun _ h => nomatch h) (DatIn.int k t) (fun _ h => nomatch h) (fun d hd => ?_) rfl hu ?_
  · obtain ⟨x, _, rfl⟩ := List.mem_map.mp hd
    rfl
  · have e : ∀ (inst : Decidable (Dat.int k ∈ ns.map Dat.int)), @decide _ inst = decide (k ∈ ns) := by
      intro inst
      rw [Bool.eq_iff_iff, decide_eq_true_iff, decide_eq_true_iff, List.mem_map]
      constructor
      · rintro ⟨x, hx, e⟩
        injection e with e
        exact e ▸ hx
      · intro h
        exact ⟨k, h, rfl⟩
    rw [e]
    exact h
open PySem.SeqRoads2 PySem.MeetsSeq in
theorem isIn_pair {a b k : Int} {n : Nat} {t t0 t1 : Tok} (N : News h₀ L s.heap news) (hm : (l, ({ cls := .type "tuple", data := .seq [.int a t0, .int b t1].toArray n } : Obj)) ∈ news) (h : Q (.bool (decide (a = k ∨ b = k))) s) :
    wpAny (model prog w) A (compareOp .In (.int k t) (.ref l)) Q E s := by
  refine in_tuple (fun y => match y with | .int n _ => n == k | _ => false) (fun y hy => ?_) (N _ hm).1 ?_
  · simp only [List.mem_toArray, List.mem_cons, List.not_mem_nil, or_false] at hy
    rcases hy with rfl | rfl
    · exact EqGives.int _ _ _ _
    · exact EqGives.int _ _ _ _
  · have e : ([Value.int a t0, Value.int b t1].toArray.any fun y => match y with | .int n _ => n == k | _ => false) = decide (a = k ∨ b = k) := by
      by_cases h1 : a = k <;> by_cases h2 : b = k <;> simp [h1, h2]
    rw [e]
    exact h
open PySem.SeqRoads2 PySem.MeetsSeq in
theorem notIn_pair {a b k : Int} {n : Nat} {t t0 t1 : Tok} (N : News h₀ L s.heap news) (hm : (l, ({ cls := .type "tuple", data := .seq [.int a t0, .int b t1].toArray n } : Obj)) ∈ news) (h : Q (.bool (!decide (a = k ∨ b = k))) s) :
    wpAny (model prog w) A (compareOp .NotIn (.int k t) (.ref l)) Q E s := by
  refine notIn_tuple (fun y => match y with | .int n _ => n == k | _ => false) (fun y hy => ?_) (N _ hm).1 ?_
  · simp only [List.mem_toArray, List.mem_cons, List.not_mem_nil, or_false] at hy
    rcases hy with rfl | rfl
    · exact EqGives.int _ _ _ _
    · exact EqGives.int _ _ _ _
  · have e : ([Value.int a t0, Value.int b t1].toArray.any fun y => match y with | .int n _ => n == k | _ => false) = decide (a = k ∨ b = k) := by
      by_cases h1 : a = k <;> by_cases h2 : b = k <;> simp [h1, h2]
    rw [e]
    exact h
end
section
variable {prog : Program} {w : World} {A : Around} {R : Result → Shared → Prop} {I S : Addr} {fp wr : List Addr} {n : Nat} {P : Nat → Value → Prop} {St : Nat → Heap → Prop} {H : Heap → Prop} {bt : Nat → Nat → Bool}
/-- what a comparison of two items is, at a heap that still holds them -/
def CmpIn (prog : Program) (w : World) (A : Around) (H : Heap → Prop) (P : Nat → Value → Prop) (bt : Nat → Nat → Bool) : Prop :=
  ∀ i j vi vj (s : Shared) (Q : Value → Shared → Prop) (E : Value → Shared → Prop), H s.heap → P i vi → P j vj → Q (.bool (bt i j)) s → wpAny (model prog w) A (richCompare .Gt vi vj) Q E s
def Stays (H : Heap → Prop) (wr : List Addr) (S : Addr) : Prop := ∀ h h', H h → (∀ b o, b ∉ wr → b ≠ S → h.get? b = some o → h'.get? b = some o) → H h'
theorem loopName : (toString "max" ++ toString ".loop" : String) = "max.loop" := by decide
theorem max_rest (W : Walks prog w A.in1 I fp wr n P St) (hcmp : CmpIn prog w A.in1 H P bt) (hH : Stays H wr S) (hSf : S ∉ fp) : ∀ (k j : Nat) (s : Shared) (vb : Value) (c : Nat), j + 1 + k = n → St (j + 1) s.heap → H s.heap → P (argBest bt j) vb →
    s.heap.get? S = some { cls := .type "list", dict := none, data := .seq #[vb, vb] c, slots := #[] } →
    (∀ v h' tk, P (argBest bt (n - 1)) v → (∀ b o, b ∉ wr → b ≠ S → s.heap.get? b = some o → h'.get? b = some o) → R (.ok (.ret v)) { s with heap := h', toks := tk }) →
    codeAny (model prog w) A (.builtin "max.loop" ⟨[.ref I, .none, .ref S], []⟩) R s := by
  have hSw : S ∉ wr := fun h => hSf (W.sub _ h)
  intro k
  induction k with
  | zero =>
    intro j s vb c hk hst hHs hPb hS hR
    refine codeAny_builtin F.entry_max_loop ?_
    rw [Around.under_plainId F.plain_max_loop _]
    show wpAny _ A.in1 (seqItems? (.ref S) >>= _) _ _ s
    refine wpAny_bind (wpAny_seqItems hS rfl ?_)
    show wpAny _ A.in1 (tryCatch (pyNext (.ref I)) _ >>= _) _ _ s
    have hjn : j + 1 = n := by omega
    refine wpAny_bind (wpAny_tryCatch (W.done s _ _ (hjn ▸ hst) fun h' tk hk' => ?_))
    show wpAny _ A.in1 (updateSeq S (fun _ => #[]) >>= _) _ _ _
    refine wpAny_bind (wpAny_updateSeq (hk' S _ hSw hS) rfl (wpAny_bind (wpAny_letGo (wpAny_pure ?_))))
    have hj : n - 1 = j := by omega
    exact hR vb _ tk (hj ▸ hPb) fun b o hbw hbS e => (Heap.get?_update_other _ _ (Ne.symm hbS)).trans (hk' b o hbw e)
  | succ k ih =>
    intro j s vb c hk hst hHs hPb hS hR
    refine codeAny_builtin F.entry_max_loop ?_
    rw [Around.under_plainId F.plain_max_loop _]
    show wpAny _ A.in1 (seqItems? (.ref S) >>= _) _ _ s
    refine wpAny_bind (wpAny_seqItems hS rfl ?_)
    show wpAny _ A.in1 (tryCatch (pyNext (.ref I)) _ >>= _) _ _ s
    refine wpAny_bind (wpAny_tryCatch (W.item (j + 1) s _ _ (by omega) hst fun v h' tk hP hst' hk' => ?_))
    have hS' := hk' S _ hSw hS
    have hH' : H h' := hH _ _ hHs fun b o hb _ e => hk' b o hb e
    show wpAny _ A.in1 (tryCatch (holding [v, v] (richCompare .Gt v vb >>= _)) _ >>= _) _ _ _
    refine wpAny_bind (wpAny_tryCatch (wpAny_holding (wpAny_bind (hcmp (j + 1) (argBest bt j) v vb { s with heap := h', toks := tk } _ _ hH' hP hPb ?_))))
    refine wpAny_bind (wpAny_holding (wpAny_truthy_bool ?_))
    refine wpAny_bind (wpAny_letGo (wpAny_pure ?_))
    have hbest : argBest bt (j + 1) = if bt (j + 1) (argBest bt j) then j + 1 else argBest bt j := rfl
    cases hb : bt (j + 1) (argBest bt j) with
    | true =>
      rw [hb] at hbest
      simp only [if_true] at hbest ⊢
      refine wpAny_bind (wpAny_updateSeq hS' rfl (wpAny_bind (wpAny_letGo ?_)))
      rw [loopName]
      refine wpAny_pure ⟨plainId_quiet F.plain_max_loop _, ih (j + 1) _ v _ (by omega) (W.frame _ _ _ hst' fun b hbf o e => (Heap.get?_update_other _ _ (fun h : S = b => hSf (h ▸ hbf))).trans e)
        (hH _ _ hH' fun b o _ hbS e => (Heap.get?_update_other _ _ (Ne.symm hbS)).trans e) (by rw [hbest]; exact hP) (Heap.get?_update_self _ hS' rfl) fun v' h'' tk'' hP' hk'' => ?_⟩
      exact hR v' h'' tk'' hP' fun b o hbw hbS e => hk'' b o hbw hbS ((Heap.get?_update_other _ _ (Ne.symm hbS)).trans (hk' b o hbw e))
    | false =>
      rw [hb] at hbest
      simp only [Bool.false_eq_true, if_false] at hbest ⊢
      refine wpAny_bind (wpAny_letGo ?_)
      rw [loopName]
      refine wpAny_pure ⟨plainId_quiet F.plain_max_loop _, ih (j + 1) _ vb c (by omega) hst' hH' (by rw [hbest]; exact hPb) hS' fun v' h'' tk'' hP' hk'' => ?_⟩
      exact hR v' h'' tk'' hP' fun b o hbw hbS e => hk'' b o hbw hbS (hk' b o hbw e)
theorem max_all (W : Walks prog w A.in1 I fp wr n P St) (hcmp : CmpIn prog w A.in1 H P bt) (hH : Stays H wr S) (hSf : S ∉ fp) (hn : 0 < n) {s : Shared} {c : Nat} (hst : St 0 s.heap) (hHs : H s.heap)
    (hS : s.heap.get? S = some { cls := .type "list", dict := none, data := .seq #[] c, slots := #[] })
    (hR : ∀ v h' tk, P (argBest bt (n - 1)) v → (∀ b o, b ∉ wr → b ≠ S → s.heap.get? b = some o → h'.get? b = some o) → R (.ok (.ret v)) { s with heap := h', toks := tk }) :
    codeAny (model prog w) A (.builtin "max.loop" ⟨[.ref I, .none, .ref S], []⟩) R s := by
  have hSw : S ∉ wr := fun h => hSf (W.sub _ h)
  refine codeAny_builtin F.entry_max_loop ?_
  rw [Around.under_plainId F.plain_max_loop _]
  show wpAny _ A.in1 (seqItems? (.ref S) >>= _) _ _ s
  refine wpAny_bind (wpAny_seqItems hS rfl ?_)
  show wpAny _ A.in1 (tryCatch (pyNext (.ref I)) _ >>= _) _ _ s
  refine wpAny_bind (wpAny_tryCatch (W.item 0 s _ _ hn hst fun v h' tk hP hst' hk' => ?_))
  have hS' := hk' S _ hSw hS
  show wpAny _ A.in1 (updateSeq S (fun _ => #[v, v]) >>= _) _ _ _
  refine wpAny_bind (wpAny_updateSeq hS' rfl ?_)
  rw [loopName]
  refine wpAny_pure ⟨plainId_quiet F.plain_max_loop _, max_rest W hcmp hH hSf (n - 1) 0 _ v _ (by omega) (W.frame _ _ _ hst' fun b hbf o e => (Heap.get?_update_other _ _ (fun h : S = b => hSf (h ▸ hbf))).trans e)
    (hH _ _ hHs fun b o hbw hbS e => (Heap.get?_update_other _ _ (Ne.symm hbS)).trans (hk' b o hbw e)) hP (Heap.get?_update_self _ hS' rfl) fun v' h'' tk'' hP' hk'' => ?_⟩
  exact hR v' h'' tk'' hP' fun b o hbw hbS e => hk'' b o hbw hbS ((Heap.get?_update_other _ _ (Ne.symm hbS)).trans (hk' b o hbw e))
end
def t3D (x : Int × Int × Int) : Dat := .tuple [.int x.1, .int x.2.1, .int x.2.2]
def t3gt (x y : Int × Int × Int) : Bool := lexGt [x.1, x.2.1, x.2.2] [y.1, y.2.1, y.2.2]
def maxT (ts : List (Int × Int × Int)) : Int × Int × Int := ts.getD (argBest (fun i j => t3gt (ts.getD i (0, 0, 0)) (ts.getD j (0, 0, 0))) (ts.length - 1)) (0, 0, 0)
theorem t3_inv {news : Led} {v : Value} {x : Int × Int × Int} (h : DatIn news v (t3D x)) : ∃ a n t0 t1 t2, v = .ref a ∧ (a, ({ cls := .type "tuple", data := .seq [.int x.1 t0, .int x.2.1 t1, .int x.2.2 t2].toArray n } : Obj)) ∈ news := by
  unfold t3D at h
  cases h with
  | tuple hm hr =>
    obtain ⟨x, y, z, rfl, h2, h3, h4⟩ := all3 hr
    obtain ⟨_, rfl⟩ := int_inv h2
    obtain ⟨_, rfl⟩ := int_inv h3
    obtain ⟨_, rfl⟩ := int_inv h4
    exact ⟨_, _, _, _, _, rfl, hm⟩
section
variable {prog : Program} {w : World} {A : Around} {E : Value → Shared → Prop} {s : Shared} {h₀ : Heap} {L l : Addr} {m : Str → Option Value} {news n₁ : Led} {Q : Value → Shared → Prop}
theorem max_led {us : List Value} {ts : List (Int × Int × Int)} {n : Nat} (hh : A.handled = none) (hu : A.units + 64 < cLine) (F : Fr h₀ L s.heap m) (N : News h₀ L s.heap news) (hm : (l, listOf us.toArray n) ∈ news) (hD : DatAll n₁ us (ts.map t3D)) (hs : ∀ p ∈ n₁, p ∈ news) (hne : 0 < ts.length)
    (h : ∀ v h' tk, DatIn n₁ v (t3D (maxT ts)) → Fr h₀ L h' m → News h₀ L h' news → Q v { s with heap := h', toks := tk }) : wpAny (model prog w) A (call (.builtin "max") [.ref l]) Q E s := by
  have hl : s.heap.IsList l us.toArray := led_list N hm
  have hlt : l < s.heap.objs.size := by obtain ⟨_, e, _⟩ := hl; exact Heap.lt_size e
  have hlen : us.length = ts.length := by rw [hD.length, List.length_map]
  refine call_function_tree PySem.F.kind_max PySem.F.plain_max PySem.F.entry_max (PySem.F.args_max1 _) ?_
  show wpAny _ A.in1 (Builtin.Builtins.bindParams "max" ["key", "default"] 0 ⟨[], []⟩ >>= _) _ _ s
  refine wpAny_bind (wpAny_of_eq (show Builtin.Builtins.bindParams "max" ["key", "default"] 0 ⟨[], []⟩ = pure [none, none] from rfl) ?_)
  refine wpAny_bind (wpAny_pure ?_)
  refine wpAny_bind (wpAny_pyIter_list hl ?_)
  have W := Walks.list (prog := prog) (w := w) (A := A.in1) hh s.heap.objs.size l (Nat.ne_of_lt hlt) us.toArray
  have hsz : us.toArray.size = ts.length := by rw [List.size_toArray, hlen]
  rw [hsz] at W
  refine wpAny_bind (wpAny_newObj_type ?_)
  rw [loopName]
  generalize hH1 : s.heap.push { cls := .type "list_iterator", data := .fields #[.ref l, .int 0 0] } = H1
  have up : ∀ b o, s.heap.get? b = some o → H1.get? b = some o := fun b o e => hH1 ▸ Heap.get?_push_of_some _ e
  have hsize : H1.objs.size = s.heap.objs.size + 1 := by rw [← hH1, Heap.size_push]
  have hI : H1.IsListIter s.heap.objs.size l 0 := by rw [← hH1]; exact ⟨_, Heap.get?_push_size _ rfl, rfl, rfl⟩
  have up2 : ∀ (o : Obj) b x, H1.get? b = some x → (H1.push o).get? b = some x := fun o b x e => Heap.get?_push_of_some _ e
  have hnI : ∀ p ∈ news, p.1 ≠ s.heap.objs.size := fun p hp => Nat.ne_of_lt (Heap.lt_size (N p hp).1)
  have hnS : ∀ p ∈ news, p.1 ≠ H1.objs.size := fun p hp => by rw [hsize]; exact Nat.ne_of_lt (Nat.lt_succ_of_lt (Heap.lt_size (N p hp).1))
  have hI0 : h₀.get? s.heap.objs.size = none := next_is_new F
  have hS0 : h₀.get? H1.objs.size = none := by
    cases e : h₀.get? H1.objs.size with
    | none => rfl
    | some o =>
      have h1 := Heap.lt_size (F.keep _ _ e)
      rw [hsize] at h1
      exact absurd h1 (Nat.not_lt.mpr (Nat.le_succ _))
  refine wpAny_pure ⟨plainId_quiet PySem.F.plain_max_loop _, max_all (H := fun h => ∀ p ∈ news, h.get? p.1 = some p.2) (bt := fun i j => t3gt (ts.getD i (0, 0, 0)) (ts.getD j (0, 0, 0))) (P := fun i v => us.toArray[i]? = some v) W ?_ ?_ ?_ hne ⟨?_, ?_⟩ ?_ (Heap.get?_push_size _ rfl) ?_⟩
  · intro i j vi vj s' Q' E' hH hi hj hq
    have hi' : us[i]? = some vi := by simpa using hi
    have hj' : us[j]? = some vj := by simpa using hj
    obtain ⟨di, hdi, hDi⟩ := datAll_get hD hi'
    obtain ⟨dj, hdj, hDj⟩ := datAll_get hD hj'
    rw [List.getElem?_map] at hdi hdj
    cases hxi : ts[i]? with
    | none => rw [hxi] at hdi; cases hdi
    | some x =>
      cases hxj : ts[j]? with
      | none => rw [hxj] at hdj; cases hdj
      | some y =>
        rw [hxi] at hdi
        rw [hxj] at hdj
        simp only [Option.map_some, Option.some.injEq] at hdi hdj
        subst hdi hdj
        obtain ⟨a, na, t0, t1, t2, rfl, hma⟩ := t3_inv hDi
        obtain ⟨b, nb, u0, u1, u2, rfl, hmb⟩ := t3_inv hDj
        have e1 : ts.getD i (0, 0, 0) = x := by rw [List.getD_eq_getElem?_getD, hxi]; rfl
        have e2 : ts.getD j (0, 0, 0) = y := by rw [List.getD_eq_getElem?_getD, hxj]; rfl
        simp only [e1, e2] at hq
        have ga := hH _ (hs _ hma)
        have gb := hH _ (hs _ hmb)
        exact wpAny_richCompare_same_room (op := .Gt) ⟨_, ga, rfl⟩ ⟨_, gb, rfl⟩ PySem.F.slot_tuple_gt
          (wpAny_call_entry PySem.F.slot_tuple_gt ⟨_, ga, rfl⟩ PySem.F.entry_tuple_gt (tuple_gt_tree ga rfl gb rfl rfl (ns := [x.1, x.2.1, x.2.2]) (ms := [y.1, y.2.1, y.2.2]) (.cons _ _ (.cons _ _ (.cons _ _ .nil))) (.cons _ _ (.cons _ _ (.cons _ _ .nil))) rfl ⟨_, rfl, (fun e => nomatch e), hq⟩) (PySem.F.args_tuple_gt_2 _ _))
          (by show A.units + 1 < cLine; omega)
  · intro h1 h2 hH hk p hp
    exact hk p.1 p.2 (by rw [List.mem_singleton]; exact hnI p hp) (hnS p hp) (hH p hp)
  · intro hmem
    rw [hsize] at hmem
    rcases List.mem_cons.mp hmem with e | e
    · exact absurd e (Nat.succ_ne_self _)
    · have e1 : s.heap.objs.size + 1 = l := List.mem_singleton.mp e
      exact absurd hlt (Nat.not_lt.mpr (e1 ▸ Nat.le_succ _))
  · obtain ⟨o, ho, r⟩ := hI
    exact ⟨o, up2 _ _ _ ho, r⟩
  · exact (hl.at fun o e => up _ o e).at fun o e => up2 _ _ o e
  · intro p hp
    exact up2 _ _ _ (up _ _ (N p hp).1)
  · intro v h' tk hP hk
    have hb : argBest (fun i j => t3gt (ts.getD i (0, 0, 0)) (ts.getD j (0, 0, 0))) (ts.length - 1) < ts.length := by
      have hle : ∀ (bt : Nat → Nat → Bool) k, argBest bt k ≤ k := by
        intro bt k
        induction k with
        | zero => exact Nat.le_refl _
        | succ k ih =>
          unfold argBest
          split
          · exact Nat.le_refl _
          · exact Nat.le_succ_of_le ih
      exact Nat.lt_of_le_of_lt (hle _ _) (by omega)
    have hP' : us[argBest (fun i j => t3gt (ts.getD i (0, 0, 0)) (ts.getD j (0, 0, 0))) (ts.length - 1)]? = some v := by simpa using hP
    obtain ⟨d, hd, hDv⟩ := datAll_get hD hP'
    rw [List.getElem?_map, List.getElem?_eq_getElem hb] at hd
    simp only [Option.map_some, Option.some.injEq] at hd
    have e : maxT ts = ts[argBest (fun i j => t3gt (ts.getD i (0, 0, 0)) (ts.getD j (0, 0, 0))) (ts.length - 1)] := by
      unfold maxT
      rw [List.getD_eq_getElem?_getD, List.getElem?_eq_getElem hb]
      rfl
    rw [← hd, ← e] at hDv
    have hkeep : ∀ b o, b ≠ s.heap.objs.size → b ≠ H1.objs.size → s.heap.get? b = some o → h'.get? b = some o := fun b o h1 h2 e => hk b o (by rw [List.mem_singleton]; exact h1) h2 (up2 _ _ _ (up _ _ e))
    refine h v h' tk hDv ⟨F.ns.at' fun o e => hkeep _ o (Nat.ne_of_lt F.ns.lt) (by rw [hsize]; exact Nat.ne_of_lt (Nat.lt_succ_of_lt F.ns.lt)) e, fun b o e => hkeep b o (fun q => by rw [q, hI0] at e; cases e) (fun q => by rw [q, hS0] at e; cases e) (F.keep b o e), F.above⟩ fun p hp => ⟨hkeep _ _ (hnI p hp) (hnS p hp) (N p hp).1, (N p hp).2⟩
end
section
variable {prog : Program} {w : World} {A₀ A : Around} {s : Shared} {base h₀ : Heap} {outer : List Env} {L : Addr} {m : Str → Option Value} {env : Env} {news : List (Addr × Obj)}
/-- a call of a def with captured locals: the frame, its cells, and that what the ledger does not name stands in the new ground -/
theorem code_zC {K : Frag} {p : Program} {loose : List Str} {mean : ExcName → Option Value} {mg mb : Str → Option Value} {R : Result → Shared → Prop} {name qual : Str} {params : Arguments} {body : List Stmt} {scope : Scope} {dV kV doc pm cdv ct oc : Value} {an od : Option Addr} {osl : Array (Option Value)} {f : Addr} {vs : List Value} {names : List Str}
    (B : Below A₀ base outer h₀) (F : Fr h₀ L s.heap m) (X₀ : K.In h₀) (N : News h₀ L s.heap news) (T : Top p loose mean mg mb h₀) (hA : A.frames = some (env :: outer)) (hf : env.frame = some L) (hke : env.scope.kind = .function)
    (ho : K.lookup f = some ⟨oc, od, .func (fnOf name qual params body scope dV kV doc pm an cdv ct), osl⟩) (hcd : codeIn K cdv qual = true) (hroom : A.depth < recursionLimit)
    (_hnames : params.args.map (·.arg) = names) (hbind : bindArgs (fnOf name qual params body scope dV kV doc pm an cdv ct) ⟨vs, []⟩ = pure (names.zip vs))
    (hkind : ((names.zip vs).all fun y => scope.names.lookup y.1 == some .local || scope.names.lookup y.1 == some .cell) = true) (hnd : ((cellsFrom 0 scope.names []).map (·.1)).Nodup)
    (h : ∀ g L' h₁ tk cells, Fr h₀ L g m → Fr g L' h₁ (bindL (envOfC qual scope L' f cdv).kindOf (names.zip vs) fun _ => none) → News g L' h₁ (cells ++ news) →
      CellsAre (bindC (envOfC qual scope L' f cdv).kindOf (names.zip vs) fun _ => none) (cellsFrom (L' + 1) scope.names []) cells → (∀ p ∈ cells, ∀ q ∈ news, p.1 ≠ q.1) → Below A base (env :: outer) g → K.In g → Top p loose mean mg mb g → GSub s.heap g (news.map (·.1)) →
      wpAny (model prog w) (A.deeper (envOfC qual scope L' f cdv)) (execs body (envOfC qual scope L' f cdv))
        (fun fl s' => LeaveK h₀ L m g R (match fl with | .ret v => v | _ => .none) s')
        (fun e s' => wpAny (model prog w) (A.deeper (envOfC qual scope L' f cdv)) (leaving (envOfC qual scope L' f cdv) e) (fun _ s'' => R (.error e) s'') (fun e' s'' => R (.error e') s'') s')
        { s with heap := h₁, toks := tk })
    (hco : scope.isCoroutine = false) (hgen : scope.isGenerator = false) (hk : scope.kind = .function) : codeAny (model prog w) A (.call (.ref f) ⟨vs, []⟩) R s := by
  obtain ⟨FG, BG, st, lv⟩ := groundX (R := R) B F N hA hf hke
  refine codeAny_call_function hroom ((X₀.keeps F.keep) _ _ ho) rfl hco hgen rfl (codeRec_of (X₀.keeps F.keep) hcd) ((BindsTo.of_eq hbind) _ _ _ _ (wpAny_newFunctionEnv_cells hk (kindsX hkind _) fun env' he s' x => ?_))
  subst he
  refine ⟨(T.nolimit.keeps F.keep).keeps x.toInCall.keep, codeAny_func ?_⟩
  obtain ⟨h₁, tk, rfl, _⟩ := x.done
  have hk₁ := x.toInCall.keep
  obtain ⟨cells, NC, Y⟩ := Cl.news (h₀ := s.heap) (Nat.le_refl _) fun n c hm => ⟨x.cell n c (lookup_of_mem_nodup (cellsFrom_names scope.names 0 (s.heap.objs.size + 1) [] [] rfl ▸ hnd) hm), x.above n c hm⟩
  have apart : ∀ p ∈ cells, ∀ q ∈ news, p.1 ≠ q.1 := fun p hp q hq e => by
    have h1 := (NC p hp).2.2
    rw [e, (N q hq).1] at h1
    cases h1
  have led : News (hideAll s.heap (news.map (·.1))) s.heap.objs.size h₁ (cells ++ news) := fun p hp => by
    rcases List.mem_append.mp hp with hp | hp
    · refine ⟨(NC p hp).1, (NC p hp).2.1, ?_⟩
      cases q : (hideAll s.heap (news.map (·.1))).get? p.1 with
      | none => rfl
      | some o =>
        have h1 := of_hideAll _ q
        rw [(NC p hp).2.2] at h1
        cases h1
    · exact ⟨hk₁ _ _ (N p hp).1, Nat.ne_of_lt (Heap.lt_size (N p hp).1), hideAll_none _ (List.mem_map_of_mem hp)⟩
  exact wpAny_mono (h _ s.heap.objs.size h₁ tk cells FG ⟨x.toInCall.ns, fun b o e => hk₁ b o (of_hideAll _ e), Nat.le_of_eq (hideAll_size _ _)⟩ led Y apart BG (X₀.keeps st) (T.keeps st) fun b o e n => hideAll_get _ e n) (fun fl s' hl => lv _ _ hl) fun _ _ y => y
end
theorem cells_one {cm : Str → Option Value} {x : Str} {c : Addr} {cells : Led} (h : CellsAre cm [(x, c)] cells) : ∃ o, cells = [(c, o)] ∧ o.data = .cell (cm x) := CellsAre.one h
theorem apart_one {c : Addr} {o : Obj} {news : Led} (h : ∀ p ∈ [(c, o)], ∀ q ∈ news, p.1 ≠ q.1) : ∀ q ∈ news, q.1 ≠ c := fun q hq e => h _ (.head _) q hq e.symm
theorem top_off1 : True := by
  w_top off
  trivial
def lawT (rs : List R) (S : List Int) : List (Int × Int × Int) := ((rs.filter fun r => decide (0 < r.p ∧ r.a ∈ S)).map fun r => (r.p, r.i, r.a)) ++ [(0, 0, 0)]
def lawBest (rs : List R) (S : List Int) : Int := (maxT (lawT rs S)).2.2
section
open LCg LCt
def CEnd0 (h₀ : Heap) (L : Addr) (m : Str → Option Value) (s₁ : Shared) (I : Addr) (oI : Obj) (C : Addr) (oC : Obj) (D : Addr) (oD : Obj) (nw : Led) (P : Value → Led → Prop) (y : Value) (s₂ : Shared) : Prop :=
  LCg.CompEnd h₀ L m s₁ I oI C oC D oD (fun x => x = nw) P y s₂
theorem CEnd0.same {h₀ : Heap} {L I C D : Addr} {m : Str → Option Value} {s₁ : Shared} {oI oC oD : Obj} {nw : Led} {P : Value → Led → Prop} {y : Value} {h' : Heap} {tk : Nat}
    (F : Fr h₀ L h' m) (N : News h₀ L h' ((I, oI) :: (C, oC) :: (D, oD) :: nw)) (off : Off3 I C D nw) (r : P y nw) : CEnd0 h₀ L m s₁ I oI C oC D oD nw P y { s₁ with heap := h', toks := tk } :=
  LCg.CompEnd.intro F N nw (fun _ h => h) off rfl r
variable {prog : Program} {w : World} {A : Around} {h₀ : Heap} {L : Addr} {m : Str → Option Value} {env : Env} {ct elt : Expr} {x : Str} {scope : Scope} {cl : List (Str × Addr)} {s : Shared} {Fin : List Value → Led → Prop} {news : Led}
theorem comp_T0 {α : Type} (dat : α → Dat) (keep : α → Bool) (mk : α → Dat) {xs : List α} {us : List Value} {k : Nat} {ax : Addr} (hD : DatAll news us (xs.map dat)) (hm : (ax, listOf us.toArray k) ∈ news)
    (turn : ∀ x0 ∈ xs, ∀ v I oI C oC D m₂ ys h tk (E' : Value → Shared → Prop), DatIn news v (dat x0) → NsObj oC m₂ → m₂ x = some v → Fr h₀ L h m → News h₀ L h ((I, oI) :: (C, oC) :: (D, lst ys) :: news) → Off3 I C D news → ((@Ne Nat I C) ∧ (@Ne Nat I D) ∧ (@Ne Nat C D)) →
      wpAny (model prog w) A (isTrue ct (compEnvC scope cl C env) (eval ct (compEnvC scope cl C env)))
        (CTurn (fun s' => wpAny (model prog w) A (eval elt (compEnvC scope cl C env)) (CEnd0 h₀ L m { s with heap := h, toks := tk } I oI C oC D (lst ys) news (fun y nw' => DatIn nw' y (mk x0))) E' s')
          (fun s' => CEnd0 h₀ L m { s with heap := h, toks := tk } I oI C oC D (lst ys) news (fun _ _ => True) Value.none s') (keep x0)) E' { s with heap := h, toks := tk })
    (fin : ∀ ys, DatAll news ys ((xs.filter keep).map mk) → ys.length ≤ xs.length → Fin ys news) :
    CompRestT prog w A h₀ L m env ct elt x scope cl s (SrcAt h₀ ax us.toArray) (fun i v => us.toArray[i]? = some v) Fin us.toArray.size 0 [] news := by
  have hlen : us.toArray.size = xs.length := by rw [List.size_toArray, hD.length, List.length_map]
  rw [hlen]
  have key : ∀ (j i : Nat) (ys : List Value), i + j = xs.length → DatAll news ys (((xs.take i).filter keep).map mk) →
      CompRestT prog w A h₀ L m env ct elt x scope cl s (SrcAt h₀ ax us.toArray) (fun i v => us.toArray[i]? = some v) Fin j i ys news := by
    intro j
    induction j with
    | zero =>
      intro i ys hi hy
      have e : i = xs.length := by omega
      subst e
      rw [List.take_length] at hy
      refine CompRestT.zero (fin ys hy ?_)
      rw [hy.length, List.length_map]
      exact List.length_filter_le _ _
    | succ j ih =>
      intro i ys hi hy
      refine CompRestT.succ ?_
      intro v I oI C oC D m₂ h tk E' hv hC hx F N off ne
      have hil : i < xs.length := by omega
      have hv' : us[i]? = some v := by simpa using hv
      obtain ⟨d, hd, hDv⟩ := datAll_get hD hv'
      rw [List.getElem?_map, List.getElem?_eq_getElem hil] at hd
      simp only [Option.map_some, Option.some.injEq] at hd
      subst hd
      have hs : xs.take (i + 1) = xs.take i ++ [xs[i]] := by rw [List.take_add_one, List.getElem?_eq_getElem hil]; rfl
      refine wpAny_mono (turn xs[i] (List.getElem_mem hil) v I oI C oC D m₂ ys h tk E' hDv hC hx F N off ne) (fun b s₂ hq => ?_) fun _ _ e => e
      obtain ⟨e, hy1, hn1⟩ := hq
      cases hk : keep xs[i] with
      | true =>
        rw [hk] at e
        subst e
        simp only [if_true]
        refine wpAny_mono (hy1 hk) (fun y s₃ hr => ?_) fun _ _ e => e
        obtain ⟨h', tk', nw', e', F', N', off', en, hP⟩ := hr
        subst en
        refine ⟨h', tk', _, e', F', N', off', .inr ⟨_, hm, rfl, _, rfl⟩, ih (i + 1) _ (by omega) ?_⟩
        rw [hs, List.filter_append, List.map_append]
        refine DatAll.append (hy) ?_
        simp only [List.filter_cons, hk, if_true, List.filter_nil, List.map_cons, List.map_nil]
        exact .cons hP .nil
      | false =>
        rw [hk] at e
        subst e
        simp only [Bool.false_eq_true, if_false]
        obtain ⟨h', tk', nw', e', F', N', off', en, _⟩ := hn1 hk
        subst en
        refine ⟨h', tk', _, e', F', N', off', .inr ⟨_, hm, rfl, _, rfl⟩, ih (i + 1) _ (by omega) ?_⟩
        rw [hs, List.filter_append, List.map_append]
        simp only [List.filter_cons, hk, Bool.false_eq_true, if_false, List.filter_nil, List.map_nil, List.append_nil]
        exact hy
  exact key xs.length 0 [] (by omega) (by simp only [List.take_zero, List.filter_nil, List.map_nil]; exact .nil)

theorem comp_U0 {α : Type} (dat : α → Dat) (mk : α → Dat) {xs : List α} {us : List Value} {k : Nat} {ax : Addr} (hD : DatAll news us (xs.map dat)) (hm : (ax, listOf us.toArray k) ∈ news)
    (turn : ∀ x0 ∈ xs, ∀ v I oI C oC D m₂ ys h tk (E' : Value → Shared → Prop), DatIn news v (dat x0) → NsObj oC m₂ → m₂ x = some v → Fr h₀ L h m → News h₀ L h ((I, oI) :: (C, oC) :: (D, lst ys) :: news) → Off3 I C D news → ((@Ne Nat I C) ∧ (@Ne Nat I D) ∧ (@Ne Nat C D)) →
      wpAny (model prog w) A (eval elt (compEnvC scope cl C env)) (CEnd0 h₀ L m { s with heap := h, toks := tk } I oI C oC D (lst ys) news (fun y nw' => DatIn nw' y (mk x0))) E' { s with heap := h, toks := tk })
    (fin : ∀ ys, DatAll news ys (xs.map mk) → ys.length = xs.length → Fin ys news) :
    CompRest prog w A h₀ L m env elt x scope cl s (SrcAt h₀ ax us.toArray) (fun i v => us.toArray[i]? = some v) Fin us.toArray.size 0 [] news := by
  have hlen : us.toArray.size = xs.length := by rw [List.size_toArray, hD.length, List.length_map]
  rw [hlen]
  have key : ∀ (j i : Nat) (ys : List Value), i + j = xs.length → DatAll news ys ((xs.take i).map mk) →
      CompRest prog w A h₀ L m env elt x scope cl s (SrcAt h₀ ax us.toArray) (fun i v => us.toArray[i]? = some v) Fin j i ys news := by
    intro j
    induction j with
    | zero =>
      intro i ys hi hy
      have e : i = xs.length := by omega
      subst e
      rw [List.take_length] at hy
      refine CompRest.zero (fin ys hy ?_)
      rw [hy.length, List.length_map]
    | succ j ih =>
      intro i ys hi hy
      refine CompRest.succ ?_
      intro v I oI C oC D m₂ h tk E' hv hC hx F N off ne
      have hil : i < xs.length := by omega
      have hv' : us[i]? = some v := by simpa using hv
      obtain ⟨d, hd, hDv⟩ := datAll_get hD hv'
      rw [List.getElem?_map, List.getElem?_eq_getElem hil] at hd
      simp only [Option.map_some, Option.some.injEq] at hd
      subst hd
      have hs : xs.take (i + 1) = xs.take i ++ [xs[i]] := by rw [List.take_add_one, List.getElem?_eq_getElem hil]; rfl
      refine wpAny_mono (turn xs[i] (List.getElem_mem hil) v I oI C oC D m₂ ys h tk E' hDv hC hx F N off ne) (fun y s₃ hr => ?_) fun _ _ e => e
      obtain ⟨h', tk', nw', e', F', N', off', en, hP⟩ := hr
      subst en
      refine ⟨h', tk', _, e', F', N', off', .inr ⟨_, hm, rfl, _, rfl⟩, ih (i + 1) _ (by omega) ?_⟩
      rw [hs, List.map_append]
      exact DatAll.append (hy) (.cons hP .nil)
  exact key xs.length 0 [] (by omega) (by simp only [List.take_zero, List.map_nil]; exact .nil)
end
theorem upd_app {d : Addr} {o : Obj} {tl r : Led} {g : Obj → Led} (h : ∀ p ∈ tl, p.1 ≠ d) (U : UpdF d o r g) : UpdF d o (tl ++ r) (fun o' => tl ++ g o') := by
  induction tl with
  | nil => exact U
  | cons p tl ih => exact UpdF.tail (h p (.head _)) (ih fun q hq => h q (.tail _ hq))
theorem ne_a {D c : Addr} {o : Obj} {r : Led} (h : ∀ q ∈ r, q.1 < D) (m : (c, o) ∈ r) : D ≠ c := Nat.ne_of_gt (h _ m)
theorem ne_b {D c : Addr} {o : Obj} {r : Led} (h : AllLt D r) (m : (c, o) ∈ r) : D ≠ c := Ne.symm (ne_allLt h _ m)
theorem ne_c {D c : Addr} {o : Obj} {r : Led} (h : LCg.Off1 D r) (m : (c, o) ∈ r) : D ≠ c := Ne.symm (ne_off1 h _ m)
def ableA (rs : List R) : List Int := (able rs).map R.a
def dueF (rs : List R) (x : Int × Int) (C : List Int) : Int := if lawBest rs (x.1 :: C) = 0 then (if x.2 ∈ ableA rs then x.2 else lawBest rs (ableA rs)) else lawBest rs (x.1 :: C)
def dueS (rs : List R) (x : Int × Int) (f : Int) : Int := if x.2 ∈ (ableA rs).filter (fun a => !decide (a = f)) then x.2 else lawBest rs ((ableA rs).filter (fun a => !decide (a = f)))
def due (rs : List R) (x : Int × Int) (C : List Int) : Int × Int := (dueF rs x C, dueS rs x (dueF rs x C))
def LEnd (h₀ : Heap) (L : Addr) (led : Led) (J : (Str → Option Value) → Prop) (s₁ : Shared) (f : Flow) (s₂ : Shared) : Prop :=
  f = .next ∧ ∃ h' tk m', s₂ = { s₁ with heap := h', toks := tk } ∧ Fr h₀ L h' m' ∧ News h₀ L h' led ∧ J m'
theorem LEnd.intro {h₀ : Heap} {L : Addr} {led all : Led} {J : (Str → Option Value) → Prop} {s₁ : Shared} {h' : Heap} {tk : Nat} {m' : Str → Option Value} (F : Fr h₀ L h' m') (N : News h₀ L h' all) (hs : ∀ p ∈ led, p ∈ all) (j : J m') :
    LEnd h₀ L led J s₁ .next { s₁ with heap := h', toks := tk } := ⟨rfl, h', tk, m', rfl, F, fun p hp => N p (hs p hp), j⟩
section
variable {prog : Program} {w : World} {A : Around} {E : Value → Shared → Prop} {s : Shared} {env : Env} {h₀ : Heap} {x : Str} {px : Pos} {body : List Stmt} {Q : Flow → Shared → Prop}
theorem for_listC {α : Type} (dat : α → Dat) {xs : List α} {l c : Addr} {us : List Value} {nn : Nat} {m₀ : Str → Option Value} {news : Led} {o : Obj} {v₀ : Option Value} (J : (Str → Option Value) → Prop)
    (hD : DatAll news us (xs.map dat)) (hm : (l, listOf us.toArray nn) ∈ news) (hh : A.handled = none) (hk : env.scope.kind = .function) (hx : env.kindOf x = some .cell) (hcl : env.cells.lookup x = some c)
    (F : Fr h₀ env.locals s.heap m₀) (N : News h₀ env.locals s.heap ((c, o) :: news)) (hoc : o.data = .cell v₀) (hnc : ∀ q ∈ news, q.1 ≠ c) (hj : J m₀)
    (turn : ∀ x0 ∈ xs, ∀ v m₁ o' I oI h tk (E' : Value → Shared → Prop), DatIn news v (dat x0) → J m₁ → o'.data = .cell (some v) → I ≠ c → (∀ q ∈ news, q.1 ≠ I) → Fr h₀ env.locals h m₁ → News h₀ env.locals h ((c, o') :: (I, oI) :: news) →
      wpAny (model prog w) A (execs body env) (LEnd h₀ env.locals ((c, o') :: (I, oI) :: news) J { s with heap := h, toks := tk }) E' { s with heap := h, toks := tk })
    (done : ∀ m₁ o' h tk, J m₁ → Fr h₀ env.locals h m₁ → News h₀ env.locals h ((c, o') :: news) → Q .next { s with heap := h, toks := tk }) :
    wpAny (model prog w) A (pyIter (.ref l)) (fun it s₂ => codeAny (model prog w) A (.forLoop (.Name x px) it body [] env) (fun r s' => match r with | .ok f => Q f s' | .error e => cameBackBy (model prog w) A env E e s') s₂) E s := by
  have hol : s.heap.get? l = some (listOf us.toArray nn) := (N _ (.tail _ hm)).1
  have hls : s.heap.IsList l us.toArray := ⟨_, hol, rfl, nn, rfl⟩
  have hne : l ≠ s.heap.objs.size := Nat.ne_of_lt (Heap.lt_size hol)
  have hI0 : h₀.get? s.heap.objs.size = none := next_is_new F
  have hIL : s.heap.objs.size ≠ env.locals := fun e => absurd F.ns.lt (e ▸ Nat.lt_irrefl _)
  have hIc : s.heap.objs.size ≠ c := fun e => absurd (Heap.lt_size (N _ (.head _)).1) (e ▸ Nat.lt_irrefl _)
  have hIn : ∀ q ∈ news, q.1 ≠ s.heap.objs.size := fun q hq e => absurd (Heap.lt_size (N q (.tail _ hq)).1) (e ▸ Nat.lt_irrefl _)
  refine wpAny_pyIter_list hls ?_
  have W := Walks.list (prog := prog) (w := w) hh s.heap.objs.size l hne us.toArray
  have hlen : us.toArray.size = xs.length := by rw [List.size_toArray, hD.length, List.length_map]
  rw [hlen] at W
  refine codeAny_forLoop
    (fun k s' => ∃ h' tk m' o' i, s' = { s with heap := h', toks := tk } ∧ (h'.IsListIter s.heap.objs.size l i ∧ h'.IsList l us.toArray) ∧ Fr h₀ env.locals h' m' ∧ News h₀ env.locals h' ((c, o') :: news) ∧ (∃ v, o'.data = .cell v) ∧ J m' ∧ i ≤ xs.length ∧ k = xs.length + 1 - i) ?_ (xs.length + 1)
    ⟨_, _, m₀, o, 0, rfl, ⟨⟨_, Heap.get?_push_size _ rfl, rfl, rfl⟩, hls.at fun o e => Heap.get?_push_of_some _ e⟩, F.push _, (fun p hp => ⟨Heap.get?_push_of_some _ (N p hp).1, (N p hp).2⟩), ⟨_, hoc⟩, hj, Nat.zero_le _, rfl⟩
  rintro k s' ⟨h', tk, m', o', i, rfl, hst', F', N', ⟨v', hd'⟩, hJ, hi, rfl⟩
  have next : ∀ h₁ : Heap, (∀ b o, b ∉ [s.heap.objs.size] → h'.get? b = some o → h₁.get? b = some o) → Fr h₀ env.locals h₁ m' ∧ News h₀ env.locals h₁ ((c, o') :: news) := fun h₁ hk₁ =>
    ⟨⟨F'.ns.at' fun o e => hk₁ _ o (fun h => hIL (List.mem_singleton.mp h).symm) e, fun b o e => hk₁ b o (fun h => by rw [List.mem_singleton.mp h, hI0] at e; cases e) (F'.keep b o e), F'.above⟩,
      fun p hp => ⟨hk₁ _ _ (fun h => by
        have h := List.mem_singleton.mp h
        rcases List.mem_cons.mp hp with e | hp
        · rw [e] at h; exact hIc h.symm
        · exact hIn p hp h) (N' p hp).1, (N' p hp).2⟩⟩
  by_cases hlt : i < xs.length
  · refine W.item i _ _ _ hlt hst' fun v h₁ tk₁ hP hst₁ hk₁ => ?_
    obtain ⟨F₁, N₁⟩ := next h₁ hk₁
    have hmem := N₁ (c, o') (.head _)
    refine wpAny_assign_Name (wpAny_storeName_cell hk hx hcl ⟨o', hmem.1, hd'⟩ fun h₂ hv₂ hs₂ => ?_)
    obtain ⟨o₂, ho₂, hd₂⟩ := hv₂
    have F₂ : Fr h₀ env.locals h₂ m' := ⟨F₁.ns.sameBut hs₂ (Ne.symm hmem.2.1), fun b ob e => (hs₂.2 b (fun q => by rw [q, hmem.2.2] at e; cases e)).trans (F₁.keep b ob e), F₁.above⟩
    have N₂ : News h₀ env.locals h₂ ([] ++ (c, o₂) :: news) := N₁.setAt (fun _ h => nomatch h) hnc hs₂ ho₂
    have hst₂ := W.frame _ h₁ h₂ hst₁ fun b hb o e => (hs₂.2 b fun q => by
      rcases List.mem_cons.mp hb with h | h
      · exact hIc (h.symm.trans q)
      · exact hnc _ hm ((List.mem_singleton.mp h).symm.trans q)).trans e
    obtain ⟨⟨oI, hoI, hIr⟩, _⟩ := id hst₂
    obtain ⟨d, hd, hDv⟩ := datAll_get hD (by simpa using hP)
    rw [List.getElem?_map, List.getElem?_eq_getElem hlt] at hd
    simp only [Option.map_some, Option.some.injEq] at hd
    subst hd
    refine wpAny_mono (turn xs[i] (List.getElem_mem hlt) v m' o₂ s.heap.objs.size oI h₂ _ _ hDv hJ hd₂ hIc hIn F₂ (fun p hp => ?_)) (fun f s₃ h₃ => ?_) fun _ _ e => e
    · rcases List.mem_cons.mp hp with e | hp
      · exact e ▸ N₂ (c, o₂) (.head _)
      · rcases List.mem_cons.mp hp with e | hp
        · subst e
          exact ⟨hoI, hIL, hI0⟩
        · exact N₂ p (.tail _ hp)
    · obtain ⟨rfl, h₃', tk₃, m₃, rfl, F₃, N₃, hJ₃⟩ := h₃
      refine ⟨xs.length + 1 - (i + 1), by omega, h₃', tk₃, m₃, o₂, i + 1, rfl, ?_, F₃, fun p hp => N₃ p (by
        rcases List.mem_cons.mp hp with e | hp
        · exact e ▸ .head _
        · exact .tail _ (.tail _ hp)), ⟨_, hd₂⟩, hJ₃, hlt, rfl⟩
      refine W.frame _ _ _ hst₂ fun b hb o e => ?_
      rcases List.mem_cons.mp hb with h | h
      · subst h
        have := (N₃ _ (.tail _ (.head _))).1
        rw [hoI] at e
        exact e ▸ this
      · rw [List.mem_singleton.mp h] at e ⊢
        have e1 := (N₂ _ (.tail _ hm)).1
        rw [e1] at e
        exact e ▸ (N₃ _ (.tail _ (.tail _ hm))).1
  · have hin : i = xs.length := by omega
    subst hin
    refine W.done _ _ _ hst' fun h₁ tk₁ hk₁ => wpAny_execs_nil ?_
    obtain ⟨F₁, N₁⟩ := next h₁ hk₁
    exact done m' o' h₁ tk₁ hJ F₁ N₁
theorem for_listC2 {α : Type} (dat : α → Dat) {xs : List α} {l c : Addr} {us : List Value} {nn : Nat} {m₀ : Str → Option Value} {news : Led} {o : Obj} {v₀ : Option Value} (n1 n2 : Str)
    (hD : DatAll news us (xs.map dat)) (hm : (l, listOf us.toArray nn) ∈ news) (hh : A.handled = none) (hk : env.scope.kind = .function) (hx : env.kindOf x = some .cell) (hcl : env.cells.lookup x = some c)
    (F : Fr h₀ env.locals s.heap m₀) (N : News h₀ env.locals s.heap ((c, o) :: news)) (hoc : o.data = .cell v₀) (hnc : ∀ q ∈ news, q.1 ≠ c)
    (turn : ∀ x0 ∈ xs, ∀ v (u : Str → Option Value) o' I oI h tk (E' : Value → Shared → Prop), DatIn news v (dat x0) → o'.data = .cell (some v) → I ≠ c → (∀ q ∈ news, q.1 ≠ I) → Fr h₀ env.locals h (fun y => if y = n1 then u y else if y = n2 then u y else m₀ y) → News h₀ env.locals h ((c, o') :: (I, oI) :: news) →
      wpAny (model prog w) A (execs body env) (LEnd h₀ env.locals ((c, o') :: (I, oI) :: news) (fun m => ∃ u : Str → Option Value, m = fun y => if y = n1 then u y else if y = n2 then u y else m₀ y) { s with heap := h, toks := tk }) E' { s with heap := h, toks := tk })
    (done : ∀ (u : Str → Option Value) o' h tk, Fr h₀ env.locals h (fun y => if y = n1 then u y else if y = n2 then u y else m₀ y) → News h₀ env.locals h ((c, o') :: news) → Q .next { s with heap := h, toks := tk }) :
    wpAny (model prog w) A (pyIter (.ref l)) (fun it s₂ => codeAny (model prog w) A (.forLoop (.Name x px) it body [] env) (fun r s' => match r with | .ok f => Q f s' | .error e => cameBackBy (model prog w) A env E e s') s₂) E s := by
  refine for_listC dat (fun m => ∃ u : Str → Option Value, m = fun y => if y = n1 then u y else if y = n2 then u y else m₀ y) hD hm hh hk hx hcl F N hoc hnc ⟨m₀, funext fun y => ?_⟩ ?_ ?_
  · by_cases h1 : y = n1 <;> by_cases h2 : y = n2 <;> simp [h1, h2]
  · rintro x0 hx0 v m₁ o' I oI h tk E' hv ⟨u, rfl⟩ ho hIc hIn F1 N1
    exact turn x0 hx0 v u o' I oI h tk E' hv ho hIc hIn F1 N1
  · rintro m₁ o' h tk ⟨u, rfl⟩ F1 N1
    exact done u o' h tk F1 N1
end
theorem two_names {m₀ m' : Str → Option Value} {n1 n2 : Str} (h : ∀ y, y ≠ n1 → y ≠ n2 → m' y = m₀ y) : ∃ u : Str → Option Value, m' = fun y => if y = n1 then u y else if y = n2 then u y else m₀ y := by
  refine ⟨m', funext fun y => ?_⟩
  by_cases h1 : y = n1
  · simp [h1]
  · by_cases h2 : y = n2
    · simp [h2]
    · simp only [h1, h2, if_false]
      exact h y h1 h2
section
variable {prog : Program} {w : World} {A : Around} {E : Value → Shared → Prop} {s : Shared} {h₀ : Heap} {L : Addr} {news n₁ n₂ : Led} {u v : Value} {Q : Value → Shared → Prop}
theorem ne_same {ns : List Int} (N : News h₀ L s.heap news) (Dv : DatIn n₁ u (intsD ns)) (s₁ : ∀ p ∈ n₁, p ∈ news) (Dw : DatIn n₂ v (intsD ns)) (s₂ : ∀ p ∈ n₂, p ∈ news) (hu : A.units + 64 < cLine) (h : Q (.bool false) s) :
    wpAny (model prog w) A (compareOp .NotEq u v) Q E s := dat_ne N Dv s₁ Dw s₂ (ok_ints _) (ok_ints _) hu (b := true) (by simp) h
end
/-- a call of `_law_drawn`: the box is a list of the drawn list and a count; the count goes up by one, the answer lies below q -/
def Draws (q : Nat) : Prop :=
  ∀ (w : World) (p : Program) (loose : List Str) (mean : ExcName → Option Value) (mg mb : Str → Option Value)
    (dp un : Nat) (gd : Option (List Code)) (cn : Str) (cs : Scope) (a : Addr) (ccd : Value) (cl : List (Str × Addr)) (outer : List Env) (A₀ : Around) (base h₀ : Heap) (L : Addr) (m : Str → Option Value) (s : Shared)
    (b d : Addr) (k : Nat) (t : Tok) (n nn : Nat) (us : List Value) (ns : List Int) (rest : Led) (tq : Tok) (Q E : Value → Shared → Prop),
    Below A₀ base outer h₀ → Fr h₀ L s.heap m → (hd.heap_39 w.params).In h₀ → News h₀ L s.heap ((b, listOf [Value.ref d, .int (k : Int) t].toArray n) :: rest) → (∀ p ∈ rest, p.1 ≠ b) → (d, listOf us.toArray nn) ∈ rest → IntsAre us ns → us.length ≤ 24 → k < 100 →
    Top p loose mean mg mb h₀ → cs.kind = .function → dp + 1 < 900 → un + 100 < 9000 →
    (∀ (r : Nat) (t' t'' : Tok) h' tk', r < q → Fr h₀ L h' m → News h₀ L h' ((b, listOf [Value.ref d, .int ((k + 1 : Nat) : Int) t''].toArray n) :: rest) → Q (.int (r : Int) t') { s with heap := h', toks := tk' }) →
    wpAny (model PySem.Challenge.rw_sj0171_01.row.prog w) (ktrTop dp un gd cn cs L a ccd cl outer) (call (.ref 116) [.ref b, .int (q : Int) tq]) Q E s
theorem set1_led {prog : Program} {w : World} {A : Around} {E : Value → Shared → Prop} {s : Shared} {h₀ : Heap} {L l : Addr} {m : Str → Option Value} {n : Nat} {v x0 x1 : Value} {u : Tok} {rest : Led} {Q : Unit → Shared → Prop} (F : Fr h₀ L s.heap m) (N : News h₀ L s.heap ((l, listOf [x0, x1].toArray n) :: rest)) (off : ∀ p ∈ rest, p.1 ≠ l)
    (h : ∀ h', Fr h₀ L h' m → News h₀ L h' ((l, listOf [x0, v].toArray n) :: rest) → Q () { s with heap := h' }) : wpAny (model prog w) A (setItem (.ref l) (.int 1 u) v) Q E s :=
  set_led F N off (by decide) (by show (1 : Int) < 2; decide) (by show 2 ≤ 1000; decide) h
def evRow (came worth : Nat) (C : List Int) : R := ⟨(((came : Int) + 1) * 3).fmod 11, 10 + ((came : Int) + 1), (worth : Int), if C = [] then 0 else 10 + ((came : Int) + 1), 0⟩
def evC (came form worth : Nat) : List Int := if form = 2 ∧ 0 < worth then [10 + ((came : Int) + 1)] else []
abbrev comes (rs : List R) (form : Nat) : Prop := rs = [] ∨ (form < 3 ∧ rs.length < 4)
def evRows (rs : List R) (came form pick worth : Nat) : List R :=
  if comes rs form then rs ++ [evRow came worth (evC came form worth)]
  else match rs[pick % rs.length]? with
    | none => rs
    | some r => if form = 4 then rs.eraseIdx (pick % rs.length) ++ [{ r with p := (worth : Int) }] else rs.eraseIdx (pick % rs.length)
def evCame (rs : List R) (came form : Nat) : Nat := if comes rs form then came + 1 else came
def evClaims (rs : List R) (came form worth : Nat) : List Int := if comes rs form then evC came form worth else []
def worldOf (prog : Program) (w : World) (o : Obj) (rl : Addr) (came : Nat) (t : Tok) : Prop := o.IsDictOf (PySem.strKind prog w) [(Str.ofString "rows", Value.ref rl), (Str.ofString "came", Value.int (came : Int) t)]
/-- a call of `_law_event` -/
def Events (rs : List R) (came form pick worth : Nat) : Prop :=
  ∀ (w : World) (p : Program) (loose : List Str) (mean : ExcName → Option Value) (mg mb : Str → Option Value)
    (dp un : Nat) (gd : Option (List Code)) (cn : Str) (cs : Scope) (a : Addr) (ccd : Value) (cl : List (Str × Addr)) (outer : List Env) (A₀ : Around) (base h₀ : Heap) (L : Addr) (m : Str → Option Value) (s : Shared)
    (wd rl : Addr) (ow : Obj) (tc : Tok) (n : Nat) (us : List Value) (rest sub : Led) (t1 t2 t3 : Tok) (Q E : Value → Shared → Prop),
    Below A₀ base outer h₀ → Fr h₀ L s.heap m → (hd.heap_39 w.params).In h₀ → News h₀ L s.heap ((wd, ow) :: (rl, listOf us.toArray n) :: rest) → (∀ p ∈ sub, p ∈ rest) → worldOf PySem.Challenge.rw_sj0171_01.row.prog w ow rl came tc → (∀ p ∈ (rl, listOf us.toArray n) :: rest, p.1 ≠ wd) → (∀ p ∈ rest, p.1 ≠ rl) → DatAll sub us (rs.map R.dat) →
    Top p loose mean mg mb h₀ → cs.kind = .function → dp + 1 < 900 → un + 100 < 9000 →
    (∀ (r : Value) (tl : Led) (us' : List Value) (n' : Nat) (ow' : Obj) (t' : Tok) h' tk', Fr h₀ L h' m → News h₀ L h' ((wd, ow') :: (rl, listOf us'.toArray n') :: (tl ++ rest)) → (∀ p ∈ tl, ∀ q ∈ (wd, ow) :: (rl, listOf us.toArray n) :: rest, p.1 ≠ q.1) → worldOf PySem.Challenge.rw_sj0171_01.row.prog w ow' rl (evCame rs came form) t' →
      DatAll (tl ++ sub) us' ((evRows rs came form pick worth).map R.dat) → DatIn (tl ++ sub) r (intsD (evClaims rs came form worth)) → Q r { s with heap := h', toks := tk' }) →
    wpAny (model PySem.Challenge.rw_sj0171_01.row.prog w) (ktrTop dp un gd cn cs L a ccd cl outer) (call (.ref 138) [.ref wd, .int (form : Int) t1, .int (pick : Int) t2, .int (worth : Int) t3]) Q E s
section
variable {prog : Program} {w : World} {A : Around} {E : Value → Shared → Prop} {s : Shared} {h₀ : Heap} {L l : Addr} {m : Str → Option Value} {news n₁ : Led} {us : List Value} {n : Nat} {Q : Value → Shared → Prop}
theorem eq_nil {rs : List R} {e : Addr} {k : Nat} (N : News h₀ L s.heap news) (hm : (l, listOf us.toArray n) ∈ news) (hD : DatAll n₁ us (rs.map R.dat)) (hs : ∀ p ∈ n₁, p ∈ news) (he : (e, listOf #[] k) ∈ news) (hu : A.units + 64 < cLine) (h : Q (.bool (decide (rs = []))) s) :
    wpAny (model prog w) A (compareOp .Eq (.ref l) (.ref e)) Q E s :=
  eq_rows (y := []) N (DatIn.list hm (hD.mono hs)) (fun _ h => h) (DatIn.list (vs := []) he .nil) (fun _ h => h) hu h
theorem ne_nil {k : Nat} {rs : List Int} {e : Addr} (N : News h₀ L s.heap news) (hm : (l, listOf us.toArray n) ∈ news) (hi : IntsAre us rs) (he : (e, listOf #[] k) ∈ news) (hu : A.units + 64 < cLine) (h : Q (.bool (!decide (rs = []))) s) :
    wpAny (model prog w) A (compareOp .NotEq (.ref l) (.ref e)) Q E s :=
  ne_ints (y := []) N (DatIn.list hm (of_ints hi)) (fun _ h => h) (DatIn.list (vs := []) he .nil) (fun _ h => h) hu h
theorem updF_upd {d : Addr} {o o' : Obj} {l : Led} {g : Obj → Led} (U : UpdF d o l g) : Upd d o o' l (g o') := by
  induction U with
  | head h => exact Upd.head h
  | tail h _ ih => exact Upd.tail h ih
theorem append_led {D : Addr} {x : Value} {m : Str → Option Value} {g : Obj → Led} (F : Fr h₀ L s.heap m) (N : News h₀ L s.heap news) (U : UpdF D (listOf us.toArray n) news g) (hz : us.length ≤ 1000)
    (h : ∀ h', Fr h₀ L h' m → News h₀ L h' (g (listOf (us ++ [x]).toArray (n + 1))) → Q .none { s with heap := h' }) : wpAny (model prog w) A (call (.builtin "list.append") [.ref D, x]) Q E s :=
  append_K F N (updF_upd U) (fun h' F' N' => h h' F' (by rw [List.push_toArray] at N'; exact N')) (room_k hz)
theorem cut_at : ∀ {us : List Value} {j : Nat} {y : Value}, us[j]? = some y → kl_cut us j = some (us.take j, y, us.drop (j + 1))
  | [], _, _, h => by simp at h
  | u :: us, 0, y, h => by simp at h; subst h; rfl
  | u :: us, j + 1, y, h => by
    have := cut_at (us := us) (j := j) (y := y) (by simpa using h)
    show (match kl_cut us j with | some (p, y, q) => some (u :: p, y, q) | none => none) = _
    rw [this]
    rfl
theorem pop_led {D : Addr} {i : Int} {j : Nat} {u : Tok} {y : Value} {m : Str → Option Value} {g : Obj → Led} (F : Fr h₀ L s.heap m) (N : News h₀ L s.heap news) (U : UpdF D (listOf us.toArray n) news g) (hi : i = (j : Int)) (hj : us[j]? = some y) (hz : us.length ≤ 1000)
    (h : ∀ h', Fr h₀ L h' m → News h₀ L h' (g (listOf (us.eraseIdx j).toArray (n + 1))) → Q y { s with heap := h' }) : wpAny (model prog w) A (call (.builtin "list.pop") [.ref D, .int i u]) Q E s := by
  have hlt : j < us.length := (List.getElem?_eq_some_iff.mp hj).1
  subst hi
  refine kl_popAt F N ?_ (k := j) ?_ (cut_at (by simpa using hj)) (updF_upd U) (room_k hz) (fun h' F' N' => h h' F' ?_)
  · unfold Builtin.List.listFitsIndex
    simp only [Bool.and_eq_true, decide_eq_true_eq]
    omega
  · unfold seqIndex?
    simp only [List.size_toArray]
    have h1 : ¬ ((j : Int) < 0) := by omega
    rw [if_neg h1]
    have h2 : (decide (0 ≤ (j : Int)) && decide ((j : Int) < (us.length : Int))) = true := by simp; omega
    rw [if_pos h2]
    rfl
  · rw [List.eraseIdx_eq_take_drop_succ]
    exact N'
theorem set_came {d : Addr} {o : Obj} {r : Value} {c z : Int} {tc tz tk : Tok} {m : Str → Option Value} {g : Obj → Led} {Q : Unit → Shared → Prop} (F : Fr h₀ L s.heap m) (N : News h₀ L s.heap news) (U : UpdF d o news g) (hd : o.IsDictOf (PySem.strKind prog w) [(Str.ofString "rows", r), (Str.ofString "came", Value.int c tc)])
    (h : ∀ h' o' t', Fr h₀ L h' m → News h₀ L h' (g o') → o'.IsDictOf (PySem.strKind prog w) [(Str.ofString "rows", r), (Str.ofString "came", Value.int z t')] → Q () { s with heap := h', toks := s.toks + 1 }) : wpAny (model prog w) A (setItem (.ref d) (.str (Str.ofString "came") tk) (.int z tz)) Q E s :=
  kda_set (knd := PySem.strKind _ _) F N U hd (strKind_is _ _ _ _) (by rw [sizeLine_eq]; exact Nat.le_of_ble_eq_true (by with_unfolding_all rfl)) fun h' o' F' N' hd' => h h' o' tz F' N' (by with_unfolding_all exact hd')
theorem set_rows {d : Addr} {o : Obj} {r v x : Value} {tk : Tok} {m : Str → Option Value} {g : Obj → Led} {Q : Unit → Shared → Prop} (F : Fr h₀ L s.heap m) (N : News h₀ L s.heap news) (U : UpdF d o news g) (hd : o.IsDictOf (PySem.strKind prog w) [(Str.ofString "rows", r), (Str.ofString "came", x)])
    (h : ∀ h' o', Fr h₀ L h' m → News h₀ L h' (g o') → o'.IsDictOf (PySem.strKind prog w) [(Str.ofString "rows", v), (Str.ofString "came", x)] → Q () { s with heap := h', toks := s.toks + 1 }) : wpAny (model prog w) A (setItem (.ref d) (.str (Str.ofString "rows") tk) v) Q E s :=
  kda_set (knd := PySem.strKind _ _) F N U hd (strKind_is _ _ _ _) (by rw [sizeLine_eq]; exact Nat.le_of_ble_eq_true (by with_unfolding_all rfl)) fun h' o' F' N' hd' => h h' o' F' N' (by with_unfolding_all exact hd')
end
theorem ev_yes {rs : List R} {came form pick worth : Nat} (h : comes rs form) (h2 : (form : Int) = 2) (hw : (0 : Int) < worth) :
    evRows rs came form pick worth = rs ++ [⟨(((came : Int) + 1) * 3).fmod 11, 10 + ((came : Int) + 1), (worth : Int), 10 + ((came : Int) + 1), 0⟩] ∧ evCame rs came form = came + 1 ∧ evClaims rs came form worth = [10 + ((came : Int) + 1)] := by
  have h3 : form = 2 ∧ 0 < worth := ⟨by omega, by omega⟩
  unfold evRows evCame evClaims
  rw [if_pos h, if_pos h, if_pos h]
  unfold evC evRow
  rw [if_pos h3]
  exact ⟨rfl, rfl, rfl⟩
theorem ev_no {rs : List R} {came form pick worth : Nat} (h : comes rs form) (h2 : ¬ ((form : Int) = 2 ∧ (0 : Int) < worth)) :
    evRows rs came form pick worth = rs ++ [⟨(((came : Int) + 1) * 3).fmod 11, 10 + ((came : Int) + 1), (worth : Int), 0, 0⟩] ∧ evCame rs came form = came + 1 ∧ evClaims rs came form worth = [] := by
  have h3 : ¬ (form = 2 ∧ 0 < worth) := fun h => h2 ⟨by omega, by omega⟩
  unfold evRows evCame evClaims
  rw [if_pos h, if_pos h, if_pos h]
  unfold evC evRow
  rw [if_neg h3]
  exact ⟨rfl, rfl, rfl⟩
theorem ev_pop {rs : List R} {came form pick worth : Nat} {r : R} (h : ¬ comes rs form) (hr : rs[pick % rs.length]? = some r) :
    evRows rs came form pick worth = (if form = 4 then rs.eraseIdx (pick % rs.length) ++ [{ r with p := (worth : Int) }] else rs.eraseIdx (pick % rs.length)) ∧ evCame rs came form = came ∧ evClaims rs came form worth = [] := by
  unfold evRows evCame evClaims
  rw [if_neg h, if_neg h, if_neg h, hr]
  exact ⟨rfl, rfl, rfl⟩
theorem apart3 {wd rl D : Addr} {ow o : Obj} {rest : Led} (h : wd < D ∧ rl < D ∧ AllLt D rest) : ∀ q ∈ (wd, ow) :: (rl, o) :: rest, D ≠ q.1 := by
  intro q hq
  rcases List.mem_cons.mp hq with e | hq
  · subst e
    exact Nat.ne_of_gt h.1
  · rcases List.mem_cons.mp hq with e | hq
    · subst e
      exact Nat.ne_of_gt h.2.1
    · exact Ne.symm (ne_allLt h.2.2 q hq)
theorem perm_ev {a b : Addr × Obj} {tl rest : Led} : ∀ p ∈ a :: b :: (tl ++ rest), p ∈ tl ++ (a :: b :: rest) := by
  intro p hp
  simp only [List.mem_cons, List.mem_append] at hp ⊢
  rcases hp with h | h | h | h
  · exact .inr (.inl h)
  · exact .inr (.inr (.inl h))
  · exact .inl h
  · exact .inr (.inr (.inr h))
section
variable {prog : Program} {w : World} {A : Around} {E : Value → Shared → Prop} {s : Shared} {h₀ : Heap} {L t : Addr} {m : Str → Option Value} {news : Led} {n : Nat} {value slice : PySem.Expr} {x0 x1 x2 x3 x4 : Value} {u : Tok} {Q : Value → Shared → Prop}
/-- the last two of a row, as a tuple of their own -/
theorem row3_led (F : Fr h₀ L s.heap m) (N : News h₀ L s.heap news) (hm : (t, ({ cls := .type "tuple", data := .seq [x0, x1, x2, x3, x4].toArray n } : Obj)) ∈ news)
    (h : ∀ D h', Fr h₀ L h' m → News h₀ L h' ((D, ({ cls := .type "tuple", data := .seq [x3, x4].toArray } : Obj)) :: news) → (∀ q ∈ news, q.1 < D) → Q (.ref D) { s with heap := h' })
    (hs : subscripted slice false (.ref t) (.ref s.heap.objs.size) = operate [.ref s.heap.objs.size, .ref t] (getItem (.ref t) (.ref s.heap.objs.size))) (hg : ∀ r, letTemporaryGo value (.ref t) r = pure ()) :
    wpAny (model prog w) A (subscriptTail value slice (.ref t) (.ref s.heap.objs.size)) Q E { s with heap := s.heap.push { cls := .type "slice", data := .fields #[.int 3 u, .none, .none] } } :=
  slice_tuple_from (a := 3) F N ⟨_, (N _ hm).1, rfl, _, rfl⟩ (by decide) (by show 3 ≤ 5; decide) (fun h' F' N' => h _ h' F' N' fun p hp => Nat.lt_succ_of_lt (Heap.lt_size (N p hp).1)) hs hg (by rw [sizeLine_eq]; exact Nat.le_of_ble_eq_true rfl)
end
section
local macro_rules | `(tactic| walk_at "mine enter") => `(tactic| (
  refine wpAny_call ?_
  k_dflt (refine' code_z ?k1 ?k2 ?k3 ?k4 ?k5 ?kA ?kF ?kK ?k6 ?k7 ?k8 ?kn ?k9 ?kB ?_ ?c2 ?c3 ?c4 ?c5; (case kA => exact rfl); (case kF => exact rfl); (case kK => assumption); (case k1 => k_asm); (case k2 => k_asm); (case k3 => k_asm); (case k4 => k_asm); (case k5 => k_asm); (case k6 => k_is); (case k7 => k_is); (case k8 => exact room_d (by assumption)); (case kn => simp only [List.map_cons, List.map_nil]; exact rfl); (case k9 => exact rfl); (case c5 => decide); (case kB => exact locs rfl); (case c2 => exact rfl); (case c3 => exact rfl); (case c4 => exact rfl); k_whole; intro g' L' h' FG' F' N' B' X' T' kG'; (try simp only [List.zip_cons_cons, List.zip_nil_right, List.reverse_cons, List.reverse_nil, List.nil_append, List.cons_append] at F'); (try dsimp only); (try k_fold))))
local macro_rules | `(tactic| walk_at "CompSrcT") => `(tactic| (k_here; k_dflt (refine LCt.CompSrcT.ledger (by rfl) (by k_asm) (by k_asm) (by k_mem) (by exact size_le (by assumption)) ?_; intro g')))
local macro_rules | `(tactic| walk_at "CompSrc") => `(tactic| (k_here; k_dflt (refine LCg.CompSrc.ledger (by rfl) (by k_asm) (by k_asm) (by k_mem) (by exact size_le (by assumption)) ?_; intro g')))
local macro_rules | `(tactic| walk_at "mine off") => `(tactic| first | exact ne_lt (by assumption) | exact ne_allLt (by assumption) | exact ne_off1 (by assumption) | assumption)
local macro_rules | `(tactic| walk_at "mine grow") => `(tactic| first | exact Grow.refl | assumption | (refine Grow.cons ?ga ?gb; (case ga => walk_at "mine off"); (case gb => walk_at "mine grow")) | (refine Grow.app ?ga ?gb; (case ga => assumption); (case gb => walk_at "mine grow")) | (refine Grow.trans ?ga (by assumption); (case ga => walk_at "mine grow")))
local macro_rules | `(tactic| walk_at "mine mem") => `(tactic| first | exact List.Mem.head _ | assumption | (refine' List.Mem.tail _ ?_; walk_at "mine mem") | (refine' List.mem_append.mpr (Or.inr ?_); walk_at "mine mem") | (refine' List.mem_append.mpr (Or.inl ?_); walk_at "mine mem"))
local macro_rules | `(tactic| k_mem) => `(tactic| walk_at "mine mem")
local macro_rules | `(tactic| walk_at "mine ints") => `(tactic| first | exact IntsAre.nil | exact IntsAre.cons _ _ (by walk_at "mine ints"))
local macro_rules | `(tactic| walk_at "compareOp Gt ref ref") => `(tactic| (k_here; (with_reducible show wpAny _ _ (compareOp CmpOp.Gt (Value.ref _) (Value.ref _)) _ _ _); k_dflt (refine' gt_tuples ?ku ?kN ?ka ?kb ?ki ?kj ?kl ?_; (case kN => k_asm); (case ka => k_mem); (case kb => k_mem); (case ki => walk_at "mine ints"); (case kj => walk_at "mine ints"); (case kl => rfl); (case ku => exact room_v (by assumption)); k_whole)))
local macro_rules | `(tactic| walk_at "call builtin:len") => `(tactic| (k_here; (with_reducible show wpAny _ _ (call (Value.builtin "len") [Value.ref _]) _ _ _); k_dflt (refine' len_led ?kN ?km ?kl ?_ ?kk; (case kN => k_asm); (case km => k_mem); (case kl => assumption); (case kk => decide); k_whole); intro t' tk'; (try dsimp only)))
theorem top_off2 : True := by
  w_top off
  trivial
theorem c_saysD (r : R) : Says 21 1 [r.dat] (.bool (decide (r.d = r.a))) := by
  unfold Says
  k_fill
  intro w p loose mean mg mb dp un gd cn cs a ccd cl outer A₀ base h₀ L m news s vs Q E B F X N T hk hR hd hu hret
  obtain ⟨v, rfl, hv⟩ := all1 hR
  obtain ⟨ra, rn, t0, t1, t2, t3, t4, rfl, hm⟩ := row_inv hv
  walk_at "mine enter"
  k_steps
  exact fin_dat hret (by assumption) N (by assumption) (by assumption) (by assumption) Grow.refl (fun _ h => h) (DatIn.bool _)
theorem top_off3 : True := by
  w_top off
  trivial
theorem c_saysB (r : R) : Says 28 1 [r.dat] (.bool (decide (r.b = r.a))) := by
  unfold Says
  k_fill
  intro w p loose mean mg mb dp un gd cn cs a ccd cl outer A₀ base h₀ L m news s vs Q E B F X N T hk hR hd hu hret
  obtain ⟨v, rfl, hv⟩ := all1 hR
  obtain ⟨ra, rn, t0, t1, t2, t3, t4, rfl, hm⟩ := row_inv hv
  walk_at "mine enter"
  k_steps
  exact fin_dat hret (by assumption) N (by assumption) (by assumption) (by assumption) Grow.refl (fun _ h => h) (DatIn.bool _)
theorem c_withSaid (r : R) (x : Int × Int) : Says 71 1 [r.dat, pairD x] (r.said x).dat := by
  unfold Says
  k_fill
  intro w p loose mean mg mb dp un gd cn cs a ccd cl outer A₀ base h₀ L m news s vs Q E B F X N T hk hR hd hu hret
  obtain ⟨v, v2, rfl, hv, hv2⟩ := all2 hR
  obtain ⟨ra, rn, t0, t1, t2, t3, t4, rfl, hm⟩ := row_inv hv
  obtain ⟨pa, pn, u0, u1, rfl, hm2⟩ := pair_inv hv2
  walk_at "mine enter"
  k_steps
  exact fin_dat hret (by assumption) N (by assumption) (by assumption) (by assumption) (Grow.cons (ne_lt (by assumption)) Grow.refl) (fun _ h => h) (DatIn.tuple (List.Mem.head _) (.cons (.int _ _) (.cons (.int _ _) (.cons (.int _ _) (.cons (.int _ _) (.cons (.int _ _) .nil))))))
theorem c_addressOf (o : Option R) : Says 47 1 [optD o] (.int (addrOf o)) := by
  unfold Says
  k_fill
  intro w p loose mean mg mb dp un gd cn cs a ccd cl outer A₀ base h₀ L m news s vs Q E B F X N T hk hR hd hu hret
  obtain ⟨v, rfl, hv⟩ := all1 hR
  cases o with
  | none =>
    obtain rfl := none_inv hv
    walk_at "mine enter"
    k_steps
    exact fin_dat hret (by assumption) N (by assumption) (by assumption) (by assumption) Grow.refl (fun _ h => h) (DatIn.int _ _)
  | some r =>
    obtain ⟨ra, rn, t0, t1, t2, t3, t4, rfl, hm⟩ := row_inv hv
    walk_at "mine enter"
    k_steps
    exact fin_dat hret (by assumption) N (by assumption) (by assumption) (by assumption) Grow.refl (fun _ h => h) (DatIn.int _ _)
theorem top_off4 : True := by
  w_top off
  trivial
theorem c_canBeChosen (rs : List R) (hl : rs.length ≤ 32) : Says 33 1 [rowsD rs] (rowsD (able rs)) := by
  unfold Says
  k_fill
  intro w p loose mean mg mb dp un gd cn cs a ccd cl outer A₀ base h₀ L m news s vs Q E B F X N T hk hR hd hu hret
  obtain ⟨v, rfl, hv⟩ := all1 hR
  obtain ⟨la, us, ln, rfl, hm, hD⟩ := list_inv hv
  have hul : us.length ≤ 32 := by rw [hD.length, List.length_map]; exact hl
  walk_at "mine enter"
  k_steps
  refine comp_T R.dat (fun r => decide (r.p > 0)) R.dat hD hm ?_ ?_
  · intro r hr v I oI C oC D m₂ ys nw h tk E' hv' G hC hx F1 N1 off ne
    obtain ⟨ra, rn, t0, t1, t2, t3, t4, rfl, hm'⟩ := row_inv hv'
    dsimp only
    k_steps
    refine CTurn.intro rfl (fun hk => ?_) (fun hk => ?_)
    · k_steps
      exact CEnd.same (by assumption) (by assumption) off hv'
    · exact CEnd.same (by assumption) (by assumption) off trivial
  · intro ys nw hy hyl G
    k_steps
    exact fin_dat hret (by assumption) N (by assumption) (by assumption) (by assumption) (by walk_at "mine grow") (fun _ h => h) (DatIn.list (.head _) (hy.mono fun _ h => .tail _ h))
theorem top_off5 : True := by
  w_top off
  trivial
theorem c_bestRow (rs : List R) (hl : rs.length ≤ 32) : Says 40 1 [rowsD rs] (optD (bestR rs)) := by
  unfold Says
  k_fill
  intro w p loose mean mg mb dp un gd cn cs a ccd cl outer A₀ base h₀ L m news s vs Q E B F X N T hk hR hd hu hret
  obtain ⟨v, rfl, hv⟩ := all1 hR
  obtain ⟨la, us, ln, rfl, hm, hD⟩ := list_inv hv
  have hul : us.length ≤ 32 := by rw [hD.length, List.length_map]; exact hl
  walk_at "mine enter"
  k_steps
  rename Fr _ _ _ _ => lF
  with_unfolding_all refine' For_invVF lF ?k1 ?k2 ?_
  case k1 => exact rfl
  case k2 => exact rfl
  k_steps
  k_dflt (refine' for_list R.dat (fun i m nx => ∃ (vb : Value) (u : Str → Option Value), m = (fun y => if y = Str.ofString "best" then some vb else if y = Str.ofString "row" then u y else List.lookup y [(Str.ofString "rows", Value.ref la)]) ∧ news = nx ∧ DatIn nx vb (optD (bestR (rs.take i)))) hD hm ?kh ?kL ?kF ?kN ?kj ?kt ?kd)
  case kh => exact rfl
  case kF => exact lF
  case kL => exact rfl
  case kN => assumption
  case kj => exact ⟨.none, fun y => List.lookup y [(Str.ofString "rows", Value.ref la)], by funext y; by_cases h1 : y = Str.ofString "best" <;> by_cases h2 : y = Str.ofString "row" <;> simp (decide := true) [h1, h2], rfl, DatIn.none⟩
  case kt =>
    rintro i r v m₁ nx h tk own hx hv' G ⟨vb, u, rfl, rfl, hb⟩ hoff F1 N1
    obtain ⟨ra, rn, t0, t1, t2, t3, t4, rfl, hm'⟩ := row_inv hv'
    dsimp only at F1
    cases hbe : bestR (rs.take i) with
    | none =>
      rw [hbe] at hb
      obtain rfl := none_inv hb
      k_steps
      refine TEnd.next news (by assumption) (by assumption) (fun _ h => h) hoff Grow.refl ⟨.ref ra, fun _ => some (.ref ra), ?_, rfl, ?_⟩
      · funext y; by_cases h1 : y = Str.ofString "best" <;> by_cases h2 : y = Str.ofString "row" <;> simp (decide := true) [h1, h2]
      · rw [take_snoc hx, bestR_snoc, hbe]
        exact hv'
    | some b =>
      rw [hbe] at hb
      obtain ⟨rb, bn, b0, b1, b2, b3, b4, rfl, hmb⟩ := row_inv hb
      k_steps
      · refine TEnd.next news (by assumption) (by assumption) ?_ hoff Grow.refl ⟨.ref ra, fun _ => some (.ref ra), ?_, rfl, ?_⟩
        · intro p hp
          exact .tail _ (.tail _ hp)
        · funext y; by_cases h1 : y = Str.ofString "best" <;> by_cases h2 : y = Str.ofString "row" <;> simp (decide := true) [h1, h2]
        · rw [take_snoc hx, bestR_snoc, hbe]
          rw [bestStep_yes (by assumption)]
          exact hv'
      · refine TEnd.next news (by assumption) (by assumption) ?_ hoff Grow.refl ⟨.ref rb, fun _ => some (.ref ra), ?_, rfl, ?_⟩
        · intro p hp
          exact .tail _ (.tail _ hp)
        · funext y; by_cases h1 : y = Str.ofString "best" <;> by_cases h2 : y = Str.ofString "row" <;> simp (decide := true) [h1, h2]
        · rw [take_snoc hx, bestR_snoc, hbe]
          rw [bestStep_no (by assumption)]
          exact hb
  case kd =>
    rintro m₁ nx h tk ⟨vb, u, rfl, rfl, hb⟩ G F1 N1
    k_steps
    rw [List.take_length] at hb
    exact fin_dat hret (by assumption) N (by assumption) (by assumption) (by assumption) (by walk_at "mine grow") (fun _ h => h) hb
local macro_rules | `(tactic| walk_at "mine sub") => `(tactic| first | exact sub_id | (refine sub_cons ?_; walk_at "mine sub") | (refine sub_app ?_; walk_at "mine sub") | (refine sub_appL ?_; walk_at "mine sub") | (refine sub_grow (by assumption) ?_; walk_at "mine sub") | assumption)
local macro_rules | `(tactic| walk_at "mine dat") => `(tactic| first | assumption | exact DatIn.int _ _ | exact DatIn.bool _ | exact DatIn.none | (refine' DatIn.mono ?ms ?mh; (case mh => assumption); (case ms => walk_at "mine sub")))
local macro_rules | `(tactic| walk_at "mine dats") => `(tactic| first | exact DatAll.nil | exact DatAll.cons (by walk_at "mine dat") (by walk_at "mine dats"))
local macro_rules | `(tactic| walk_at "mine len") => `(tactic| first | assumption | exact Nat.le_trans (List.length_filter_le _ _) (by walk_at "mine len") | (simp only [List.length_append, List.length_cons, List.length_nil, List.length_map, List.length_take, List.length_drop, List.length_reverse, List.length_set]; omega))
local macro_rules | `(tactic| walk_at "call ref") => `(tactic| (k_here; (with_reducible show wpAny _ _ (call (Value.ref 21) _) _ _ _); k_dflt (refine' says_bool (c_saysD _) ?k1 ?k2 ?k3 ?k4 ?k5 ?kk ?kd sub_id ?kh ?ku ?_; (case k1 => k_asm); (case k2 => k_asm); (case k3 => k_asm); (case k4 => k_asm); (case k5 => k_asm); (case kk => first | exact rfl | assumption); (case kd => walk_at "mine dats"); (case kh => exact room_s (by assumption) (by decide)); (case ku => exact room_su (by assumption) (by decide)); k_whole); intro h' tk' F' N'; (try dsimp only)))
local macro_rules | `(tactic| walk_at "call ref") => `(tactic| (k_here; (with_reducible show wpAny _ _ (call (Value.ref 28) _) _ _ _); k_dflt (refine' says_bool (c_saysB _) ?k1 ?k2 ?k3 ?k4 ?k5 ?kk ?kd sub_id ?kh ?ku ?_; (case k1 => k_asm); (case k2 => k_asm); (case k3 => k_asm); (case k4 => k_asm); (case k5 => k_asm); (case kk => first | exact rfl | assumption); (case kd => walk_at "mine dats"); (case kh => exact room_s (by assumption) (by decide)); (case ku => exact room_su (by assumption) (by decide)); k_whole); intro h' tk' F' N'; (try dsimp only)))
local macro_rules | `(tactic| walk_at "call ref") => `(tactic| (k_here; (with_reducible show wpAny _ _ (call (Value.ref 33) _) _ _ _); k_dflt (refine' says_dat (c_canBeChosen _ ?hl0) ?k1 ?k2 ?k3 ?k4 ?k5 ?kk ?kd sub_id ?kh ?ku ?_; (case k1 => k_asm); (case k2 => k_asm); (case k3 => k_asm); (case k4 => k_asm); (case k5 => k_asm); (case kk => first | exact rfl | assumption); (case kd => walk_at "mine dats"); (case hl0 => walk_at "mine len"); (case kh => exact room_s (by assumption) (by decide)); (case ku => exact room_su (by assumption) (by decide)); k_whole); intro r' tl' h' tk' F' N' G' D'; (try dsimp only)))
local macro_rules | `(tactic| walk_at "call ref") => `(tactic| (k_here; (with_reducible show wpAny _ _ (call (Value.ref 40) _) _ _ _); k_dflt (refine' says_dat (c_bestRow _ ?hl0) ?k1 ?k2 ?k3 ?k4 ?k5 ?kk ?kd sub_id ?kh ?ku ?_; (case k1 => k_asm); (case k2 => k_asm); (case k3 => k_asm); (case k4 => k_asm); (case k5 => k_asm); (case kk => first | exact rfl | assumption); (case kd => walk_at "mine dats"); (case hl0 => walk_at "mine len"); (case kh => exact room_s (by assumption) (by decide)); (case ku => exact room_su (by assumption) (by decide)); k_whole); intro r' tl' h' tk' F' N' G' D'; (try dsimp only)))
local macro_rules | `(tactic| walk_at "call ref") => `(tactic| (k_here; (with_reducible show wpAny _ _ (call (Value.ref 47) _) _ _ _); k_dflt (refine' says_int (c_addressOf _) ?k1 ?k2 ?k3 ?k4 ?k5 ?kk ?kd sub_id ?kh ?ku ?_; (case k1 => k_asm); (case k2 => k_asm); (case k3 => k_asm); (case k4 => k_asm); (case k5 => k_asm); (case kk => first | exact rfl | assumption); (case kd => walk_at "mine dats"); (case kh => exact room_s (by assumption) (by decide)); (case ku => exact room_su (by assumption) (by decide)); k_whole); intro t' h' tk' F' N'; (try dsimp only)))
local macro_rules | `(tactic| walk_at "call ref") => `(tactic| (k_here; (with_reducible show wpAny _ _ (call (Value.ref 71) _) _ _ _); k_dflt (refine' says_dat (c_withSaid _ _) ?k1 ?k2 ?k3 ?k4 ?k5 ?kk ?kd sub_id ?kh ?ku ?_; (case k1 => k_asm); (case k2 => k_asm); (case k3 => k_asm); (case k4 => k_asm); (case k5 => k_asm); (case kk => first | exact rfl | assumption); (case kd => walk_at "mine dats"); (case kh => exact room_s (by assumption) (by decide)); (case ku => exact room_su (by assumption) (by decide)); k_whole); intro r' tl' h' tk' F' N' G' D'; (try dsimp only)))
theorem top_off6 : True := by
  w_top off
  trivial
theorem c_chosenBackup (rs : List R) (hl : rs.length ≤ 32) : Says 52 2 [rowsD rs] (.int (chosenB rs)) := by
  unfold Says
  k_fill
  intro w p loose mean mg mb dp un gd cn cs a ccd cl outer A₀ base h₀ L m news s vs Q E B F X N T hk hR hd hu hret
  obtain ⟨v, rfl, hv⟩ := all1 hR
  obtain ⟨la, us, ln, rfl, hm, hD⟩ := list_inv hv
  have hul : us.length ≤ 32 := by rw [hD.length, List.length_map]; exact hl
  walk_at "mine enter"
  k_steps
  refine comp_T R.dat (fun r => !decide (r.d = r.a)) R.dat hD hm ?_ ?_
  · intro r hr v I oI C oC D m₂ ys nw h tk E' hv' G hC hx F1 N1 off ne
    dsimp only
    k_steps
    refine CTurn.intro rfl (fun hk => ?_) (fun hk => ?_)
    · k_steps
      exact CEnd.same (by assumption) (by assumption) off hv'
    · exact CEnd.same (by assumption) (by assumption) off trivial
  · intro ys nw hy hyl G
    have hyl : ys.length ≤ 32 := Nat.le_trans hyl hl
    unfold LCg.FinA
    intro D0 h0 tk0 F0 N0 o0
    have hL0 : DatIn ((D0, LCg.lst ys) :: nw) (.ref D0) (rowsD (notD rs)) := DatIn.list (.head _) (hy.mono fun _ h => .tail _ h)
    dsimp only
    k_steps
    refine comp_T R.dat (fun r => decide (r.b = r.a)) R.dat (xs := notD rs) (hy.mono fun _ h => .tail _ h) (.head _) ?_ ?_
    · intro r hr v I oI C oC D m₂ ys nw h tk E' hv' G hC hx F1 N1 off ne
      dsimp only
      k_steps
      refine CTurn.intro rfl (fun hk => ?_) (fun hk => ?_)
      · k_steps
        exact CEnd.same (by assumption) (by assumption) off hv'
      · exact CEnd.same (by assumption) (by assumption) off trivial
    · intro zs nz hz hzl Gz
      have hzl : zs.length ≤ 32 := Nat.le_trans hzl (by walk_at "mine len")
      unfold LCg.FinA
      intro D1 h1 tk1 F1 N1 o1
      have hS : DatIn ((D1, LCg.lst zs) :: nz) (.ref D1) (rowsD (isB (notD rs))) := DatIn.list (.head _) (hz.mono fun _ h => .tail _ h)
      dsimp only
      k_steps
      · have hc : (isB (notD rs)).length > 0 := by
          have e := hz.length
          rw [List.length_map] at e
          have e2 : zs.length = (isB (notD rs)).length := e
          omega
        have e : chosenB rs = addrOf (bestR (isB (notD rs))) := by unfold chosenB; rw [if_pos hc]
        rw [e] at hret
        exact fin_dat hret (by assumption) N (by assumption) (by assumption) (by assumption) Grow.refl (by walk_at "mine sub") (DatIn.int _ _)
      · have hc : ¬ (isB (notD rs)).length > 0 := by
          have e := hz.length
          rw [List.length_map] at e
          have e2 : zs.length = (isB (notD rs)).length := e
          omega
        have e : chosenB rs = addrOf (bestR (notD rs)) := by unfold chosenB; rw [if_neg hc]
        rw [e] at hret
        exact fin_dat hret (by assumption) N (by assumption) (by assumption) (by assumption) Grow.refl (by walk_at "mine sub") (DatIn.int _ _)
local macro_rules | `(tactic| walk_at "call ref") => `(tactic| (k_here; (with_reducible show wpAny _ _ (call (Value.ref 52) _) _ _ _); k_dflt (refine' says_int (c_chosenBackup _ ?hl0) ?k1 ?k2 ?k3 ?k4 ?k5 ?kk ?kd sub_id ?kh ?ku ?_; (case k1 => k_asm); (case k2 => k_asm); (case k3 => k_asm); (case k4 => k_asm); (case k5 => k_asm); (case kk => first | exact rfl | assumption); (case kd => walk_at "mine dats"); (case hl0 => walk_at "mine len"); (case kh => exact room_s (by assumption) (by decide)); (case ku => exact room_su (by assumption) (by decide)); k_whole); intro t' h' tk' F' N'; (try dsimp only)))
theorem top_off7 : True := by
  w_top off
  trivial
theorem c_chosenDesignated (rs : List R) (bk : Int) (hl : rs.length ≤ 32) : Says 57 2 [rowsD rs, .int bk] (.int (chosenD rs bk)) := by
  unfold Says
  k_fill
  intro w p loose mean mg mb dp un gd cn cs a ccd cl outer A₀ base h₀ L m news s vs Q E B F X N T hk hR hd hu hret
  obtain ⟨v, v2, rfl, hv, hv2⟩ := all2 hR
  obtain ⟨la, us, ln, rfl, hm, hD⟩ := list_inv hv
  obtain ⟨bt, rfl⟩ := int_inv hv2
  have hul : us.length ≤ 32 := by rw [hD.length, List.length_map]; exact hl
  walk_at "mine enter"
  k_steps
  refine comp_T R.dat (fun r => decide (r.d = r.a)) R.dat hD hm ?_ ?_
  · intro r hr v I oI C oC D m₂ ys nw h tk E' hv' G hC hx F1 N1 off ne
    dsimp only
    k_steps
    refine CTurn.intro rfl (fun hk => ?_) (fun hk => ?_)
    · k_steps
      exact CEnd.same (by assumption) (by assumption) off hv'
    · exact CEnd.same (by assumption) (by assumption) off trivial
  · intro ys nw hy hyl G
    have hyl : ys.length ≤ 32 := Nat.le_trans hyl hl
    unfold LCg.FinE
    intro D0 h0 tk0 F0 N0 o0
    have hL0 : DatIn ((D0, LCg.lst ys) :: nw) (.ref D0) (rowsD (isD rs)) := DatIn.list (.head _) (hy.mono fun _ h => .tail _ h)
    dsimp only
    k_steps
    rename DatIn _ _ (optD _) => hB
    cases hbe : bestR (isD rs) with
    | none =>
      have e : chosenD rs bk = bk := by unfold chosenD; rw [hbe]
      rw [e] at hret
      rw [hbe] at hB
      obtain rfl := none_inv hB
      k_steps
      exact fin_dat hret (by assumption) N (by assumption) (by assumption) (by assumption) Grow.refl (by walk_at "mine sub") (DatIn.int _ _)
    | some r =>
      have e : chosenD rs bk = addrOf (some r) := by unfold chosenD; rw [hbe]; rfl
      rw [e] at hret
      rw [hbe] at hB
      obtain ⟨rb, bn, b0, b1, b2, b3, b4, rfl, hmb⟩ := row_inv hB
      k_steps
      exact fin_dat hret (by assumption) N (by assumption) (by assumption) (by assumption) Grow.refl (by walk_at "mine sub") (DatIn.int _ _)
theorem c_isTurned (r : R) (x : Int × Int) : Says 78 2 [r.dat, pairD x] (.bool (isTurned r x)) := by
  unfold Says
  k_fill
  intro w p loose mean mg mb dp un gd cn cs a ccd cl outer A₀ base h₀ L m news s vs Q E B F X N T hk hR hd hu hret
  obtain ⟨v, v2, rfl, hv, hv2⟩ := all2 hR
  obtain ⟨ra, rn, t0, t1, t2, t3, t4, rfl, hm⟩ := row_inv hv
  obtain ⟨pa, pn, u0, u1, rfl, hm2⟩ := pair_inv hv2
  walk_at "mine enter"
  k_steps
  · rw [isTurned_yes (by assumption)] at hret
    exact fin_dat hret (by assumption) N (by assumption) (by assumption) (by assumption) Grow.refl (by walk_at "mine sub") (DatIn.bool _)
  · rw [isTurned_no (by assumption)] at hret
    exact fin_dat hret (by assumption) N (by assumption) (by assumption) (by assumption) Grow.refl (by walk_at "mine sub") (DatIn.bool _)
local macro_rules | `(tactic| walk_at "mine room") => `(tactic| first | omega | ((with_reducible refine Nat.le_trans (pick_le _ _ _) ?_); walk_at "mine room") | (simp only [List.length_append, List.length_cons, List.length_nil, List.length_map, List.length_take, List.length_drop, List.length_reverse, List.length_set, List.length_replicate]; omega))
local macro_rules | `(tactic| walk_at "call type:list") => `(tactic| (k_here; (with_reducible show wpAny _ _ (call (Value.type _) [Value.ref _]) _ _ _); k_dflt (refine' list_led ?F ?N ?m ?z ?_; (case F => k_asm); (case N => k_asm); (case m => k_mem); (case z => walk_at "mine room"); k_whole); intro D' c' h' F' N' l1; (try k_sweep)))
local macro_rules | `(tactic| walk_at "binaryOp Add ref ref") => `(tactic| (k_here; (with_reducible show wpAny _ _ (binaryOp _ (Value.ref _) (Value.ref _)) _ _ _); k_dflt (refine' add_led ?F ?N ?a ?b ?z ?y ?_; (case F => k_asm); (case N => k_asm); (case a => k_mem); (case b => k_mem); (case z => walk_at "mine room"); (case y => walk_at "mine room"); k_whole); intro D' h' F' N' l1; (try k_sweep)))
local macro_rules | `(tactic| walk_at "subscriptTail") => `(tactic| (k_here; (with_reducible show wpAny _ _ (subscriptTail _ (PySem.Expr.Slice _ _ none _) (Value.ref _) (Value.ref _)) _ _ _); k_dflt (refine' slice_led ?F ?N ?m ?z ?p ?q ?_ ?s ?t; (case F => k_asm); (case N => k_asm); (case m => k_mem); (case z => walk_at "mine room"); (case p => kmk_part); (case q => kmk_part); (case s => with_unfolding_all rfl); (case t => kmk_pure); k_whole); intro D' h' F' N' l1; (try k_sweep)))
local macro_rules | `(tactic| walk_at "subscriptTail") => `(tactic| (k_here; (with_reducible show wpAny _ _ (subscriptTail _ (PySem.Expr.Slice none none (some _) _) (Value.ref _) (Value.ref _)) _ _ _); k_dflt (refine' rev_led ?F ?N ?m ?z ?p ?_ ?s ?t; (case F => k_asm); (case N => k_asm); (case m => k_mem); (case z => walk_at "mine room"); (case p => kmk_part); (case s => with_unfolding_all rfl); (case t => kmk_pure); k_whole); intro D' h' F' N' l1; (try k_sweep)))
local macro_rules | `(tactic| walk_at "binaryOp Mult ref int") => `(tactic| (k_here; (with_reducible show wpAny _ _ (binaryOp _ (Value.ref _) (Value.int _ _)) _ _ _); k_dflt (refine' mul_led ?F ?N ?m ?z ?y ?_; (case F => k_asm); (case N => k_asm); (case m => k_mem); (case z => walk_at "mine room"); (case y => walk_at "mine room"); k_whole); intro D' h' F' N' l1; (try k_sweep)))
local macro_rules | `(tactic| walk_at "call ref") => `(tactic| (k_here; (with_reducible show wpAny _ _ (call (Value.ref 57) _) _ _ _); k_dflt (refine' says_int (c_chosenDesignated _ _ ?hl0) ?k1 ?k2 ?k3 ?k4 ?k5 ?kk ?kd sub_id ?kh ?ku ?_; (case k1 => k_asm); (case k2 => k_asm); (case k3 => k_asm); (case k4 => k_asm); (case k5 => k_asm); (case kk => first | exact rfl | assumption); (case kd => walk_at "mine dats"); (case hl0 => walk_at "mine len"); (case kh => exact room_s (by assumption) (by decide)); (case ku => exact room_su (by assumption) (by decide)); k_whole); intro t' h' tk' F' N'; (try dsimp only)))
local macro_rules | `(tactic| walk_at "call ref") => `(tactic| (k_here; (with_reducible show wpAny _ _ (call (Value.ref 64) _) _ _ _); k_dflt (refine' says_dat (c_oneRound _ ?hl0) ?k1 ?k2 ?k3 ?k4 ?k5 ?kk ?kd sub_id ?kh ?ku ?_; (case k1 => k_asm); (case k2 => k_asm); (case k3 => k_asm); (case k4 => k_asm); (case k5 => k_asm); (case kk => first | exact rfl | assumption); (case kd => walk_at "mine dats"); (case hl0 => walk_at "mine len"); (case kh => exact room_s (by assumption) (by decide)); (case ku => exact room_su (by assumption) (by decide)); k_whole); intro r' tl' h' tk' F' N' G' D'; (try dsimp only)))
local macro_rules | `(tactic| walk_at "call ref") => `(tactic| (k_here; (with_reducible show wpAny _ _ (call (Value.ref 78) _) _ _ _); k_dflt (refine' says_bool (c_isTurned _ _) ?k1 ?k2 ?k3 ?k4 ?k5 ?kk ?kd sub_id ?kh ?ku ?_; (case k1 => k_asm); (case k2 => k_asm); (case k3 => k_asm); (case k4 => k_asm); (case k5 => k_asm); (case kk => first | exact rfl | assumption); (case kd => walk_at "mine dats"); (case kh => exact room_s (by assumption) (by decide)); (case ku => exact room_su (by assumption) (by decide)); k_whole); intro h' tk' F' N'; (try dsimp only)))
theorem top_off8 : True := by
  w_top off
  trivial
theorem c_oneRound (rs : List R) (hl : rs.length ≤ 32) : Says 64 3 [rowsD rs] (pairD (oneRound rs)) := by
  unfold Says
  k_fill
  intro w p loose mean mg mb dp un gd cn cs a ccd cl outer A₀ base h₀ L m news s vs Q E B F X N T hk hR hd hu hret
  obtain ⟨v, rfl, hv⟩ := all1 hR
  obtain ⟨la, us, ln, rfl, hm, hD⟩ := list_inv hv
  have hla : (able rs).length ≤ 32 := Nat.le_trans (List.length_filter_le _ _) hl
  walk_at "mine enter"
  k_steps
  exact fin_all hret (by assumption) N (by assumption) (by assumption) (by assumption) (by walk_at "mine grow") (DatIn.tuple (.head _) (.cons (.int _ _) (.cons (.int _ _) .nil)))
theorem c_elect (rs : List R) (own : R) (hl : rs.length ≤ 31) : Says 85 4 [rowsD rs, own.dat] (pairD (electR rs own)) := by
  unfold Says
  k_fill
  intro w p loose mean mg mb dp un gd cn cs a ccd cl outer A₀ base h₀ L m news s vs Q E B F X N T hk hR hd hu hret
  obtain ⟨v, v2, rfl, hv, hv2⟩ := all2 hR
  obtain ⟨la, us, ln, rfl, hm, hD⟩ := list_inv hv
  have hul : us.length ≤ 31 := by rw [hD.length, List.length_map]; exact hl
  walk_at "mine enter"
  k_steps
  have hl1 : (rs ++ [own]).length ≤ 32 := by walk_at "mine room"
  have hd1 : DatAll news (us ++ [v2]) ((rs ++ [own]).map R.dat) := datAll_rows hD (datAll_one hv2)
  refine says_dat (c_oneRound (rs ++ [own]) hl1) (by k_asm) (by k_asm) (by k_asm) (by k_asm) (by k_asm) (by first | exact rfl | assumption) (DatAll.cons (DatIn.list (by k_mem) (hd1.mono (by walk_at "mine sub"))) .nil) sub_id (room_s (by assumption) (by decide)) (room_su (by assumption) (by decide)) ?_
  intro r1 tl1 h1 tk1 F1 N1 G1 D1
  dsimp only
  k_steps
  · rw [electR_yes (by assumption)] at hret
    rename DatIn _ _ (R.dat (R.said _ _)) => hS
    have hl2 : (rs ++ [own.said (oneRound (rs ++ [own]))]).length ≤ 32 := by walk_at "mine room"
    have hd2 := datAll_rows (hD.mono (by walk_at "mine sub")) (datAll_one hS)
    refine says_dat (c_oneRound (rs ++ [own.said (oneRound (rs ++ [own]))]) hl2) (by k_asm) (by k_asm) (by k_asm) (by k_asm) (by k_asm) (by first | exact rfl | assumption) (DatAll.cons (DatIn.list (by k_mem) (hd2.mono (by walk_at "mine sub"))) .nil) sub_id (room_s (by assumption) (by decide)) (room_su (by assumption) (by decide)) ?_
    intro r3 tl3 h3 tk3 F3 N3 G3 D3
    dsimp only
    k_steps
    exact fin_all hret (by assumption) N (by assumption) (by assumption) (by assumption) (by walk_at "mine grow") D3
  · rw [electR_no (by assumption)] at hret
    exact fin_all hret (by assumption) N (by assumption) (by assumption) (by assumption) (by walk_at "mine grow") (by walk_at "mine dat")
local macro_rules | `(tactic| walk_at "exec For Name Call cons nil") => `(tactic| (refine hold_out ?_))
local macro_rules | `(tactic| walk_at "exec For Name Name cons nil") => `(tactic| (refine hold_out ?_))
local macro_rules | `(tactic| walk_at "exec For Name Call") => `(tactic| (refine hold_out ?_))
local macro_rules | `(tactic| walk_at "exec For Name") => `(tactic| (refine hold_out ?_))
local macro_rules | `(tactic| walk_at "exec For") => `(tactic| (refine hold_out ?_))
local macro_rules | `(tactic| walk_at "call type:range") => `(tactic| (refine hold_out ?_))
local macro_rules | `(tactic| walk_at "subscriptTail") => `(tactic| (k_here; (with_reducible show wpAny _ _ (subscriptTail _ _ (Value.ref _) (Value.int _ _)) _ _ _); k_dflt (refine' sub_led ?N ?m ?z ?y ?v ?_ ?s; (case N => k_asm); (case m => k_mem); (case v => assumption); (case z => walk_at "mine room"); (case y => walk_at "mine room"); (case s => with_unfolding_all rfl); k_whole)))
local macro_rules | `(tactic| walk_at "subscriptTail Name Slice ref ref") => `(tactic| (k_here; (with_reducible show wpAny _ _ (subscriptTail _ (PySem.Expr.Slice _ _ none _) (Value.ref _) (Value.ref _)) _ _ _); k_dflt (refine' slice_led ?F ?N ?m ?z ?p ?q ?_ ?s ?t; (case F => k_asm); (case N => k_asm); (case m => k_mem); (case z => walk_at "mine room"); (case p => kmk_part); (case q => kmk_part); (case s => with_unfolding_all rfl); (case t => kmk_pure); k_whole); intro D' h' F' N' l1; (try k_sweep)))
local macro_rules | `(tactic| walk_at "subscriptTail Subscript Slice ref ref") => `(tactic| (k_here; (with_reducible show wpAny _ _ (subscriptTail _ (PySem.Expr.Slice _ _ none _) (Value.ref _) (Value.ref _)) _ _ _); k_dflt (refine' slice_led ?F ?N ?m ?z ?p ?q ?_ ?s ?t; (case F => k_asm); (case N => k_asm); (case m => k_mem); (case z => walk_at "mine room"); (case p => kmk_part); (case q => kmk_part); (case s => with_unfolding_all rfl); (case t => kmk_pure); k_whole); intro D' h' F' N' l1; (try k_sweep)))
local macro_rules | `(tactic| walk_at "subscriptTail Name Slice ref ref") => `(tactic| (k_here; (with_reducible show wpAny _ _ (subscriptTail _ (PySem.Expr.Slice none none (some _) _) (Value.ref _) (Value.ref _)) _ _ _); k_dflt (refine' rev_led ?F ?N ?m ?z ?p ?_ ?s ?t; (case F => k_asm); (case N => k_asm); (case m => k_mem); (case z => walk_at "mine room"); (case p => kmk_part); (case s => with_unfolding_all rfl); (case t => kmk_pure); k_whole); intro D' h' F' N' l1; (try k_sweep)))
local macro_rules | `(tactic| walk_at "subscriptTail Subscript Slice ref ref") => `(tactic| (k_here; (with_reducible show wpAny _ _ (subscriptTail _ (PySem.Expr.Slice none none (some _) _) (Value.ref _) (Value.ref _)) _ _ _); k_dflt (refine' rev_led ?F ?N ?m ?z ?p ?_ ?s ?t; (case F => k_asm); (case N => k_asm); (case m => k_mem); (case z => walk_at "mine room"); (case p => kmk_part); (case s => with_unfolding_all rfl); (case t => kmk_pure); k_whole); intro D' h' F' N' l1; (try k_sweep)))
local macro_rules | `(tactic| walk_at "call ref") => `(tactic| (k_here; (with_reducible show wpAny _ _ (call (Value.ref 85) _) _ _ _); k_dflt (refine' says_dat (c_elect _ _ ?hl0) ?k1 ?k2 ?k3 ?k4 ?k5 ?kk ?kd sub_id ?kh ?ku ?_; (case k1 => k_asm); (case k2 => k_asm); (case k3 => k_asm); (case k4 => k_asm); (case k5 => k_asm); (case kk => first | exact rfl | assumption); (case kd => walk_at "mine dats"); (case hl0 => walk_at "mine len"); (case kh => exact room_s (by assumption) (by decide)); (case ku => exact room_su (by assumption) (by decide)); k_whole); intro r' tl' h' tk' F' N' G' D'; (try dsimp only)))
theorem top_off9 : True := by
  w_top off
  trivial
local macro_rules | `(tactic| walk_at "call ref") => `(tactic| ((with_reducible show wpAny _ _ (call (Value.ref 71) _) _ _ _); (refine hold_out ?_)))
theorem c_toldRound (rs : List R) (hl : rs.length ≤ 31) : Says 102 5 [rowsD rs] (rowsD (told rs)) := by
  unfold Says
  k_fill
  intro w p loose mean mg mb dp un gd cn cs a ccd cl outer A₀ base h₀ L m news s vs Q E B F X N T hk hR hd hu hret
  obtain ⟨v, rfl, hv⟩ := all1 hR
  obtain ⟨la, us, ln, rfl, hm, hD⟩ := list_inv hv
  have hul : us.length ≤ 31 := by rw [hD.length, List.length_map]; exact hl
  walk_at "mine enter"
  k_steps
  refine hold_in ?_
  rename Fr _ _ _ _ => lF
  with_unfolding_all refine' For_invVF lF ?k1 ?k2 ?_
  case k1 => exact rfl
  case k2 => exact rfl
  k_steps
  refine hold_in ?_
  rename_i D0 c0 hh1 l1 hh2 N1 t1 tk1
  have hlen : us.length = rs.length := by rw [hD.length, List.length_map]
  k_dflt (refine' for_range (fun i m nx => ∃ (us' : List Value) (rest : Led) (u : Str → Option Value), m = (fun y => if y = Str.ofString "at" then u y else if y = Str.ofString "pair" then u y else if y = Str.ofString "found" then some (.ref D0) else List.lookup y [(Str.ofString "rows", Value.ref la)]) ∧ nx = (D0, listOf us'.toArray c0) :: rest ∧ Grow news rest ∧ (∀ p ∈ rest, p.1 ≠ D0) ∧ DatAll rest us' ((toldN rs i).map R.dat)) us.length ?hn ?kh ?kL ?kF ?kN ?kj ?kt ?kd)
  case kF => exact lF
  case kL => exact rfl
  case kh => exact rfl
  case hn => omega
  case kN => exact N1
  case kj =>
    refine ⟨us, news, fun y => List.lookup y [(Str.ofString "rows", Value.ref la)], ?_, rfl, Grow.refl, ne_lt l1, hD⟩
    funext y
    by_cases h1 : y = Str.ofString "at" <;> by_cases h2 : y = Str.ofString "pair" <;> simp (decide := true) [h1, h2]
  case kt =>
    rintro i t m₁ nx h tk own hi ⟨us', rest, u, rfl, rfl, Gr, off, hD'⟩ hoff F2 N2
    have hi' : i < (toldN rs i).length := by rw [toldN_length]; omega
    obtain ⟨r, hr⟩ : ∃ r, (toldN rs i)[i]? = some r := ⟨_, List.getElem?_eq_getElem hi'⟩
    obtain ⟨v, hv1, hvD⟩ := datAll_rowAt hD' hr
    obtain ⟨ra, rn, t0, t1, t2, t3, t4, rfl, hmr⟩ := row_inv hvD
    have hvx : us'[((i : Nat) : Int).toNat]? = some (.ref ra) := by rw [Int.toNat_natCast]; exact hv1
    have hul' : us'.length ≤ 31 := by rw [hD'.length, List.length_map, toldN_length]; exact hl
    dsimp only at F2
    rw [List.cons_append] at N2
    k_steps
    rename_i E1 g1 m1 E2 g2 m2 E3 g3 F3 N3 m3
    have hcut := datAll_cut (i := i) hD'
    have hlc : ((toldN rs i).take i ++ (toldN rs i).drop (i + 1)).length ≤ 31 := by
      rw [List.length_append, List.length_take, List.length_drop, toldN_length]
      omega
    refine says_dat (sub := (E3, listOf (kms_pick us' none (some (i : Int)) ++ kms_pick us' (some ((i : Int) + 1)) none).toArray 0) :: rest) (c_elect ((toldN rs i).take i ++ (toldN rs i).drop (i + 1)) r hlc) (by k_asm) (by k_asm) (by k_asm) N3 (by k_asm) (by first | exact rfl | assumption)
      (DatAll.cons (DatIn.list (.head _) (hcut.mono fun _ h => .tail _ h)) (.cons (hvD.mono fun _ h => .tail _ h) .nil)) (fun p hp => ?_) (room_s (by assumption) (by decide)) (room_su (by assumption) (by decide)) ?_
    · rcases List.mem_cons.mp hp with rfl | hp
      · exact .head _
      · exact .tail _ (.tail _ (.tail _ (.tail _ (List.mem_append.mpr (.inl hp)))))
    intro r1 tl1 h4 tk4 F4 N4 G4 D4
    dsimp only
    k_steps
    refine hold_in ?_
    rename_i F5 N5
    refine says_dat (sub := tl1 ++ ((E3, listOf (kms_pick us' none (some (i : Int)) ++ kms_pick us' (some ((i : Int) + 1)) none).toArray 0) :: rest)) (c_withSaid r _) (by k_asm) (by k_asm) (by k_asm) N5 (by k_asm) (by first | exact rfl | assumption)
      (DatAll.cons (hvD.mono fun _ h => List.mem_append.mpr (.inr (.tail _ h))) (.cons D4 .nil)) (fun p hp => ?_) (room_s (by assumption) (by decide)) (room_su (by assumption) (by decide)) ?_
    · rcases List.mem_append.mp hp with hp | hp
      · exact List.mem_append.mpr (.inl hp)
      · rcases List.mem_cons.mp hp with rfl | hp
        · exact List.mem_append.mpr (.inr (.head _))
        · exact List.mem_append.mpr (.inr (.tail _ (.tail _ (.tail _ (.tail _ (List.mem_append.mpr (.inl hp)))))))
    intro r2 tl2 h6 tk6 F6 N6 G6 D6
    dsimp only
    k_steps
    have hset : (toldN rs (i + 1)) = (toldN rs i).set i (r.said (electR ((toldN rs i).take i ++ (toldN rs i).drop (i + 1)) r)) := toldN_step hr
    refine set_led (rest := (tl2 ++ (tl1 ++ ((E3, listOf (kms_pick us' none (some (i : Int)) ++ kms_pick us' (some ((i : Int) + 1)) none).toArray 0) :: rest))) ++ own) (us := us') (n := c0) F6 (fun p hp => N6 p (perm9 p hp)) (off9 G6 G4 m3 off hoff) (by omega) (by rw [hD'.length, List.length_map]; omega) (by omega) ?_
    intro h7 F7 N7
    k_steps
    refine REnd.next ((D0, listOf (us'.set (i : Int).toNat r2).toArray c0) :: (tl2 ++ (tl1 ++ ((E3, listOf (kms_pick us' none (some (i : Int)) ++ kms_pick us' (some ((i : Int) + 1)) none).toArray 0) :: rest)))) F7 N7 (fun _ h => h) (own9 (o := _) G6 G4 m3 hoff)
      ⟨us'.set (i : Int).toNat r2, _, fun y => if y = Str.ofString "pair" then some r1 else some (.int (i : Int) t), ?_, rfl, grow9 G6 G4 m3 Gr, fun p hp => off9 G6 G4 m3 off hoff p (List.mem_append.mpr (.inl hp)), ?_⟩
    · funext y
      by_cases h1 : y = Str.ofString "at" <;> by_cases h2 : y = Str.ofString "pair" <;> simp (decide := true) [h1, h2]
    · rw [hset, Int.toNat_natCast]
      exact datAll_setRow (hD'.mono fun _ h => List.mem_append.mpr (.inr (List.mem_append.mpr (.inr (.tail _ h))))) D6
  case kd =>
    rintro m₁ nx h tk ⟨us', rest, u, rfl, rfl, Gr, off, hD'⟩ F2 N2
    k_steps
    rw [hlen] at hD'
    exact fin_all hret (by assumption) N (by assumption) (by assumption) (by assumption) (Grow.cons off Gr) (DatIn.list (.head _) (hD'.mono fun _ h => .tail _ h))
theorem top_off10 : True := by
  w_top off
  trivial
local macro_rules | `(tactic| walk_at "call ref") => `(tactic| (refine hold_out ?_))
theorem c_settled (rs : List R) (hl : rs.length ≤ 31) : Says 109 6 [rowsD rs, .int 3] (settledD (settledAt rs 0 4)) := by
  unfold Says
  k_fill
  intro w p loose mean mg mb dp un gd cn cs a ccd cl outer A₀ base h₀ L m news s vs Q E B F X N T hk hR hd hu hret
  obtain ⟨v, v2, rfl, hv, hv2⟩ := all2 hR
  obtain ⟨la, us, ln, rfl, hm, hD⟩ := list_inv hv
  obtain ⟨mt, rfl⟩ := int_inv hv2
  have hul : us.length ≤ 31 := by rw [hD.length, List.length_map]; exact hl
  walk_at "mine enter"
  k_steps
  refine hold_in ?_
  rename Fr _ _ _ _ => lF
  with_unfolding_all refine' For_invVF lF ?k1 ?k2 ?_
  case k1 => exact rfl
  case k2 => exact rfl
  k_steps
  refine hold_in ?_
  rename_i D0 c0 hh1 l1 hh2 N1
  rw [show (3 + 1 : Int) = ((4 : Nat) : Int) from rfl]
  k_dflt (refine' for_range (fun i m nx => ∃ (cur : List R) (vf : Value) (u : Str → Option Value), settledAt rs 0 4 = settledAt cur i (4 - i) ∧ cur.length = rs.length ∧ m = (fun y => if y = Str.ofString "turn" then u y else if y = Str.ofString "later" then u y else if y = Str.ofString "found" then some vf else List.lookup y [(Str.ofString "most", Value.int 3 mt), (Str.ofString "rows", Value.ref la)]) ∧ Grow news nx ∧ DatIn nx vf (rowsD cur)) 4 ?hn ?kh ?kL ?kF ?kN ?kj ?kt ?kd)
  case kF => exact lF
  case kL => exact rfl
  case kh => exact rfl
  case hn => omega
  case kN => exact N1
  case kj =>
    refine ⟨rs, .ref D0, fun y => List.lookup y [(Str.ofString "most", Value.int 3 mt), (Str.ofString "rows", Value.ref la)], rfl, rfl, ?_, Grow.cons (ne_lt l1) Grow.refl, DatIn.list (.head _) (hD.mono fun _ h => .tail _ h)⟩
    funext y
    by_cases h1 : y = Str.ofString "turn" <;> by_cases h2 : y = Str.ofString "later" <;> simp (decide := true) [h1, h2]
  case kt =>
    rintro i t m₁ nx h tk own hi ⟨cur, vf, u, hcur, hclen, rfl, Gr, hvf⟩ hoff F2 N2
    obtain ⟨fa, us', fn, rfl, hmf, hDf⟩ := list_inv hvf
    have hcl : cur.length ≤ 31 := by omega
    dsimp only at F2
    k_steps
    refine hold_in ?_
    refine says_dat (sub := nx) (c_toldRound cur hcl) (by k_asm) (by k_asm) (by k_asm) N2 (by k_asm) (by first | exact rfl | assumption)
      (DatAll.cons hvf .nil) (fun p hp => List.mem_append.mpr (.inl hp)) (room_s (by assumption) (by decide)) (room_su (by assumption) (by decide)) ?_
    intro r1 tl1 h4 tk4 F4 N4 G4 D4
    obtain ⟨ra, us2, rn, rfl, hmr, hDr⟩ := list_inv D4
    dsimp only
    k_steps
    rename_i h5 F5 N5
    refine dat_eq (b := decide (told cur = cur)) N5 D4 sub_mid hvf (fun p hp => List.mem_append.mpr (.inr (List.mem_append.mpr (.inl hp)))) (ok_rows _) (ok_rows _) (room_w (by assumption)) (dec_iff rows_inj) ?_
    obtain ⟨k, hk4⟩ : ∃ k, 4 - i = k + 1 := ⟨3 - i, by omega⟩
    have hk5 : 4 - (i + 1) = k := by omega
    k_steps
    · have hyes : told cur = cur := by first | assumption | exact of_decide_eq_true (by assumption)
      refine REnd.ret ?_
      rename_i T1 h8 F8 N8 m8
      have e : settledAt rs 0 4 = some (cur, i) := by rw [hcur, hk4, settledAt_yes hyes]
      rw [e] at hret
      dsimp only
      k_steps
      exact fin_dat (nwQ := (T1, _) :: nx) hret (by assumption) N (by assumption) (by assumption) (by assumption) (Grow.cons (fun p hp => Nat.ne_of_lt (m8 p (List.mem_append.mpr (.inr (List.mem_append.mpr (.inl hp)))))) Gr) (fun p hp => by
        rcases List.mem_cons.mp hp with rfl | hp
        · exact .head _
        · exact .tail _ (List.mem_append.mpr (.inr (List.mem_append.mpr (.inl hp))))) (DatIn.tuple (.head _) (.cons (hvf.mono fun _ h => .tail _ h) (.cons (.int _ _) .nil)))
    · have hne : ¬ told cur = cur := by first | assumption | exact of_decide_eq_false (by assumption)
      refine REnd.next (tl1 ++ nx) (by assumption) (by assumption) sub_assoc (own_app G4 hoff) ⟨told cur, .ref ra, fun y => if y = Str.ofString "later" then some (.ref ra) else some (.int (i : Int) t), ?_, ?_, ?_, grow_app G4 Gr, D4⟩
      · rw [hcur, hk4, settledAt_no hne, hk5]
      · rw [told_length, hclen]
      · funext y
        by_cases h1 : y = Str.ofString "turn" <;> by_cases h2 : y = Str.ofString "later" <;> by_cases h3 : y = Str.ofString "found" <;> simp (decide := true) [h1, h2, h3]
  case kd =>
    rintro m₁ nx h tk ⟨cur, vf, u, hcur, hclen, rfl, Gr, hvf⟩ F2 N2
    k_steps
    have e : settledAt rs 0 4 = none := hcur
    rw [e] at hret
    exact fin_all hret (by assumption) N (by assumption) (by assumption) (by assumption) Gr DatIn.none
local macro_rules | `(tactic| walk_at "mine sub0") => `(tactic| first | exact sub_id | (refine sub_cons ?_; walk_at "mine sub0") | (refine sub_app ?_; walk_at "mine sub0") | (refine sub_appL ?_; walk_at "mine sub0") | assumption)
local macro_rules | `(tactic| walk_at "compareOp NotEq ref ref") => `(tactic| (k_here; (with_reducible show wpAny _ _ (compareOp CmpOp.NotEq (Value.ref _) (Value.ref _)) _ _ _); k_dflt (first
  | (refine' ne_pair ?N ?v ?s ?w ?t ?u ?_; (case N => k_asm); (case v => assumption); (case w => assumption); (case s => walk_at "mine sub0"); (case t => walk_at "mine sub0"); (case u => exact room_w (by assumption)); k_whole)
  | (refine' ne_row ?N ?v ?s ?w ?t ?u ?_; (case N => k_asm); (case v => assumption); (case w => assumption); (case s => walk_at "mine sub0"); (case t => walk_at "mine sub0"); (case u => exact room_w (by assumption)); k_whole)
  | (refine' ne_ints ?N ?v ?s ?w ?t ?u ?_; (case N => k_asm); (case v => assumption); (case w => assumption); (case s => walk_at "mine sub0"); (case t => walk_at "mine sub0"); (case u => exact room_w (by assumption)); k_whole)
  | (refine' ne_rows ?N ?v ?s ?w ?t ?u ?_; (case N => k_asm); (case v => assumption); (case w => assumption); (case s => walk_at "mine sub0"); (case t => walk_at "mine sub0"); (case u => exact room_w (by assumption)); k_whole))))
local macro_rules | `(tactic| walk_at "compareOp Eq ref ref") => `(tactic| (k_here; (with_reducible show wpAny _ _ (compareOp CmpOp.Eq (Value.ref _) (Value.ref _)) _ _ _); k_dflt (first
  | (refine' eq_pair ?N ?v ?s ?w ?t ?u ?_; (case N => k_asm); (case v => assumption); (case w => assumption); (case s => walk_at "mine sub0"); (case t => walk_at "mine sub0"); (case u => exact room_w (by assumption)); k_whole)
  | (refine' eq_rows ?N ?v ?s ?w ?t ?u ?_; (case N => k_asm); (case v => assumption); (case w => assumption); (case s => walk_at "mine sub0"); (case t => walk_at "mine sub0"); (case u => exact room_w (by assumption)); k_whole))))
local macro_rules | `(tactic| walk_at "compareOp In int ref") => `(tactic| (k_here; (with_reducible show wpAny _ _ (compareOp CmpOp.In (Value.int _ _) (Value.ref _)) _ _ _); k_dflt (first
  | (refine' isIn_pair ?N ?m ?_; (case N => k_asm); (case m => k_mem); k_whole)
  | (refine' isIn_ints ?N ?m ?i ?u ?_; (case N => k_asm); (case m => k_mem); (case i => assumption); (case u => exact room_w (by assumption)); k_whole))))
local macro_rules | `(tactic| walk_at "compareOp NotIn int ref") => `(tactic| (k_here; (with_reducible show wpAny _ _ (compareOp CmpOp.NotIn (Value.int _ _) (Value.ref _)) _ _ _); k_dflt (first
  | (refine' notIn_pair ?N ?m ?_; (case N => k_asm); (case m => k_mem); k_whole))))
local macro_rules | `(tactic| walk_at "call builtin:sorted") => `(tactic| (k_here; (with_reducible show wpAny _ _ (call (Value.builtin _) [Value.ref _]) _ _ _); k_dflt (refine' sorted_led ?F ?N ?m ?D ?z ?_; (case F => k_asm); (case N => k_asm); (case m => k_mem); (case D => assumption); (case z => walk_at "mine room"); k_whole); intro D' vs' c' h' F' N' l1 i'; (try k_sweep)))
theorem top_off11 : True := by
  w_top off
  trivial
theorem c_askedAnew (rs : List R) (before x : Int × Int) (hl : rs.length ≤ 32) : Says 90 1 [rowsD rs, pairD before, pairD x] (intsD (if x = before then [] else sortI (rs.map R.a))) := by
  unfold Says
  k_fill
  intro w p loose mean mg mb dp un gd cn cs a ccd cl outer A₀ base h₀ L m news s vs Q E B F X N T hk hR hd hu hret
  obtain ⟨v, v2, v3, rfl, hv, hv2, hv3⟩ := all3 hR
  obtain ⟨la, us, ln, rfl, hm, hD⟩ := list_inv hv
  obtain ⟨pa, pn, u0, u1, rfl, hm2⟩ := pair_inv hv2
  obtain ⟨pb, pm, u2, u3, rfl, hm3⟩ := pair_inv hv3
  have hul : us.length ≤ 32 := by rw [hD.length, List.length_map]; exact hl
  walk_at "mine enter"
  k_steps
  · rw [if_pos (by assumption)] at hret
    exact fin_all hret (by assumption) N (by assumption) (by assumption) (by assumption) (by walk_at "mine grow") (DatIn.list (vs := []) (.head _) .nil)
  · rw [if_neg (by assumption)] at hret
    refine comp_U R.dat (fun r => Dat.int r.a) hD hm ?_ ?_
    · intro r hr v I oI C oC D m₂ ys nw h tk E' hv' G hC hx F1 N1 off ne
      obtain ⟨ra, rn, t0, t1, t2, t3, t4, rfl, hm'⟩ := row_inv hv'
      dsimp only
      k_steps
      exact CEnd.same (by assumption) (by assumption) off (DatIn.int _ _)
    · intro ys nw hy hyl G
      have hyl : ys.length ≤ 32 := by omega
      have hi := as_ints (f := R.a) hy
      unfold LCg.FinE
      intro D0 h0 tk0 F0 N0 o0
      dsimp only
      k_steps
      rename IntsAre _ (sortI _) => hS
      exact fin_all hret (by assumption) N (by assumption) (by assumption) (by assumption) (by walk_at "mine grow") (DatIn.list (.head _) (of_ints hS))
theorem c_begunAnew (rs : List R) (own : R) (before x : Int × Int) (hl : rs.length ≤ 32) : Says 95 1 [rowsD rs, own.dat, pairD before, pairD x]
    (intsD (if (x.1 = own.a ∨ x.2 = own.a) ∧ ¬ (before.1 = own.a ∨ before.2 = own.a) then sortI ((rs.filter fun r => decide (r.p = 0)).map R.a) else [])) := by
  unfold Says
  k_fill
  intro w p loose mean mg mb dp un gd cn cs a ccd cl outer A₀ base h₀ L m news s vs Q E B F X N T hk hR hd hu hret
  obtain ⟨v, v1, v2, v3, rfl, hv, hv1, hv2, hv3⟩ := all4 hR
  obtain ⟨la, us, ln, rfl, hm, hD⟩ := list_inv hv
  obtain ⟨ra, rn, t0, t1, t2, t3, t4, rfl, hm1⟩ := row_inv hv1
  obtain ⟨pa, pn, u0, u1, rfl, hm2⟩ := pair_inv hv2
  obtain ⟨pb, pm, u2, u3, rfl, hm3⟩ := pair_inv hv3
  have hul : us.length ≤ 32 := by rw [hD.length, List.length_map]; exact hl
  walk_at "mine enter"
  k_steps
  · rw [if_neg (fun h => h.2 (by assumption))] at hret
    exact fin_all hret (by assumption) N (by assumption) (by assumption) (by assumption) (by walk_at "mine grow") (DatIn.list (vs := []) (.head _) .nil)
  · rw [if_pos ⟨by assumption, by assumption⟩] at hret
    refine comp_T R.dat (fun r => decide (r.p = 0)) (fun r => Dat.int r.a) hD hm ?_ ?_
    · intro r hr v I oI C oC D m₂ ys nw h tk E' hv' G hC hx F1 N1 off ne
      obtain ⟨ra, rn, t0, t1, t2, t3, t4, rfl, hm'⟩ := row_inv hv'
      dsimp only
      k_steps
      refine CTurn.intro rfl (fun hk => ?_) (fun hk => ?_)
      · k_steps
        exact CEnd.same (by assumption) (by assumption) off (DatIn.int _ _)
      · exact CEnd.same (by assumption) (by assumption) off trivial
    · intro ys nw hy hyl G
      have hyl : ys.length ≤ 32 := by omega
      have hi := as_ints (f := R.a) hy
      unfold LCg.FinE
      intro D0 h0 tk0 F0 N0 o0
      dsimp only
      k_steps
      rename IntsAre _ (sortI _) => hS
      exact fin_all hret (by assumption) N (by assumption) (by assumption) (by assumption) (by walk_at "mine grow") (DatIn.list (.head _) (of_ints hS))
  · rw [if_neg (fun h => absurd h.1 (by assumption))] at hret
    exact fin_all hret (by assumption) N (by assumption) (by assumption) (by assumption) (by walk_at "mine grow") (DatIn.list (vs := []) (.head _) .nil)
local macro_rules | `(tactic| walk_at "mine enterC") => `(tactic| (
  refine wpAny_call ?_
  k_dflt (refine' code_zC ?k1 ?k2 ?k3 ?k4 ?k5 ?kA ?kF ?kK ?k6 ?k7 ?k8 ?kn ?k9 ?kB ?kD ?_ ?c2 ?c3 ?c4; (case kA => exact rfl); (case kF => exact rfl); (case kK => assumption); (case k1 => k_asm); (case k2 => k_asm); (case k3 => k_asm); (case k4 => k_asm); (case k5 => k_asm); (case k6 => k_is); (case k7 => k_is); (case k8 => exact room_d (by assumption)); (case kn => simp only [List.map_cons, List.map_nil]; exact rfl); (case k9 => exact rfl); (case kB => exact rfl); (case kD => decide +kernel); (case c2 => exact rfl); (case c3 => exact rfl); (case c4 => exact rfl); k_whole; intro g' L' h' tk' cells' FG' F' N' Y' P' B' X' T' kG'; (obtain ⟨o', hE', d'⟩ := cells_one Y'); subst hE'; replace P' := apart_one P'; clear Y'; (try simp only [List.cons_append, List.nil_append] at N'); (try dsimp only); (try k_fold))))
local macro_rules | `(tactic| walk_at "call builtin:max") => `(tactic| (refine hold_out ?_))
theorem top_off12 : True := by
  w_top off
  trivial
theorem c_lawBest (rs : List R) (S : List Int) (hl : rs.length ≤ 32) (hS : S.length ≤ 32) : Says 121 1 [rowsD rs, intsD S] (.int (lawBest rs S)) := by
  unfold Says
  k_fill
  intro w p loose mean mg mb dp un gd cn cs a ccd cl outer A₀ base h₀ L m news s vs Q E B F X N T hk hR hd hu hret
  obtain ⟨v, v2, rfl, hv, hv2⟩ := all2 hR
  obtain ⟨la, us, ln, rfl, hm, hD⟩ := list_inv hv
  obtain ⟨ls, us2, n2, rfl, hm2, hD2⟩ := list_inv hv2
  have hiS := ints_of hD2
  have hul : us.length ≤ 32 := by rw [hD.length, List.length_map]; exact hl
  walk_at "mine enterC"
  rename _ = Data.cell _ => dC
  replace dC : _ = Data.cell (some (Value.ref ls)) := dC
  k_steps
  refine comp_T R.dat (fun r => decide (0 < r.p ∧ r.a ∈ S)) (fun r => t3D (r.p, r.i, r.a)) (hD.mono fun _ h => .tail _ h) (.tail _ hm) ?_ ?_
  · intro r hr v I oI C oC D m₂ ys nw h tk E' hv' G hC hx F1 N1 off ne
    obtain ⟨ra, rn, t0, t1, t2, t3, t4, rfl, hm'⟩ := row_inv hv'
    have hm2' := G.1 _ (.tail _ hm2)
    have hcell := G.1 _ (.head _)
    dsimp only
    k_steps
    · refine CTurn.intro (decide_eq_true ⟨by assumption, by assumption⟩).symm (fun hk => ?_) (fun hk => absurd hk (by rw [decide_eq_true (show 0 < r.p ∧ r.a ∈ S from ⟨by assumption, by assumption⟩)]; exact fun e => nomatch e))
      k_steps
      exact CEnd.one (by assumption) (by assumption) off (by walk_at "mine off") (DatIn.tuple (.head _) (.cons (.int _ _) (.cons (.int _ _) (.cons (.int _ _) .nil))))
    · have hno : ¬ (0 < r.p ∧ r.a ∈ S) := fun h => absurd h.2 (by assumption)
      refine CTurn.intro (decide_eq_false hno).symm (fun hk => absurd hk (by rw [decide_eq_false hno]; exact fun e => nomatch e)) (fun hk => ?_)
      exact CEnd.same (by assumption) (by assumption) off trivial
    · have hno : ¬ (0 < r.p ∧ r.a ∈ S) := fun h => absurd h.1 (by assumption)
      refine CTurn.intro (decide_eq_false hno).symm (fun hk => absurd hk (by rw [decide_eq_false hno]; exact fun e => nomatch e)) (fun hk => ?_)
      exact CEnd.same (by assumption) (by assumption) off trivial
  · intro ys nw hy hyl G
    have hyl : ys.length ≤ 32 := Nat.le_trans hyl hl
    unfold LCg.FinE
    intro D0 h0 tk0 F0 N0 o0
    dsimp only
    k_steps
    refine hold_in ?_
    rename_i T1 g1 m1 E2 g2 m2 E3 g3 F3 N3 m3
    have hT : DatAll nw ys (((rs.filter fun r => decide (0 < r.p ∧ r.a ∈ S)).map fun r => (r.p, r.i, r.a)).map t3D) := by
      rw [List.map_map]
      exact hy
    refine max_led (ts := lawT rs S) (by rfl) (room_w (by assumption)) F3 N3 (.head _) (by
      unfold lawT
      rw [List.map_append]
      exact DatAll.append (hT.mono (by walk_at "mine sub")) (.cons (DatIn.tuple (.tail _ (.tail _ (.head _))) (.cons (.int _ _) (.cons (.int _ _) (.cons (.int _ _) .nil)))) .nil)) sub_id (by unfold lawT; rw [List.length_append]; exact Nat.succ_pos _) ?_
    intro v h5 tk5 Dv F5 N5
    obtain ⟨va, vn, x0, x1, x2, rfl, hmv⟩ := t3_inv Dv
    dsimp only
    k_steps
    exact fin_dat (nwQ := news) hret (by assumption) N (by assumption) (by assumption) (by assumption) Grow.refl (by walk_at "mine sub") (DatIn.int _ _)
local macro_rules | `(tactic| walk_at "mine upd") => `(tactic| first | (refine' UpdF.head ?ua; (case ua => walk_at "mine off")) | (refine' UpdF.tail ?ua ?ub; (case ua => walk_at "mine nee"); (case ub => walk_at "mine upd")) | (refine' upd_app ?ua ?ub; (case ua => assumption); (case ub => walk_at "mine upd")))
local macro_rules | `(tactic| walk_at "storeName") => `(tactic| (k_here; k_dflt (refine' storeX_C ?F ?N ?c ?U ?d ?_ ?a ?b; (case a => rfl); (case b => rfl); (case F => k_asm); (case N => k_asm); (case c => rfl); (case U => walk_at "mine upd"); (case d => assumption); k_whole); intro h' o' F' N' d'; (try dsimp only at N'); (try k_sweep)))
local macro_rules | `(tactic| walk_at "mine nee") => `(tactic| first | assumption | exact ne_a (by assumption) (by k_mem) | exact ne_b (by assumption) (by k_mem) | exact ne_c (by assumption) (by k_mem))
theorem top_off13 : True := by
  w_top off
  trivial
theorem sub_head {a b : Led} {x : Addr × Obj} (h : ∀ p ∈ a, p ∈ x :: b) : ∀ p ∈ x :: a, p ∈ x :: b := fun p hp => by
  rcases List.mem_cons.mp hp with rfl | hp
  · exact .head _
  · exact h p hp
theorem c_lawDue (rs : List R) (x : Int × Int) (C : List Int) (hl : rs.length ≤ 31) (hC : C.length ≤ 31) : Says 126 2 [rowsD rs, pairD x, intsD C] (pairD (due rs x C)) := by
  unfold Says
  k_fill
  intro w p loose mean mg mb dp un gd cn cs a ccd cl outer A₀ base h₀ L m news s vs Q E B F X N T hk hR hd hu hret
  obtain ⟨v, v2, v3, rfl, hv, hv2, hv3⟩ := all3 hR
  obtain ⟨la, us, ln, rfl, hm, hD⟩ := list_inv hv
  obtain ⟨pa, pn, u0, u1, rfl, hm2⟩ := pair_inv hv2
  obtain ⟨lc, us3, n3, rfl, hm3, hD3⟩ := list_inv hv3
  have hul : us.length ≤ 31 := by rw [hD.length, List.length_map]; exact hl
  have hul3 : us3.length ≤ 31 := by rw [hD3.length, List.length_map]; exact hC
  walk_at "mine enterC"
  rename _ = Data.cell _ => dC
  replace dC : _ = Data.cell none := dC
  rename ∀ q ∈ news, q.1 ≠ _ => PC
  k_steps
  refine comp_T0 R.dat (fun r => decide (r.p > 0)) (fun r => Dat.int r.a) (hD.mono fun _ h => .tail _ h) (.tail _ hm) ?_ ?_
  · intro r hr v I oI C oC D m₂ ys h tk E' hv' hC hx F1 N1 off ne
    obtain ⟨ra, rn, t0, t1, t2, t3, t4, rfl, hm'⟩ := row_inv hv'
    dsimp only
    k_steps
    refine CTurn.intro rfl (fun hk => ?_) (fun hk => ?_)
    · k_steps
      exact CEnd0.same (by assumption) (by assumption) off (DatIn.int _ _)
    · exact CEnd0.same (by assumption) (by assumption) off trivial
  · intro ys hy hyl
    have hyl : ys.length ≤ 31 := Nat.le_trans hyl hl
    have hA : DatAll _ ys ((ableA rs).map Dat.int) := as_ints (f := R.a) hy
    have hAl : (ableA rs).length ≤ 31 := by rw [← hA.length.trans (List.length_map _)]; exact hyl
    unfold LCg.FinA
    intro D0 h0 tk0 F0 N0 o0
    dsimp only
    k_steps
    rename_i lL hL1 lk1 D1 h1 F1 N1 lk2
    refine hold_in ?_
    k_dflt (refine' says_int (c_lawBest rs (x.1 :: C) (by omega) (by rw [List.length_cons]; omega)) ?k1v1 F1 ?k3v1 N1 ?k5v1 rfl ?kdv1 sub_id (room_s (by assumption) (by decide)) (room_su (by assumption) (by decide)) ?_; (case k1v1 => k_asm); (case k3v1 => k_asm); (case k5v1 => k_asm); k_whole)
    · exact .cons (hv.mono (by walk_at "mine sub")) (.cons (DatIn.list (.head _) (.cons (.int _ _) (hD3.mono (by walk_at "mine sub")))) .nil)
    intro t2 h2 tk2 F2 N2
    try dsimp only
    k_steps
    have ng1 : (D1 : Addr) ≠ _ := ne_a lk2 (.tail _ (.tail _ (.head _)))
    have ng2 : (lL : Addr) ≠ _ := Ne.symm (Nat.ne_of_lt lk1.2.1)
    have ng3 : (D0 : Addr) ≠ _ := ne_c o0 (.head _)
    k_dflt (refine' storeX_C F2 N2 ?cv2 (UpdF.tail ng1 (UpdF.tail ng2 (UpdF.tail ng3 (UpdF.head PC)))) dC ?_ ?av2 ?bv2; (case av2 => rfl); (case bv2 => rfl); (case cv2 => rfl))
    intro h3 o3 F3 N3 d3
    try dsimp only at N3
    have hiA := ints_of hA
    clear F2 N2
    k_steps
    · have hf : dueF rs x C = x.2 := by unfold dueF; rw [if_pos (by assumption), if_pos (by assumption)]
      refine comp_T0 (xs := ableA rs) Dat.int (fun r => !decide (r = dueF rs x C)) Dat.int (of_ints hiA) (by k_mem) ?_ ?_
      · intro r hr v I oI C1 oC D m₂ ys' h tk E' hv' hC' hx F1 N1 off ne
        obtain ⟨t', rfl⟩ := int_inv hv'
        dsimp only
        k_steps
        refine CTurn.intro (by rw [hf]; rfl) (fun hk => ?_) (fun hk => ?_)
        · k_steps
          exact CEnd0.same (by assumption) (by assumption) off (DatIn.int _ _)
        · exact CEnd0.same (by assumption) (by assumption) off trivial
      · intro zs hz hzl
        have hzl : zs.length ≤ 31 := Nat.le_trans hzl hAl
        have hiZ := ints_of hz
        unfold LCg.FinA
        intro D5 h5 tk5 F5 N5 o5
        dsimp only
        k_steps
        · rename_i T1 hT F6 N6 lT kF kN Tc kX
          have hdue : due rs x C = (dueF rs x C, x.2) := by unfold due dueS; rw [if_pos (by assumption)]
          rw [hdue] at hret
          exact fin_dat (nwQ := (T1, _) :: news) hret (by assumption) N F6 N6 kN (Grow.cons (ne_allLt lT.2.2.2.2.2) Grow.refl) (sub_head (by walk_at "mine sub")) (DatIn.tuple (.head _) (.cons (by show DatIn _ _ (Dat.int (dueF rs x C)); rw [hf]; exact DatIn.int _ _) (.cons (.int _ _) .nil)))
        · refine hold_in ?_
          k_dflt (refine' says_int (c_lawBest rs ((ableA rs).filter (fun a => !decide (a = dueF rs x C))) (by omega) (Nat.le_trans (List.length_filter_le _ _) (by omega))) ?k1v3 ?k2v3 ?k3v3 ?k4v3 ?k5v3 rfl ?kdv3 sub_id (room_s (by assumption) (by decide)) (room_su (by assumption) (by decide)) ?_; (case k1v3 => k_asm); (case k2v3 => k_asm); (case k3v3 => k_asm); (case k4v3 => k_asm); (case k5v3 => k_asm); k_whole)
          · exact .cons (hv.mono (by walk_at "mine sub")) (.cons (DatIn.list (vs := zs) (by k_mem) (of_ints hiZ)) .nil)
          intro t6 h6 tk6 F6 N6
          try dsimp only
          k_steps
          rename_i T1 hT F6 N6 lT kF kN Tc kX
          have hdue : due rs x C = (dueF rs x C, lawBest rs ((ableA rs).filter (fun a => !decide (a = dueF rs x C)))) := by unfold due dueS; rw [if_neg (by assumption)]
          rw [hdue] at hret
          exact fin_dat (nwQ := (T1, _) :: news) hret (by assumption) N F6 N6 kN (Grow.cons (ne_allLt lT.2.2.2.2.2) Grow.refl) (sub_head (by walk_at "mine sub")) (DatIn.tuple (.head _) (.cons (by show DatIn _ _ (Dat.int (dueF rs x C)); rw [hf]; exact DatIn.int _ _) (.cons (.int _ _) .nil)))
    · have hf : dueF rs x C = lawBest rs (ableA rs) := by unfold dueF; rw [if_pos (by assumption), if_neg (by assumption)]
      refine hold_in ?_
      k_dflt (refine' says_int (c_lawBest rs (ableA rs) (by omega) (by omega)) ?k1v4 ?k2v4 ?k3v4 ?k4v4 ?k5v4 rfl ?kdv4 sub_id (room_s (by assumption) (by decide)) (room_su (by assumption) (by decide)) ?_; (case k1v4 => k_asm); (case k2v4 => k_asm); (case k3v4 => k_asm); (case k4v4 => k_asm); (case k5v4 => k_asm); k_whole)
      · exact .cons (hv.mono (by walk_at "mine sub")) (.cons (DatIn.list (vs := ys) (by k_mem) (of_ints hiA)) .nil)
      intro t7 h7 tk7 F7 N7
      try dsimp only
      k_steps
      refine comp_T0 (xs := ableA rs) Dat.int (fun r => !decide (r = dueF rs x C)) Dat.int (of_ints hiA) (by k_mem) ?_ ?_
      · intro r hr v I oI C1 oC D m₂ ys' h tk E' hv' hC' hx F1 N1 off ne
        obtain ⟨t', rfl⟩ := int_inv hv'
        dsimp only
        k_steps
        refine CTurn.intro (by rw [hf]; rfl) (fun hk => ?_) (fun hk => ?_)
        · k_steps
          exact CEnd0.same (by assumption) (by assumption) off (DatIn.int _ _)
        · exact CEnd0.same (by assumption) (by assumption) off trivial
      · intro zs hz hzl
        have hzl : zs.length ≤ 31 := Nat.le_trans hzl hAl
        have hiZ := ints_of hz
        unfold LCg.FinA
        intro D5 h5 tk5 F5 N5 o5
        dsimp only
        k_steps
        · rename_i T1 hT F6 N6 lT kF kN Tc kX
          have hdue : due rs x C = (dueF rs x C, x.2) := by unfold due dueS; rw [if_pos (by assumption)]
          rw [hdue] at hret
          exact fin_dat (nwQ := (T1, _) :: news) hret (by assumption) N F6 N6 kN (Grow.cons (ne_allLt lT.2.2.2.2.2) Grow.refl) (sub_head (by walk_at "mine sub")) (DatIn.tuple (.head _) (.cons (by show DatIn _ _ (Dat.int (dueF rs x C)); rw [hf]; exact DatIn.int _ _) (.cons (.int _ _) .nil)))
        · refine hold_in ?_
          k_dflt (refine' says_int (c_lawBest rs ((ableA rs).filter (fun a => !decide (a = dueF rs x C))) (by omega) (Nat.le_trans (List.length_filter_le _ _) (by omega))) ?k1v5 ?k2v5 ?k3v5 ?k4v5 ?k5v5 rfl ?kdv5 sub_id (room_s (by assumption) (by decide)) (room_su (by assumption) (by decide)) ?_; (case k1v5 => k_asm); (case k2v5 => k_asm); (case k3v5 => k_asm); (case k4v5 => k_asm); (case k5v5 => k_asm); k_whole)
          · exact .cons (hv.mono (by walk_at "mine sub")) (.cons (DatIn.list (vs := zs) (by k_mem) (of_ints hiZ)) .nil)
          intro t6 h6 tk6 F6 N6
          try dsimp only
          k_steps
          rename_i T1 hT F6 N6 lT kF kN Tc kX
          have hdue : due rs x C = (dueF rs x C, lawBest rs ((ableA rs).filter (fun a => !decide (a = dueF rs x C)))) := by unfold due dueS; rw [if_neg (by assumption)]
          rw [hdue] at hret
          exact fin_dat (nwQ := (T1, _) :: news) hret (by assumption) N F6 N6 kN (Grow.cons (ne_allLt lT.2.2.2.2.2) Grow.refl) (sub_head (by walk_at "mine sub")) (DatIn.tuple (.head _) (.cons (by show DatIn _ _ (Dat.int (dueF rs x C)); rw [hf]; exact DatIn.int _ _) (.cons (.int _ _) .nil)))
    · have hf : dueF rs x C = lawBest rs (x.1 :: C) := by unfold dueF; rw [if_neg (by assumption)]
      refine comp_T0 (xs := ableA rs) Dat.int (fun r => !decide (r = dueF rs x C)) Dat.int (of_ints hiA) (by k_mem) ?_ ?_
      · intro r hr v I oI C1 oC D m₂ ys' h tk E' hv' hC' hx F1 N1 off ne
        obtain ⟨t', rfl⟩ := int_inv hv'
        dsimp only
        k_steps
        refine CTurn.intro (by rw [hf]; rfl) (fun hk => ?_) (fun hk => ?_)
        · k_steps
          exact CEnd0.same (by assumption) (by assumption) off (DatIn.int _ _)
        · exact CEnd0.same (by assumption) (by assumption) off trivial
      · intro zs hz hzl
        have hzl : zs.length ≤ 31 := Nat.le_trans hzl hAl
        have hiZ := ints_of hz
        unfold LCg.FinA
        intro D5 h5 tk5 F5 N5 o5
        dsimp only
        k_steps
        · rename_i T1 hT F6 N6 lT kF kN Tc kX
          have hdue : due rs x C = (dueF rs x C, x.2) := by unfold due dueS; rw [if_pos (by assumption)]
          rw [hdue] at hret
          exact fin_dat (nwQ := (T1, _) :: news) hret (by assumption) N F6 N6 kN (Grow.cons (ne_allLt lT.2.2.2.2.2) Grow.refl) (sub_head (by walk_at "mine sub")) (DatIn.tuple (.head _) (.cons (by show DatIn _ _ (Dat.int (dueF rs x C)); rw [hf]; exact DatIn.int _ _) (.cons (.int _ _) .nil)))
        · refine hold_in ?_
          k_dflt (refine' says_int (c_lawBest rs ((ableA rs).filter (fun a => !decide (a = dueF rs x C))) (by omega) (Nat.le_trans (List.length_filter_le _ _) (by omega))) ?k1v6 ?k2v6 ?k3v6 ?k4v6 ?k5v6 rfl ?kdv6 sub_id (room_s (by assumption) (by decide)) (room_su (by assumption) (by decide)) ?_; (case k1v6 => k_asm); (case k2v6 => k_asm); (case k3v6 => k_asm); (case k4v6 => k_asm); (case k5v6 => k_asm); k_whole)
          · exact .cons (hv.mono (by walk_at "mine sub")) (.cons (DatIn.list (vs := zs) (by k_mem) (of_ints hiZ)) .nil)
          intro t6 h6 tk6 F6 N6
          try dsimp only
          k_steps
          rename_i T1 hT F6 N6 lT kF kN Tc kX
          have hdue : due rs x C = (dueF rs x C, lawBest rs ((ableA rs).filter (fun a => !decide (a = dueF rs x C)))) := by unfold due dueS; rw [if_neg (by assumption)]
          rw [hdue] at hret
          exact fin_dat (nwQ := (T1, _) :: news) hret (by assumption) N F6 N6 kN (Grow.cons (ne_allLt lT.2.2.2.2.2) Grow.refl) (sub_head (by walk_at "mine sub")) (DatIn.tuple (.head _) (.cons (by show DatIn _ _ (Dat.int (dueF rs x C)); rw [hf]; exact DatIn.int _ _) (.cons (.int _ _) .nil)))
theorem top_off14 : True := by
  w_top off
  trivial
local macro_rules | `(tactic| walk_at "compareOp NotEq ref ref") => `(tactic| (k_here; (with_reducible show wpAny _ _ (compareOp CmpOp.NotEq (Value.ref _) (Value.ref _)) _ _ _); k_dflt (first
  | (refine' ne_row ?N ?v ?s ?w ?t ?u ?_; (case N => k_asm); (case v => assumption); (case w => assumption); (case s => walk_at "mine sub0"); (case t => walk_at "mine sub0"); (case u => exact room_w (by assumption)); k_whole)
  | (refine hold_out ?_))))
local macro_rules | `(tactic| walk_at "mine same") => `(tactic| (k_dflt (refine' ne_same ?N ?v ?s ?w ?t ?u ?_; (case N => k_asm); (case v => assumption); (case s => walk_at "mine sub0"); (case t => exact sub_id); (case w => first | exact DatIn.list (vs := []) (by k_mem) .nil | exact DatIn.list (by k_mem) (of_ints (by assumption))); (case u => exact room_w (by assumption)); k_whole)))
theorem c_lawAnewRight (rs : List R) (y x : Int × Int) (hl : rs.length ≤ 31) : Says 131 2 [rowsD rs, pairD y, pairD x] (.bool true) := by
  unfold Says
  k_fill
  intro w p loose mean mg mb dp un gd cn cs a ccd cl outer A₀ base h₀ L m news s vs Q E B F X N T hk hR hd hu hret
  obtain ⟨v, v2, v3, rfl, hv, hv2, hv3⟩ := all3 hR
  obtain ⟨la, us, ln, rfl, hm, hD⟩ := list_inv hv
  obtain ⟨pa, pn, u0, u1, rfl, hm2⟩ := pair_inv hv2
  obtain ⟨pb, pm, u2, u3, rfl, hm3⟩ := pair_inv hv3
  have hul : us.length ≤ 31 := by rw [hD.length, List.length_map]; exact hl
  walk_at "mine enterC"
  rename _ = Data.cell _ => dC
  replace dC : _ = Data.cell none := dC
  rename ∀ q ∈ news, q.1 ≠ _ => PC
  k_steps
  refine hold_in ?_
  refine wpAny_For ?_
  k_steps
  rename Fr _ _ _ _ => lF
  rename News _ _ _ (_ :: _) => lN
  refine for_listC2 (xs := rs) R.dat (Str.ofString "idle") (Str.ofString "others") hD hm rfl rfl rfl rfl lF lN dC PC ?_ ?_
  · intro x0 hx0 v u o' I oI h tk E' hv' dO hIc hIn F1 N1
    obtain ⟨ra, rn, t0, t1, t2, t3, t4, rfl, hm'⟩ := row_inv hv'
    k_steps
    refine comp_T0 (xs := rs) R.dat (fun r => !decide (r = x0)) R.dat (hD.mono (by walk_at "mine sub")) (by k_mem) ?_ ?_
    · intro r hr v2 I2 oI2 C2 oC2 D2 m₂ ys h2 tk2 E2 hv2 hC2 hx2 F2 N2 off2 ne2
      obtain ⟨qa, qn, q0, q1, q2, q3, q4, rfl, hq⟩ := row_inv hv2
      dsimp only
      k_steps
      refine CTurn.intro rfl (fun hk => ?_) (fun hk => ?_)
      · k_steps
        exact CEnd0.same (by assumption) (by assumption) off2 hv2
      · exact CEnd0.same (by assumption) (by assumption) off2 trivial
    · intro ys hy hyl
      have hyl : ys.length ≤ 31 := Nat.le_trans hyl hl
      have hql : (rs.filter fun r => !decide (r = x0)).length ≤ 31 := Nat.le_trans (List.length_filter_le _ _) hl
      unfold LCg.FinA
      intro D0 h0 tk0 F0 N0 o0
      dsimp only
      k_steps
      refine hold_in ?_
      k_dflt (refine' says_dat (c_askedAnew _ y x (Nat.le_trans hql (by decide))) ?k1 ?k2 ?k3 ?k4 ?k5 rfl ?kd sub_id (room_s (by assumption) (by decide)) (room_su (by assumption) (by decide)) ?_; (case k1 => k_asm); (case k2 => k_asm); (case k3 => k_asm); (case k4 => k_asm); (case k5 => k_asm); k_whole)
      · exact .cons (DatIn.list (vs := ys) (.head _) (hy.mono (by walk_at "mine sub"))) (.cons (hv2.mono (by walk_at "mine sub")) (.cons (hv3.mono (by walk_at "mine sub")) .nil))
      intro r1 tl1 h1 tk1 F1 N1 G1 D1
      obtain ⟨a1, us1, k1, rfl, hm1, hD1⟩ := list_inv D1
      try dsimp only
      k_steps
      · refine hold_in ?_
        rw [if_pos (by assumption)] at D1
        walk_at "mine same"
        k_steps
        · refine hold_in ?_
          k_dflt (refine' says_dat (c_begunAnew _ x0 y x (Nat.le_trans hql (by decide))) ?k1t1 ?k2t1 ?k3t1 ?k4t1 ?k5t1 rfl ?kdt1 sub_id (room_s (by assumption) (by decide)) (room_su (by assumption) (by decide)) ?_; (case k1t1 => k_asm); (case k2t1 => k_asm); (case k3t1 => k_asm); (case k4t1 => k_asm); (case k5t1 => k_asm); k_whole)
          · exact .cons (DatIn.list (vs := ys) (by k_mem) (hy.mono (by walk_at "mine sub"))) (.cons (hv'.mono (by walk_at "mine sub")) (.cons (hv2.mono (by walk_at "mine sub")) (.cons (hv3.mono (by walk_at "mine sub")) .nil)))
          intro r2 tl2 h2 tk2 F2 N2 G2 D2
          rw [if_neg (fun h => h.2 (by assumption))] at D2
          obtain ⟨a2, us2, k2, rfl, hm2, hD2⟩ := list_inv D2
          try dsimp only
          k_steps
          refine hold_in ?_
          walk_at "mine same"
          k_steps
          exact LEnd.intro (by assumption) (by assumption) (by walk_at "mine sub") (two_names fun z h1 h2 => by simp only [h1, h2, if_false])
        · refine comp_T0 (xs := rs.filter fun r => !decide (r = x0)) R.dat (fun r => decide (r.p = 0)) (fun r => Dat.int r.a) (hy.mono (by walk_at "mine sub")) (by k_mem) ?_ ?_
          · intro r hr v2 I2 oI2 C2 oC2 D2 m₂ zs h2 tk2 E2 hv2 hC2 hx2 F2 N2 off2 ne2
            obtain ⟨qa, qn, q0, q1, q2, q3, q4, rfl, hq⟩ := row_inv hv2
            dsimp only
            k_steps
            refine CTurn.intro rfl (fun hk => ?_) (fun hk => ?_)
            · k_steps
              exact CEnd0.same (by assumption) (by assumption) off2 (DatIn.int _ _)
            · exact CEnd0.same (by assumption) (by assumption) off2 trivial
          · intro zs hz hzl
            have hzl : zs.length ≤ 31 := Nat.le_trans hzl hql
            have hi := as_ints (f := R.a) hz
            unfold LCg.FinE
            intro D5 h5 tk5 F5 N5 o5
            dsimp only
            k_steps
            refine hold_in ?_
            k_dflt (refine' says_dat (c_begunAnew _ x0 y x (Nat.le_trans hql (by decide))) ?k1t2 ?k2t2 ?k3t2 ?k4t2 ?k5t2 rfl ?kdt2 sub_id (room_s (by assumption) (by decide)) (room_su (by assumption) (by decide)) ?_; (case k1t2 => k_asm); (case k2t2 => k_asm); (case k3t2 => k_asm); (case k4t2 => k_asm); (case k5t2 => k_asm); k_whole)
            · exact .cons (DatIn.list (vs := ys) (by k_mem) (hy.mono (by walk_at "mine sub"))) (.cons (hv'.mono (by walk_at "mine sub")) (.cons (hv2.mono (by walk_at "mine sub")) (.cons (hv3.mono (by walk_at "mine sub")) .nil)))
            intro r2 tl2 h2 tk2 F2 N2 G2 D2
            rw [if_pos ⟨by assumption, by assumption⟩] at D2
            obtain ⟨a2, us2, k2, rfl, hm2, hD2⟩ := list_inv D2
            try dsimp only
            k_steps
            refine hold_in ?_
            walk_at "mine same"
            k_steps
            exact LEnd.intro (by assumption) (by assumption) (by walk_at "mine sub") (two_names fun z h1 h2 => by simp only [h1, h2, if_false])
        · refine hold_in ?_
          k_dflt (refine' says_dat (c_begunAnew _ x0 y x (Nat.le_trans hql (by decide))) ?k1t3 ?k2t3 ?k3t3 ?k4t3 ?k5t3 rfl ?kdt3 sub_id (room_s (by assumption) (by decide)) (room_su (by assumption) (by decide)) ?_; (case k1t3 => k_asm); (case k2t3 => k_asm); (case k3t3 => k_asm); (case k4t3 => k_asm); (case k5t3 => k_asm); k_whole)
          · exact .cons (DatIn.list (vs := ys) (by k_mem) (hy.mono (by walk_at "mine sub"))) (.cons (hv'.mono (by walk_at "mine sub")) (.cons (hv2.mono (by walk_at "mine sub")) (.cons (hv3.mono (by walk_at "mine sub")) .nil)))
          intro r2 tl2 h2 tk2 F2 N2 G2 D2
          rw [if_neg (fun h => absurd h.1 (by assumption))] at D2
          obtain ⟨a2, us2, k2, rfl, hm2, hD2⟩ := list_inv D2
          try dsimp only
          k_steps
          refine hold_in ?_
          walk_at "mine same"
          k_steps
          exact LEnd.intro (by assumption) (by assumption) (by walk_at "mine sub") (two_names fun z h1 h2 => by simp only [h1, h2, if_false])
      · rw [if_neg (by assumption)] at D1
        refine comp_U0 (xs := rs.filter fun r => !decide (r = x0)) R.dat (fun r => Dat.int r.a) (hy.mono (by walk_at "mine sub")) (by k_mem) ?_ ?_
        · intro r hr v2 I2 oI2 C2 oC2 D2 m₂ zs h2 tk2 E2 hv2 hC2 hx2 F2 N2 off2 ne2
          obtain ⟨qa, qn, q0, q1, q2, q3, q4, rfl, hq⟩ := row_inv hv2
          dsimp only
          k_steps
          exact CEnd0.same (by assumption) (by assumption) off2 (DatIn.int _ _)
        · intro zs hz hzl
          have hzl : zs.length ≤ 31 := by omega
          have hi := as_ints (f := R.a) hz
          unfold LCg.FinE
          intro D5 h5 tk5 F5 N5 o5
          dsimp only
          k_steps
          refine hold_in ?_
          walk_at "mine same"
          clear hi hzl
          k_steps
          · refine hold_in ?_
            k_dflt (refine' says_dat (c_begunAnew _ x0 y x (Nat.le_trans hql (by decide))) ?k1t4 ?k2t4 ?k3t4 ?k4t4 ?k5t4 rfl ?kdt4 sub_id (room_s (by assumption) (by decide)) (room_su (by assumption) (by decide)) ?_; (case k1t4 => k_asm); (case k2t4 => k_asm); (case k3t4 => k_asm); (case k4t4 => k_asm); (case k5t4 => k_asm); k_whole)
            · exact .cons (DatIn.list (vs := ys) (by k_mem) (hy.mono (by walk_at "mine sub"))) (.cons (hv'.mono (by walk_at "mine sub")) (.cons (hv2.mono (by walk_at "mine sub")) (.cons (hv3.mono (by walk_at "mine sub")) .nil)))
            intro r2 tl2 h2 tk2 F2 N2 G2 D2
            rw [if_neg (fun h => h.2 (by assumption))] at D2
            obtain ⟨a2, us2, k2, rfl, hm2, hD2⟩ := list_inv D2
            try dsimp only
            k_steps
            refine hold_in ?_
            walk_at "mine same"
            k_steps
            exact LEnd.intro (by assumption) (by assumption) (by walk_at "mine sub") (two_names fun z h1 h2 => by simp only [h1, h2, if_false])
          · refine comp_T0 (xs := rs.filter fun r => !decide (r = x0)) R.dat (fun r => decide (r.p = 0)) (fun r => Dat.int r.a) (hy.mono (by walk_at "mine sub")) (by k_mem) ?_ ?_
            · intro r hr v2 I2 oI2 C2 oC2 D2 m₂ zs h2 tk2 E2 hv2 hC2 hx2 F2 N2 off2 ne2
              obtain ⟨qa, qn, q0, q1, q2, q3, q4, rfl, hq⟩ := row_inv hv2
              dsimp only
              k_steps
              refine CTurn.intro rfl (fun hk => ?_) (fun hk => ?_)
              · k_steps
                exact CEnd0.same (by assumption) (by assumption) off2 (DatIn.int _ _)
              · exact CEnd0.same (by assumption) (by assumption) off2 trivial
            · intro zs hz hzl
              have hzl : zs.length ≤ 31 := Nat.le_trans hzl hql
              have hi := as_ints (f := R.a) hz
              unfold LCg.FinE
              intro D5 h5 tk5 F5 N5 o5
              dsimp only
              k_steps
              refine hold_in ?_
              k_dflt (refine' says_dat (c_begunAnew _ x0 y x (Nat.le_trans hql (by decide))) ?k1t5 ?k2t5 ?k3t5 ?k4t5 ?k5t5 rfl ?kdt5 sub_id (room_s (by assumption) (by decide)) (room_su (by assumption) (by decide)) ?_; (case k1t5 => k_asm); (case k2t5 => k_asm); (case k3t5 => k_asm); (case k4t5 => k_asm); (case k5t5 => k_asm); k_whole)
              · exact .cons (DatIn.list (vs := ys) (by k_mem) (hy.mono (by walk_at "mine sub"))) (.cons (hv'.mono (by walk_at "mine sub")) (.cons (hv2.mono (by walk_at "mine sub")) (.cons (hv3.mono (by walk_at "mine sub")) .nil)))
              intro r2 tl2 h2 tk2 F2 N2 G2 D2
              rw [if_pos ⟨by assumption, by assumption⟩] at D2
              obtain ⟨a2, us2, k2, rfl, hm2, hD2⟩ := list_inv D2
              try dsimp only
              k_steps
              refine hold_in ?_
              walk_at "mine same"
              k_steps
              exact LEnd.intro (by assumption) (by assumption) (by walk_at "mine sub") (two_names fun z h1 h2 => by simp only [h1, h2, if_false])
          · refine hold_in ?_
            k_dflt (refine' says_dat (c_begunAnew _ x0 y x (Nat.le_trans hql (by decide))) ?k1t6 ?k2t6 ?k3t6 ?k4t6 ?k5t6 rfl ?kdt6 sub_id (room_s (by assumption) (by decide)) (room_su (by assumption) (by decide)) ?_; (case k1t6 => k_asm); (case k2t6 => k_asm); (case k3t6 => k_asm); (case k4t6 => k_asm); (case k5t6 => k_asm); k_whole)
            · exact .cons (DatIn.list (vs := ys) (by k_mem) (hy.mono (by walk_at "mine sub"))) (.cons (hv'.mono (by walk_at "mine sub")) (.cons (hv2.mono (by walk_at "mine sub")) (.cons (hv3.mono (by walk_at "mine sub")) .nil)))
            intro r2 tl2 h2 tk2 F2 N2 G2 D2
            rw [if_neg (fun h => absurd h.1 (by assumption))] at D2
            obtain ⟨a2, us2, k2, rfl, hm2, hD2⟩ := list_inv D2
            try dsimp only
            k_steps
            refine hold_in ?_
            walk_at "mine same"
            k_steps
            exact LEnd.intro (by assumption) (by assumption) (by walk_at "mine sub") (two_names fun z h1 h2 => by simp only [h1, h2, if_false])
  · intro u o' h tk F1 N1
    k_steps
    exact fin_dat (nwQ := news) hret (by assumption) N (by assumption) (by assumption) (by assumption) Grow.refl (by walk_at "mine sub") (DatIn.bool _)
theorem top_off15 : True := by
  w_top off
  trivial
local macro_rules | `(tactic| walk_at "setItem ref int") => `(tactic| (k_here; k_dflt (refine' set1_led ?F ?N ?o ?_; (case F => k_asm); (case N => k_asm); (case o => assumption); k_whole); intro h' F' N'; (try k_sweep)))
theorem fmod_nat (X : Int) {q : Nat} (hq : 0 < q) : ∃ r : Nat, r < q ∧ X.fmod (q : Int) = (r : Int) := by
  have h1 := Int.fmod_nonneg_of_pos X (show (0 : Int) < (q : Int) by omega)
  have h2 := Int.fmod_lt_of_pos X (show (0 : Int) < (q : Int) by omega)
  exact ⟨(X.fmod q).toNat, by omega, by omega⟩
theorem c_drawn (q : Nat) (hq : q = 3 ∨ q = 4 ∨ q = 5) : Draws q := by
  unfold Draws
  k_fill
  intro w p loose mean mg mb dp un gd cn cs a ccd cl outer A₀ base h₀ L m s b d k t n nn us ns rest tq Q E B F X N off hd' hi hul hk T hck hdp hun hret
  have hd : dp + 1 < 900 := hdp
  have hu : un + 100 * 1 < 9000 := hun
  have hbx := N _ (.head _)
  walk_at "mine enter"
  k_steps
  all_goals
    obtain ⟨r, hr, e⟩ := fmod_nat _ (show 0 < q by omega)
    rw [e]
    exact hret r _ _ _ _ hr (by assumption) (by assumption)
local macro_rules | `(tactic| walk_at "mine nee") => `(tactic| first | assumption | k_ne | exact ne_a (by assumption) (by k_mem) | exact ne_b (by assumption) (by k_mem) | exact ne_c (by assumption) (by k_mem))
theorem top_off16 : True := by
  w_top off
  trivial
local macro_rules | `(tactic| walk_at "subscriptTail") => `(tactic| (k_here; (with_reducible show wpAny _ _ (subscriptTail _ _ (Value.ref _) (Value.str _ _)) _ _ _); k_dflt (refine' kda_item (knd := PySem.strKind _ _) ?N ?m ?d (strKind_is _ _ _ _) ?v ?_; (case N => k_asm); (case m => k_mem); (case d => assumption); (case v => rfl); k_whole)))
local macro_rules | `(tactic| walk_at "compareOp Eq ref ref") => `(tactic| (k_here; (with_reducible show wpAny _ _ (compareOp CmpOp.Eq (Value.ref _) (Value.ref _)) _ _ _); k_dflt (refine' eq_nil ?N ?m ?D ?s ?e ?u ?_; (case N => k_asm); (case m => k_mem); (case D => assumption); (case s => walk_at "mine sub0"); (case e => k_mem); (case u => exact room_w (by assumption)); k_whole)))
local macro_rules | `(tactic| walk_at "call builtin:list.append") => `(tactic| (k_here; (with_reducible show wpAny _ _ (call (Value.builtin _) [Value.ref _, _]) _ _ _); k_dflt (refine' append_led ?F ?N ?U ?z ?_; (case F => k_asm); (case N => k_asm); (case U => walk_at "mine upd"); (case z => walk_at "mine room"); k_whole); intro h' F' N'; (try dsimp only at N'); (try k_sweep)))
section
variable {prog : Program} {w : World} {s : Shared} {h₀ h' : Heap} {L wd rl D lC l0 l2 : Addr} {m : Str → Option Value} {ow ow' oD oC x0 x2 : Obj} {tc t' : Tok} {n n' tk : Nat} {us us' : List Value} {rest sub : Led} {rs rr : List R} {C : List Int} {came form pick worth cc : Nat} {Q : Value → Shared → Prop}
def EvRet (prog : Program) (w : World) (s : Shared) (h₀ : Heap) (L : Addr) (m : Str → Option Value) (wd rl : Addr) (ow : Obj) (n : Nat) (us : List Value) (rest sub : Led) (rr : List R) (cc : Nat) (C : List Int) (Q : Value → Shared → Prop) : Prop :=
  ∀ (r : Value) (tl : Led) (us' : List Value) (n' : Nat) (ow' : Obj) (t' : Tok) h' tk', Fr h₀ L h' m → News h₀ L h' ((wd, ow') :: (rl, listOf us'.toArray n') :: (tl ++ rest)) → (∀ p ∈ tl, ∀ q ∈ (wd, ow) :: (rl, listOf us.toArray n) :: rest, p.1 ≠ q.1) → ow'.IsDictOf (PySem.strKind prog w) [(Str.ofString "rows", Value.ref rl), (Str.ofString "came", Value.int (cc : Int) t')] →
      DatAll (tl ++ sub) us' (rr.map R.dat) → DatIn (tl ++ sub) r (intsD C) → Q r { s with heap := h', toks := tk' }
theorem ev_fin1 (hret : EvRet prog w s h₀ L m wd rl ow n us rest sub rr cc C Q) (F : Fr h₀ L h' m) {all : Led} (N : News h₀ L h' all) (hs : ∀ p ∈ (wd, ow') :: (rl, listOf us'.toArray n') :: (lC, oC) :: rest, p ∈ all)
    (hd : ow'.IsDictOf (PySem.strKind prog w) [(Str.ofString "rows", Value.ref rl), (Str.ofString "came", Value.int (cc : Int) t')]) (hC : wd < lC ∧ rl < lC ∧ AllLt lC rest) (hD : DatAll sub us' (rr.map R.dat)) (hoC : DatIn ((lC, oC) :: sub) (.ref lC) (intsD C)) : Q (.ref lC) { s with heap := h', toks := tk } := by
  refine hret _ [(lC, oC)] us' n' ow' t' h' tk F (fun p hp => N p (hs p hp)) (fun p hp => ?_) hd (hD.mono fun _ h => .tail _ h) hoC
  rw [List.mem_singleton.mp hp]
  exact apart3 hC
theorem ev_fin2 (hret : EvRet prog w s h₀ L m wd rl ow n us rest sub rr cc C Q) (F : Fr h₀ L h' m) {all : Led} (N : News h₀ L h' all) (hs : ∀ p ∈ (wd, ow') :: (rl, listOf us'.toArray n') :: (D, oD) :: (lC, oC) :: rest, p ∈ all)
    (hd : ow'.IsDictOf (PySem.strKind prog w) [(Str.ofString "rows", Value.ref rl), (Str.ofString "came", Value.int (cc : Int) t')]) (hDl : wd < D ∧ rl < D ∧ AllLt D rest) (hC : wd < lC ∧ rl < lC ∧ AllLt lC rest) (hD : DatAll ((D, oD) :: (lC, oC) :: sub) us' (rr.map R.dat)) (hoC : DatIn ((D, oD) :: (lC, oC) :: sub) (.ref lC) (intsD C)) : Q (.ref lC) { s with heap := h', toks := tk } := by
  refine hret _ [(D, oD), (lC, oC)] us' n' ow' t' h' tk F (fun p hp => N p (hs p hp)) (fun p hp => ?_) hd hD hoC
  rcases List.mem_cons.mp hp with rfl | hp
  · exact apart3 hDl
  · rw [List.mem_singleton.mp hp]
    exact apart3 hC
theorem sub_ev5 {a b c d e f : Addr × Obj} : ∀ p ∈ e :: f :: a :: c :: rest, p ∈ a :: b :: c :: d :: e :: f :: rest := by
  intro p hp
  simp only [List.mem_cons] at hp ⊢
  rcases hp with h | h | h | h | h <;> simp [h]
theorem sub_ev6 {a b c d e : Addr × Obj} : ∀ p ∈ d :: e :: b :: a :: rest, p ∈ a :: b :: c :: d :: e :: rest := by
  intro p hp
  simp only [List.mem_cons] at hp ⊢
  rcases hp with h | h | h | h | h <;> simp [h]
theorem sub_ev7 {a c d e : Addr × Obj} : ∀ p ∈ d :: e :: a :: rest, p ∈ a :: c :: d :: e :: rest := by
  intro p hp
  simp only [List.mem_cons] at hp ⊢
  rcases hp with h | h | h | h <;> simp [h]
theorem datAll_erase {j : Nat} {ds : List Dat} (h : DatAll rest us ds) : DatAll rest (us.eraseIdx j) (ds.eraseIdx j) := by
  rw [List.eraseIdx_eq_take_drop_succ, List.eraseIdx_eq_take_drop_succ]
  exact (datAll_take j h).append (datAll_drop (j + 1) h)
end
theorem evRet_of {rs : List R} {came form pick worth : Nat} {prog : Program} {w : World} {s : Shared} {h₀ : Heap} {L wd rl : Addr} {m : Str → Option Value} {ow : Obj} {n : Nat} {us : List Value} {rest sub : Led} {rr : List R} {cc : Nat} {C : List Int} {Q : Value → Shared → Prop}
    (h : EvRet prog w s h₀ L m wd rl ow n us rest sub (evRows rs came form pick worth) (evCame rs came form) (evClaims rs came form worth) Q) (e : evRows rs came form pick worth = rr ∧ evCame rs came form = cc ∧ evClaims rs came form worth = C) : EvRet prog w s h₀ L m wd rl ow n us rest sub rr cc C Q := by
  obtain ⟨e1, e2, e3⟩ := e
  rw [e1, e2, e3] at h
  exact h
theorem row_mk {led : Led} {D : Addr} {k : Nat} {i a p d b : Int} {t0 t1 t2 t3 t4 : Tok} (h : (D, ({ cls := .type "tuple", data := .seq [.int i t0, .int a t1, .int p t2, .int d t3, .int b t4].toArray k } : Obj)) ∈ led) : DatIn led (.ref D) (R.dat ⟨i, a, p, d, b⟩) :=
  .tuple h (.cons (.int _ _) (.cons (.int _ _) (.cons (.int _ _) (.cons (.int _ _) (.cons (.int _ _) .nil)))))
theorem dat_snoc {rest led : Led} {us : List Value} {rs : List R} {v : Value} {r : R} (hD : DatAll rest us (rs.map R.dat)) (hs : ∀ p ∈ rest, p ∈ led) (h : DatIn led v r.dat) : DatAll led (us ++ [v]) ((rs ++ [r]).map R.dat) := by
  rw [List.map_append]
  exact (hD.mono hs).append (.cons h .nil)
theorem dat_erase {rest : Led} {us : List Value} {rs : List R} {j : Nat} (hD : DatAll rest us (rs.map R.dat)) : DatAll rest (us.eraseIdx j) ((rs.eraseIdx j).map R.dat) := by
  have h := datAll_erase (j := j) hD
  rw [List.eraseIdx_eq_take_drop_succ (l := rs.map R.dat)] at h
  rw [List.eraseIdx_eq_take_drop_succ (l := rs), List.map_append, List.map_take, List.map_drop]
  exact h
theorem ev_pop4 {rs : List R} {came form pick worth : Nat} {r : R} (h : ¬ comes rs form) (h4 : (form : Int) = 4) (hr : rs[pick % rs.length]? = some r) :
    evRows rs came form pick worth = rs.eraseIdx (pick % rs.length) ++ [⟨r.i, r.a, (worth : Int), r.d, r.b⟩] ∧ evCame rs came form = came ∧ evClaims rs came form worth = [] := by
  have e := ev_pop (came := came) (worth := worth) h hr
  rw [if_pos (by omega)] at e
  exact e
theorem ev_pop3 {rs : List R} {came form pick worth : Nat} {r : R} (h : ¬ comes rs form) (h4 : ¬ (form : Int) = 4) (hr : rs[pick % rs.length]? = some r) :
    evRows rs came form pick worth = rs.eraseIdx (pick % rs.length) ∧ evCame rs came form = came ∧ evClaims rs came form worth = [] := by
  have e := ev_pop (came := came) (worth := worth) h hr
  rw [if_neg (by omega)] at e
  exact e
local macro_rules | `(tactic| walk_at "setItem ref str") => `(tactic| (refine hold_out ?_))
local macro_rules | `(tactic| walk_at "compareOp NotEq ref ref") => `(tactic| (refine hold_out ?_))
theorem c_event (rs : List R) (came form pick worth : Nat) (hlr : rs.length ≤ 4) (hf : form < 5) (hp : pick < 4) (hw : worth < 3) (hc : came < 6) : Events rs came form pick worth := by
  unfold Events
  k_fill
  intro w p loose mean mg mb dp un gd cn cs a ccd cl outer A₀ base h₀ L m s wd rl ow tc n us rest sub t1 t2 t3 Q E B F X N hsub hwd off off2 hD T hck hdp hun hret
  have hd : dp + 1 < 900 := hdp
  have hu : un + 100 * 1 < 9000 := hun
  have hul : us.length ≤ 4 := by rw [hD.length, List.length_map]; exact hlr
  have hlen : us.length = rs.length := by rw [hD.length, List.length_map]
  have hwr : wd ≠ rl := Ne.symm (off _ (.head _))
  unfold worldOf at hwd hret
  replace hret : EvRet _ w s h₀ L m wd rl ow n us rest sub _ _ _ Q := hret
  walk_at "mine enter"
  k_steps
  · refine hold_in ?_
    k_dflt (refine' set_came ?F11 ?N11 ?U11 ?d11 ?_; (case F11 => k_asm); (case N11 => k_asm); (case U11 => walk_at "mine upd"); (case d11 => assumption); k_whole)
    intro h' o' t' F' N' hd'
    try dsimp only at N'
    dsimp only
    have hcm : comes rs form := .inl (by assumption)
    k_steps
    · refine hold_in ?_
      k_dflt (refine' ne_nil (rs := [10 + ((came : Int) + 1)]) ?N12 ?m12 ?i12 ?e12 ?u12 ?_; (case N12 => k_asm); (case m12 => k_mem); (case i12 => exact .cons _ _ .nil); (case e12 => k_mem); (case u12 => exact room_w hu); k_whole)
      rw [decide_eq_false (show ¬ [10 + ((came : Int) + 1)] = [] from fun e => nomatch e)]
      k_steps
      rename_i lC h4 lC_lt h3 tk0 l0 h2 l0_lt D h1 D_lt h0 F0 N0 kF kN Tc kX
      exact ev_fin2 (evRet_of hret (ev_yes hcm (by assumption) (by assumption))) kF kN sub_ev5 hd' D_lt.2.2.2 lC_lt.2 (dat_snoc hD (fun _ h => .tail _ (.tail _ h)) (row_mk (.head _))) (.list (.tail _ (.head _)) (.cons (.int _ _) .nil))
    · refine hold_in ?_
      k_dflt (refine' ne_nil (rs := []) ?N13 ?m13 ?i13 ?e13 ?u13 ?_; (case N13 => k_asm); (case m13 => k_mem); (case i13 => exact .nil); (case e13 => k_mem); (case u13 => exact room_w hu); k_whole)
      rw [decide_eq_true (show ([] : List Int) = [] from rfl)]
      k_steps
      rename_i lC h4 lC_lt h3 tk0 l0 h2 l0_lt D h1 D_lt h0 F0 N0 kF kN Tc kX
      exact ev_fin2 (evRet_of hret (ev_no hcm (by omega))) kF kN sub_ev5 hd' D_lt.2.2.2 lC_lt.2 (dat_snoc hD (fun _ h => .tail _ (.tail _ h)) (row_mk (.head _))) (.list (.tail _ (.head _)) .nil)
    · refine hold_in ?_
      k_dflt (refine' ne_nil (rs := []) ?N14 ?m14 ?i14 ?e14 ?u14 ?_; (case N14 => k_asm); (case m14 => k_mem); (case i14 => exact .nil); (case e14 => k_mem); (case u14 => exact room_w hu); k_whole)
      rw [decide_eq_true (show ([] : List Int) = [] from rfl)]
      k_steps
      rename_i lC h4 lC_lt h3 tk0 l0 h2 l0_lt D h1 D_lt h0 F0 N0 kF kN Tc kX
      exact ev_fin2 (evRet_of hret (ev_no hcm (by omega))) kF kN sub_ev5 hd' D_lt.2.2.2 lC_lt.2 (dat_snoc hD (fun _ h => .tail _ (.tail _ h)) (row_mk (.head _))) (.list (.tail _ (.head _)) .nil)
  · refine hold_in ?_
    k_dflt (refine' set_came ?F21 ?N21 ?U21 ?d21 ?_; (case F21 => k_asm); (case N21 => k_asm); (case U21 => walk_at "mine upd"); (case d21 => assumption); k_whole)
    intro h' o' t' F' N' hd'
    try dsimp only at N'
    dsimp only
    have hcm : comes rs form := .inr ⟨by omega, by omega⟩
    k_steps
    · refine hold_in ?_
      k_dflt (refine' ne_nil (rs := [10 + ((came : Int) + 1)]) ?N22 ?m22 ?i22 ?e22 ?u22 ?_; (case N22 => k_asm); (case m22 => k_mem); (case i22 => exact .cons _ _ .nil); (case e22 => k_mem); (case u22 => exact room_w hu); k_whole)
      rw [decide_eq_false (show ¬ [10 + ((came : Int) + 1)] = [] from fun e => nomatch e)]
      k_steps
      rename_i lC h4 lC_lt h3 tk0 l0 h2 l0_lt D h1 D_lt h0 F0 N0 kF kN Tc kX
      exact ev_fin2 (evRet_of hret (ev_yes hcm (by assumption) (by assumption))) kF kN sub_ev5 hd' D_lt.2.2.2 lC_lt.2 (dat_snoc hD (fun _ h => .tail _ (.tail _ h)) (row_mk (.head _))) (.list (.tail _ (.head _)) (.cons (.int _ _) .nil))
    · refine hold_in ?_
      k_dflt (refine' ne_nil (rs := []) ?N23 ?m23 ?i23 ?e23 ?u23 ?_; (case N23 => k_asm); (case m23 => k_mem); (case i23 => exact .nil); (case e23 => k_mem); (case u23 => exact room_w hu); k_whole)
      rw [decide_eq_true (show ([] : List Int) = [] from rfl)]
      k_steps
      rename_i lC h4 lC_lt h3 tk0 l0 h2 l0_lt D h1 D_lt h0 F0 N0 kF kN Tc kX
      exact ev_fin2 (evRet_of hret (ev_no hcm (by omega))) kF kN sub_ev5 hd' D_lt.2.2.2 lC_lt.2 (dat_snoc hD (fun _ h => .tail _ (.tail _ h)) (row_mk (.head _))) (.list (.tail _ (.head _)) .nil)
    · refine hold_in ?_
      k_dflt (refine' ne_nil (rs := []) ?N24 ?m24 ?i24 ?e24 ?u24 ?_; (case N24 => k_asm); (case m24 => k_mem); (case i24 => exact .nil); (case e24 => k_mem); (case u24 => exact room_w hu); k_whole)
      rw [decide_eq_true (show ([] : List Int) = [] from rfl)]
      k_steps
      rename_i lC h4 lC_lt h3 tk0 l0 h2 l0_lt D h1 D_lt h0 F0 N0 kF kN Tc kX
      exact ev_fin2 (evRet_of hret (ev_no hcm (by omega))) kF kN sub_ev5 hd' D_lt.2.2.2 lC_lt.2 (dat_snoc hD (fun _ h => .tail _ (.tail _ h)) (row_mk (.head _))) (.list (.tail _ (.head _)) .nil)
  · have hcm : ¬ comes rs form := fun h => h.elim (by assumption) (fun h => by omega)
    have hne : 0 < rs.length := List.length_pos_iff.mpr (by assumption)
    have hj : pick % rs.length < rs.length := Nat.mod_lt _ hne
    obtain ⟨r, hr⟩ : ∃ r, rs[pick % rs.length]? = some r := ⟨_, List.getElem?_eq_getElem hj⟩
    obtain ⟨v, hv, hvD⟩ := datAll_rowAt hD hr
    obtain ⟨ra, rn, u0, u1, u2, u3, u4, rfl, hmr0⟩ := row_inv hvD
    have hmr := hsub _ hmr0
    have hmod : (pick : Int).fmod (us.length : Int) = ((pick % rs.length : Nat) : Int) := by rw [hlen]; exact (Int.ofNat_fmod _ _).symm
    k_dflt (refine' pop_led (j := pick % rs.length) ?F31 ?N31 ?U31 hmod hv ?z31 ?_; (case F31 => k_asm); (case N31 => k_asm); (case U31 => walk_at "mine upd"); (case z31 => omega); k_whole)
    intro h' F' N'
    try dsimp only at N'
    have hul2 : (us.eraseIdx (pick % rs.length)).length ≤ 4 := Nat.le_trans (List.length_eraseIdx_le _ _) hul
    k_steps
    · rename _ < _ ∧ wd < _ ∧ rl < _ ∧ AllLt _ rest => lD
      rename _ < _ ∧ _ < _ ∧ wd < _ ∧ rl < _ ∧ AllLt _ rest => lC
      rename Fr h₀ L _ _ => kF
      rename News h₀ L _ _ => kN
      exact ev_fin2 (evRet_of hret (ev_pop4 hcm (by assumption) hr)) kF kN sub_ev6 hwd lD.2 lC.2.2 (dat_snoc (dat_erase hD) (fun _ h => .tail _ (.tail _ h)) (row_mk (.head _))) (.list (.tail _ (.head _)) .nil)
    · rename _ < _ ∧ wd < _ ∧ rl < _ ∧ AllLt _ rest => lC
      rename Fr h₀ L _ _ => kF
      rename News h₀ L _ _ => kN
      exact ev_fin1 (evRet_of hret (ev_pop3 hcm (by assumption) hr)) kF kN sub_ev7 hwd lC.2 (dat_erase hD) (.list (.head _) .nil)
  · exact absurd (List.length_eq_zero_iff.mp (show rs.length = 0 by omega)) (by assumption)
  · have hcm : ¬ comes rs form := fun h => h.elim (by assumption) (fun h => by omega)
    have hne : 0 < rs.length := List.length_pos_iff.mpr (by assumption)
    have hj : pick % rs.length < rs.length := Nat.mod_lt _ hne
    obtain ⟨r, hr⟩ : ∃ r, rs[pick % rs.length]? = some r := ⟨_, List.getElem?_eq_getElem hj⟩
    obtain ⟨v, hv, hvD⟩ := datAll_rowAt hD hr
    obtain ⟨ra, rn, u0, u1, u2, u3, u4, rfl, hmr0⟩ := row_inv hvD
    have hmr := hsub _ hmr0
    have hmod : (pick : Int).fmod (us.length : Int) = ((pick % rs.length : Nat) : Int) := by rw [hlen]; exact (Int.ofNat_fmod _ _).symm
    k_dflt (refine' pop_led (j := pick % rs.length) ?F33 ?N33 ?U33 hmod hv ?z33 ?_; (case F33 => k_asm); (case N33 => k_asm); (case U33 => walk_at "mine upd"); (case z33 => omega); k_whole)
    intro h' F' N'
    try dsimp only at N'
    have hul2 : (us.eraseIdx (pick % rs.length)).length ≤ 4 := Nat.le_trans (List.length_eraseIdx_le _ _) hul
    k_steps
    · rename _ < _ ∧ wd < _ ∧ rl < _ ∧ AllLt _ rest => lD
      rename _ < _ ∧ _ < _ ∧ wd < _ ∧ rl < _ ∧ AllLt _ rest => lC
      rename Fr h₀ L _ _ => kF
      rename News h₀ L _ _ => kN
      exact ev_fin2 (evRet_of hret (ev_pop4 hcm (by assumption) hr)) kF kN sub_ev6 hwd lD.2 lC.2.2 (dat_snoc (dat_erase hD) (fun _ h => .tail _ (.tail _ h)) (row_mk (.head _))) (.list (.tail _ (.head _)) .nil)
    · rename _ < _ ∧ wd < _ ∧ rl < _ ∧ AllLt _ rest => lC
      rename Fr h₀ L _ _ => kF
      rename News h₀ L _ _ => kN
      exact ev_fin1 (evRet_of hret (ev_pop3 hcm (by assumption) hr)) kF kN sub_ev7 hwd lC.2 (dat_erase hD) (.list (.head _) .nil)
theorem top_off17 : True := by
  w_top off
  trivial
local macro_rules | `(tactic| walk_at "subscriptTail Name Slice ref ref") => `(tactic| (k_here; (with_reducible show wpAny _ _ (subscriptTail _ (PySem.Expr.Slice _ _ none _) (Value.ref _) (Value.ref _)) _ _ _); k_dflt (refine' row3_led ?F ?N ?m ?_ ?s ?t; (case F => k_asm); (case N => k_asm); (case m => k_mem); (case s => with_unfolding_all rfl); (case t => kmk_pure); k_whole); intro D' h' F' N' l1; (try k_sweep)))
local macro_rules | `(tactic| walk_at "CompRest") => `(tactic| (refine hold_out ?_))
def lawM (u : Str → Option Value) (vp : Value) (wd b : Addr) : Str → Option Value := fun y =>
  if y = Str.ofString "pair" then some vp else if y = Str.ofString "world" then some (.ref wd) else if y = Str.ofString "box" then some (.ref b) else u y
theorem lawM_of {m : Str → Option Value} {vp : Value} {wd b : Addr} (h0 : m (Str.ofString "pair") = some vp) (h1 : m (Str.ofString "world") = some (.ref wd)) (h2 : m (Str.ofString "box") = some (.ref b)) : m = lawM m vp wd b := by
  funext y
  unfold lawM
  by_cases e0 : y = Str.ofString "pair"
  · rw [if_pos e0, e0]; exact h0
  · rw [if_neg e0]
    by_cases e1 : y = Str.ofString "world"
    · rw [if_pos e1, e1]; exact h1
    · rw [if_neg e1]
      by_cases e2 : y = Str.ofString "box"
      · rw [if_pos e2, e2]; exact h2
      · rw [if_neg e2]
/-- what stands between two turns of the law -/
structure LawSt (prog : Program) (w : World) (P : List R → Int × Int → Nat → Prop) (i : Nat) (m : Str → Option Value) (nx : Led) where
  rs : List R
  pr : Int × Int
  came : Nat
  b : Addr
  wd : Addr
  rl : Addr
  d : Addr
  ow : Obj
  t : Tok
  tc : Tok
  n : Nat
  nd : Nat
  nl : Nat
  ds : List Value
  us : List Value
  ns : List Int
  vp : Value
  rest : Led
  u : Str → Option Value
  hm : m = lawM u vp wd b
  hnx : nx = (b, listOf [Value.ref d, .int ((4 * i : Nat) : Int) t].toArray n) :: (wd, ow) :: (rl, listOf us.toArray nl) :: rest
  hw : worldOf prog w ow rl came tc
  ob : ∀ p ∈ (wd, ow) :: (rl, listOf us.toArray nl) :: rest, p.1 ≠ b
  ow' : ∀ p ∈ (rl, listOf us.toArray nl) :: rest, p.1 ≠ wd
  orl : ∀ p ∈ rest, p.1 ≠ rl
  hd : (d, listOf ds.toArray nd) ∈ rest
  hds : IntsAre ds ns
  hdl : ds.length ≤ 24
  hp : DatIn rest vp (pairD pr)
  hrs : DatAll rest us (rs.map R.dat)
  hP : P rs pr came
theorem led_start {h₀ h : Heap} {L : Addr} {x0 x1 x2 x3 x4 x5 x6 : Addr × Obj} (N : News h₀ L h [x0, x1, x2, x3, x4, x5, x6]) : News h₀ L h [x4, x1, x0, x3, x5] := by
  intro p hp
  refine N p ?_
  simp only [List.mem_cons, List.not_mem_nil, or_false] at hp ⊢
  rcases hp with h | h | h | h | h <;> simp [h]
theorem st_start {prog : Program} {w : World} {P : List R → Int × Int → Nat → Prop} {rl wd T pa b d x : Addr} {ow : Obj} {t t0 t1 tc : Tok} {n nd np nl : Nat} {ds : List Value} {ns : List Int} {m : Str → Option Value}
    (h0 : P [] (0, 0) 0) (h1 : m (Str.ofString "pair") = some (.ref pa)) (h2 : m (Str.ofString "world") = some (.ref wd)) (h3 : m (Str.ofString "box") = some (.ref b))
    (hI : IntsAre ds ns) (hl : ds.length ≤ 24) (hw : ow.IsDictOf (PySem.strKind prog w) [(Str.ofString "rows", Value.ref rl), (Str.ofString "came", Value.int 0 tc)])
    (l0 : wd < rl ∧ T < rl ∧ pa < rl ∧ b < rl ∧ d < rl ∧ x < rl) (l1 : T < wd ∧ pa < wd ∧ b < wd ∧ d < wd ∧ x < wd) (l2 : b < pa ∧ d < pa ∧ x < pa) (l3 : d < b ∧ x < b) :
    Nonempty (LawSt prog w P 0 m [(b, listOf [Value.ref d, .int 0 t].toArray n), (wd, ow), (rl, listOf ([] : List Value).toArray nl), (pa, { cls := .type "tuple", data := .seq [.int 0 t0, .int 0 t1].toArray np }), (d, listOf ds.toArray nd)]) := by
  refine ⟨{ rs := [], pr := (0, 0), came := 0, b := b, wd := wd, rl := rl, d := d, ow := ow, t := t, tc := tc, n := n, nd := nd, nl := nl, ds := ds, us := [], ns := ns, vp := .ref pa, rest := [(pa, { cls := .type "tuple", data := .seq [.int 0 t0, .int 0 t1].toArray np }), (d, listOf ds.toArray nd)], u := m, hm := ?hm, hnx := rfl, hw := hw, ob := ?ob, ow' := ?ow, orl := ?orl, hd := ?hd, hds := hI, hdl := hl, hp := ?hp, hrs := .nil, hP := h0 }⟩
  case hm => exact lawM_of h1 h2 h3
  case ob =>
    intro p hp
    simp only [List.mem_cons, List.not_mem_nil, or_false] at hp
    rcases hp with h | h | h | h <;> subst h
    · exact Nat.ne_of_gt l1.2.2.1
    · exact Nat.ne_of_gt l0.2.2.2.1
    · exact Nat.ne_of_gt l2.1
    · exact Nat.ne_of_lt l3.1
  case ow =>
    intro p hp
    simp only [List.mem_cons, List.not_mem_nil, or_false] at hp
    rcases hp with h | h | h <;> subst h
    · exact Nat.ne_of_gt l0.1
    · exact Nat.ne_of_lt l1.2.1
    · exact Nat.ne_of_lt l1.2.2.2.1
  case orl =>
    intro p hp
    simp only [List.mem_cons, List.not_mem_nil, or_false] at hp
    rcases hp with h | h <;> subst h
    · exact Nat.ne_of_lt l0.2.2.1
    · exact Nat.ne_of_lt l0.2.2.2.2.1
  case hd => exact .tail _ (.head _)
  case hp => exact .tuple (.head _) (.cons (.int _ _) (.cons (.int _ _) .nil))
theorem ob_app {b : Addr} {x y z : Addr × Obj} {rest own : Led} (h : ∀ p ∈ y :: z :: rest, p.1 ≠ b) (ho : OwnOff own ((x :: y :: z :: rest).map (·.1))) (e : x.1 = b := by rfl) : ∀ p ∈ y :: z :: (rest ++ own), p.1 ≠ b := by
  intro p hp
  simp only [List.mem_cons, List.mem_append] at hp
  rcases hp with hp | hp | hp | hp
  · exact h p (by simp [hp])
  · exact h p (by simp [hp])
  · exact h p (by simp [hp])
  · exact ho p hp b (by simp [e])
theorem led_ev {h₀ h : Heap} {L : Addr} {x0 x1 x2 x3 : Addr × Obj} {r : Led} (N : News h₀ L h (x0 :: x1 :: x2 :: x3 :: r)) : News h₀ L h (x2 :: x3 :: x1 :: r) := by
  intro p hp
  refine N p ?_
  simp only [List.mem_cons] at hp ⊢
  rcases hp with h | h | h | h <;> simp [h]
theorem ev_o1 {b : Addr} {y z : Addr × Obj} {rest own : Led} {o o' : Obj} (h : ∀ p ∈ y :: z :: (rest ++ own), p.1 ≠ b) (hw : ∀ p ∈ z :: rest, p.1 ≠ y.1) (ho : OwnOff own (((b, o) :: y :: z :: rest).map (·.1))) : ∀ p ∈ z :: (b, o') :: (rest ++ own), p.1 ≠ y.1 := by
  intro p hp
  simp only [List.mem_cons, List.mem_append] at hp
  rcases hp with hp | hp | hp | hp
  · exact hw p (by simp [hp])
  · subst hp; exact Ne.symm (h y (.head _))
  · exact hw p (by simp [hp])
  · exact ho p hp y.1 (by simp)
theorem ev_o2 {b : Addr} {y z : Addr × Obj} {rest own : Led} {o o' : Obj} (h : ∀ p ∈ y :: z :: (rest ++ own), p.1 ≠ b) (hw : ∀ p ∈ rest, p.1 ≠ z.1) (ho : OwnOff own (((b, o) :: y :: z :: rest).map (·.1))) : ∀ p ∈ (b, o') :: (rest ++ own), p.1 ≠ z.1 := by
  intro p hp
  simp only [List.mem_cons, List.mem_append] at hp
  rcases hp with hp | hp | hp
  · subst hp; exact Ne.symm (h z (.tail _ (.head _)))
  · exact hw p hp
  · exact ho p hp z.1 (by simp)
def rotate (rs : List R) (more : Nat) : List R := rs.drop more ++ rs.take more
/-- one turn of the law, without the program -/
def LawTurn (P' : List R → Int × Int → Nat → Prop) (rs : List R) (pr : Int × Int) (came form pick worth more : Nat) : Prop :=
  (evRows rs came form pick worth).length ≤ 5 ∧ ∃ T kT kB,
    settledAt (rotate (evRows rs came form pick worth) more) 0 4 = some (T, kT) ∧
    settledAt (rotate (evRows rs came form pick worth) more).reverse 0 4 = some (T.reverse, kB) ∧
    T.map (fun r => (r.d, r.b)) = List.replicate (rotate (evRows rs came form pick worth) more).length (due (rotate (evRows rs came form pick worth) more) pr (evClaims rs came form worth)) ∧
    P' T (due (rotate (evRows rs came form pick worth) more) pr (evClaims rs came form worth)) (evCame rs came form)
theorem rotate_length (rs : List R) (k : Nat) : (rotate rs k).length = rs.length := by
  unfold rotate
  rw [List.length_append, List.length_drop, List.length_take]
  omega
theorem evClaims_len (rs : List R) (came form worth : Nat) : (evClaims rs came form worth).length ≤ 1 := by
  unfold evClaims evC
  split
  · split <;> simp
  · simp
theorem datAll_rot {news : Led} {us : List Value} {rs : List R} {k : Nat} (h : DatAll news us (rs.map R.dat)) : DatAll news (kms_pick us (some (k : Int)) none ++ kms_pick us none (some (k : Int))) ((rotate rs k).map R.dat) := by
  rw [pick_upto, pick_from (i := k) rfl]
  refine datAll_rows ?_ ?_
  · rw [List.map_drop]
    exact datAll_drop k h
  · rw [List.map_take]
    exact datAll_take k h
theorem sub_due {x3 x2 x1 y z b : Addr × Obj} {tl rest own : Led} : ∀ p ∈ x3 :: (tl ++ rest), p ∈ x3 :: x2 :: x1 :: y :: z :: (tl ++ b :: (rest ++ own)) := by
  intro p hp
  simp only [List.mem_cons, List.mem_append] at hp ⊢
  rcases hp with h | h | h <;> simp [h]
theorem led_law {h₀ h : Heap} {L : Addr} {t x3 x2 x1 y z b : Addr × Obj} {tl6 tl5 rest own : Led} (N : News h₀ L h (t :: (tl6 ++ x3 :: x1 :: x2 :: y :: z :: (tl5 ++ b :: (rest ++ own))))) : News h₀ L h (b :: y :: ((x3 :: (tl6 ++ (tl5 ++ rest))) ++ own)) := by
  intro p hp
  refine N p ?_
  simp only [List.mem_cons, List.mem_append, List.cons_append] at hp ⊢
  rcases hp with h | h | h | (h | h | h) | h <;> simp [h]
theorem off_law {b wd : Addr} {ow o4 o4' : Obj} {z x1 x2 : Addr × Obj} {ow5 : Obj} {zo' : Addr × Obj} {D3 : Addr} {oD : Obj} {tl6 tl5 rest own : Led} (hob : ∀ p ∈ (wd, ow) :: z :: (rest ++ own), p.1 ≠ b) (owd : ∀ p ∈ z :: rest, p.1 ≠ wd) (hoff : OwnOff own (((b, o4') :: (wd, ow) :: z :: rest).map (·.1)))
    (O5 : ∀ p ∈ tl5, ∀ q ∈ (wd, ow) :: z :: (b, o4) :: (rest ++ own), p.1 ≠ q.1) (O6 : ∀ p ∈ tl6, ∀ q ∈ (D3, oD) :: x1 :: x2 :: (wd, ow5) :: zo' :: (tl5 ++ (b, o4) :: (rest ++ own)), p.1 ≠ q.1)
    (l3 : ∀ q ∈ x1 :: x2 :: (wd, ow5) :: zo' :: (tl5 ++ (b, o4) :: (rest ++ own)), q.1 < D3) : ∀ p ∈ (D3, oD) :: (tl6 ++ (tl5 ++ rest)), p.1 ≠ b ∧ p.1 ≠ wd ∧ ∀ q ∈ own, q.1 ≠ p.1 := by
  intro p hp
  simp only [List.mem_cons, List.mem_append] at hp
  rcases hp with h | h | h | h
  · subst h
    exact ⟨Nat.ne_of_gt (l3 (b, o4) (by simp)), Nat.ne_of_gt (l3 (wd, ow5) (by simp)), fun q hq => Nat.ne_of_lt (l3 q (by simp [hq]))⟩
  · exact ⟨O6 p h (b, o4) (by simp), O6 p h (wd, ow5) (by simp), fun q hq => Ne.symm (O6 p h q (by simp [hq]))⟩
  · exact ⟨O5 p h (b, o4) (by simp), O5 p h (wd, ow) (by simp), fun q hq => Ne.symm (O5 p h q (by simp [hq]))⟩
  · exact ⟨hob p (by simp [h]), owd p (by simp [h]), fun q hq => hoff q hq p.1 (List.mem_map.mpr ⟨p, by simp [h], rfl⟩)⟩
theorem led_uniq {h₀ h : Heap} {L a : Addr} {all : Led} {o o' : Obj} (N : News h₀ L h all) (x : (a, o) ∈ all) (y : (a, o') ∈ all) : o = o' := by
  have e1 := (N _ x).1
  have e2 := (N _ y).1
  rw [e1] at e2
  exact Option.some.inj e2
theorem tup_off {h₀ h : Heap} {L d a : Addr} {all : Led} {dl : List Value} {nd k : Nat} {xs : Array Value} (N : News h₀ L h all) (hd : (d, listOf dl.toArray nd) ∈ all) (hm : (a, ({ cls := .type "tuple", data := .seq xs k } : Obj)) ∈ all) : a ≠ d := by
  rintro rfl
  have e := led_uniq N hm hd
  unfold W.listOf at e
  injection e with e _
  exact absurd e (by decide)
theorem row_off {h₀ h : Heap} {L d : Addr} {all led : Led} {dl : List Value} {nd : Nat} {v : Value} {r : R} (N : News h₀ L h all) (hs : ∀ p ∈ led, p ∈ all) (hd : (d, listOf dl.toArray nd) ∈ all) (h : DatIn led v r.dat) : DatIn (led.filter fun p => !decide (p.1 = d)) v r.dat := by
  obtain ⟨a, n, t0, t1, t2, t3, t4, rfl, hm⟩ := row_inv h
  have e := tup_off N hd (hs _ hm)
  exact row_mk (List.mem_filter.mpr ⟨hm, by simp [e]⟩)
theorem pair_off {h₀ h : Heap} {L d : Addr} {all led : Led} {dl : List Value} {nd : Nat} {v : Value} {x : Int × Int} (N : News h₀ L h all) (hs : ∀ p ∈ led, p ∈ all) (hd : (d, listOf dl.toArray nd) ∈ all) (h : DatIn led v (pairD x)) : DatIn (led.filter fun p => !decide (p.1 = d)) v (pairD x) := by
  obtain ⟨a, n, t0, t1, rfl, hm⟩ := pair_inv h
  have e := tup_off N hd (hs _ hm)
  exact .tuple (List.mem_filter.mpr ⟨hm, by simp [e]⟩) (.cons (.int _ _) (.cons (.int _ _) .nil))
theorem rows_off {h₀ h : Heap} {L d : Addr} {all led : Led} {dl : List Value} {nd : Nat} (N : News h₀ L h all) (hs : ∀ p ∈ led, p ∈ all) (hd : (d, listOf dl.toArray nd) ∈ all) : ∀ {rs : List R} {us : List Value}, DatAll led us (rs.map R.dat) → DatAll (led.filter fun p => !decide (p.1 = d)) us (rs.map R.dat)
  | [], _, h => by cases h; exact .nil
  | r :: rs, _, h => by
    cases h with
    | cons h1 h2 => exact .cons (row_off N hs hd h1) (rows_off N hs hd h2)
theorem settled_inv {led : Led} {v : Value} {T : List R} {k : Nat} (h : DatIn led v (settledD (some (T, k)))) : ∃ ta n la ln us t, v = .ref ta ∧ (ta, ({ cls := .type "tuple", data := .seq [.ref la, .int (k : Int) t].toArray n } : Obj)) ∈ led ∧ (la, listOf us.toArray ln) ∈ led ∧ DatAll led us (T.map R.dat) := by
  unfold settledD at h
  cases h with
  | tuple hm hr =>
    obtain ⟨x, y, rfl, h2, h3⟩ := all2 hr
    obtain ⟨la, us, ln, rfl, hl, hD⟩ := list_inv h2
    obtain ⟨t, rfl⟩ := int_inv h3
    exact ⟨_, _, _, _, _, _, rfl, hm, hl, hD⟩
theorem led_law2 {h₀ h : Heap} {L : Addr} {x b y : Addr × Obj} {tl G own : Led} (N : News h₀ L h (x :: (tl ++ b :: y :: (G ++ own)))) : News h₀ L h (x :: b :: y :: ((tl ++ G) ++ own)) := by
  intro p hp
  refine N p ?_
  simp only [List.mem_cons, List.mem_append] at hp ⊢
  rcases hp with h | h | h | (h | h) | h <;> simp [h]
theorem led_law3 {h₀ h : Heap} {L : Addr} {x b y : Addr × Obj} {tl G own : Led} (N : News h₀ L h (tl ++ x :: b :: y :: (G ++ own))) : News h₀ L h (b :: y :: ((tl ++ x :: G) ++ own)) := by
  intro p hp
  refine N p ?_
  simp only [List.mem_cons, List.mem_append] at hp ⊢
  rcases hp with h | h | (h | h | h) | h <;> simp [h]
theorem off_law2 {b wd : Addr} {o o' : Obj} {tl G own : Led} (hG : ∀ p ∈ G, p.1 ≠ b ∧ p.1 ≠ wd ∧ ∀ q ∈ own, q.1 ≠ p.1) (O : ∀ p ∈ tl, ∀ q ∈ (b, o) :: (wd, o') :: (G ++ own), p.1 ≠ q.1) : ∀ p ∈ tl ++ G, p.1 ≠ b ∧ p.1 ≠ wd ∧ ∀ q ∈ own, q.1 ≠ p.1 := by
  intro p hp
  rcases List.mem_append.mp hp with h | h
  · exact ⟨O p h (b, o) (by simp), O p h (wd, o') (by simp), fun q hq => Ne.symm (O p h q (by simp [hq]))⟩
  · exact hG p h
theorem off_law3 {b wd D : Addr} {o o' oD : Obj} {tl G own : Led} (hG : ∀ p ∈ G, p.1 ≠ b ∧ p.1 ≠ wd ∧ ∀ q ∈ own, q.1 ≠ p.1) (l : ∀ q ∈ (b, o) :: (wd, o') :: (G ++ own), q.1 < D) (O : ∀ p ∈ tl, ∀ q ∈ (D, oD) :: (b, o) :: (wd, o') :: (G ++ own), p.1 ≠ q.1) : ∀ p ∈ tl ++ (D, oD) :: G, p.1 ≠ b ∧ p.1 ≠ wd ∧ ∀ q ∈ own, q.1 ≠ p.1 := by
  intro p hp
  simp only [List.mem_cons, List.mem_append] at hp
  rcases hp with h | h | h
  · exact ⟨O p h (b, o) (by simp), O p h (wd, o') (by simp), fun q hq => Ne.symm (O p h q (by simp [hq]))⟩
  · subst h
    exact ⟨Nat.ne_of_gt (l (b, o) (by simp)), Nat.ne_of_gt (l (wd, o') (by simp)), fun q hq => Nat.ne_of_lt (l q (by simp [hq]))⟩
  · exact hG p h
theorem lt_law {D : Addr} {b y : Addr × Obj} {tl G own : Led} (l : ∀ q ∈ tl ++ b :: y :: (G ++ own), q.1 < D) : ∀ q ∈ b :: y :: ((tl ++ G) ++ own), q.1 < D := by
  intro p hp
  refine l p ?_
  simp only [List.mem_cons, List.mem_append] at hp ⊢
  rcases hp with h | h | (h | h) | h <;> simp [h]
theorem st_next {prog : Program} {w : World} {P : List R → Int × Int → Nat → Prop} {i came : Nat} {T : List R} {PR : Int × Int} {m : Str → Option Value} {K own all : Led} {b wd la d : Addr} {h₀ h : Heap} {L : Addr} {ow' : Obj} {t tc : Tok} {n nd ln : Nat} {ds usT : List Value} {ns : List Int} {vp : Value}
    (h1 : m (Str.ofString "pair") = some vp) (h2 : m (Str.ofString "world") = some (.ref wd)) (h3 : m (Str.ofString "box") = some (.ref b))
    (N : News h₀ L h all) (hs : ∀ p ∈ K, p ∈ all) (hw : worldOf prog w ow' la came tc) (hbw : b ≠ wd) (hG : ∀ p ∈ K, p.1 ≠ b ∧ p.1 ≠ wd ∧ ∀ q ∈ own, q.1 ≠ p.1)
    (hla : (la, listOf usT.toArray ln) ∈ K) (hd : (d, listOf ds.toArray nd) ∈ K) (hne : la ≠ d) (hds : IntsAre ds ns) (hdl : ds.length ≤ 24) (hp : DatIn K vp (pairD PR)) (hT : DatAll K usT (T.map R.dat)) (hP : P T PR came) :
    Nonempty (LawSt prog w P (i + 1) m ((b, listOf [Value.ref d, .int ((4 * i + 1 + 1 + 1 + 1 : Nat) : Int) t].toArray n) :: (wd, ow') :: (la, listOf usT.toArray ln) :: K.filter fun p => !decide (p.1 = la))) := by
  have hr : ∀ p ∈ (la, listOf usT.toArray ln) :: K.filter fun p => !decide (p.1 = la), p ∈ K := fun p hp => by
    rcases List.mem_cons.mp hp with e | hp
    · exact e ▸ hla
    · exact (List.mem_filter.mp hp).1
  refine ⟨{ rs := T, pr := PR, came := came, b := b, wd := wd, rl := la, d := d, ow := ow', t := t, tc := tc, n := n, nd := nd, nl := ln, ds := ds, us := usT, ns := ns, vp := vp, rest := K.filter fun p => !decide (p.1 = la), u := m, hm := lawM_of h1 h2 h3, hnx := rfl, hw := hw, ob := ?ob, ow' := fun p hp => (hG p (hr p hp)).2.1, orl := ?orl, hd := ?hd, hds := hds, hdl := hdl, hp := pair_off N hs (hs _ hla) hp, hrs := rows_off N hs (hs _ hla) hT, hP := hP }⟩
  case ob =>
    intro p hp
    rcases List.mem_cons.mp hp with e | hp
    · rw [e]; exact Ne.symm hbw
    · exact (hG p (hr p hp)).1
  case orl =>
    intro p hp
    have := (List.mem_filter.mp hp).2
    simpa using this
  case hd => exact List.mem_filter.mpr ⟨hd, by simp [Ne.symm hne]⟩
theorem next_sub {x y z : Addr × Obj} {K own : Led} {f : Addr × Obj → Bool} (hz : z ∈ K) : ∀ p ∈ (x :: y :: z :: K.filter f) ++ own, p ∈ x :: y :: (K ++ own) := by
  intro p hp
  simp only [List.cons_append, List.mem_cons, List.mem_append] at hp ⊢
  rcases hp with h | h | h | h | h
  · exact .inl h
  · exact .inr (.inl h)
  · exact .inr (.inr (.inl (h ▸ hz)))
  · exact .inr (.inr (.inl (List.mem_filter.mp h).1))
  · exact .inr (.inr (.inr h))
theorem next_off {b wd la : Addr} {o o' ol : Obj} {K own : Led} {f : Addr × Obj → Bool} (hG : ∀ p ∈ K, p.1 ≠ b ∧ p.1 ≠ wd ∧ ∀ q ∈ own, q.1 ≠ p.1) (hb : ∀ p ∈ own, p.1 ≠ b) (hw : ∀ p ∈ own, p.1 ≠ wd) (hz : (la, ol) ∈ K) :
    OwnOff own (((b, o) :: (wd, o') :: (la, ol) :: K.filter f).map (·.1)) := by
  intro p hp c hc
  obtain ⟨q, hq, rfl⟩ := List.mem_map.mp hc
  simp only [List.mem_cons] at hq
  rcases hq with h | h | h | h
  · rw [h]; exact hb p hp
  · rw [h]; exact hw p hp
  · rw [h]; exact (hG _ hz).2.2 p hp
  · exact (hG q (List.mem_filter.mp h).1).2.2 p hp
theorem dat_rep {led : Led} {v : Value} {x : Int × Int} {k j : Nat} (h : DatIn led v (pairD x)) (e : k = j) : DatAll led (List.replicate k v) ((List.replicate j x).map pairD) := by
  subst e
  induction k with
  | zero => exact .nil
  | succ k ih => exact .cons h ih
theorem News_sub {h₀ h : Heap} {L : Addr} {a b : Led} (N : News h₀ L h b) (hs : ∀ p ∈ a, p ∈ b) : News h₀ L h a := fun p hp => N p (hs p hp)
theorem law_holds (P : Nat → List R → Int × Int → Nat → Prop) (h0 : P 0 [] (0, 0) 0) (hL : ∀ i rs pr came, i < 6 → P i rs pr came → rs.length ≤ 4 ∧ came < 6)
    (hS : ∀ i rs pr came form pick worth more, i < 6 → P i rs pr came → form < 5 → pick < 4 → worth < 3 → more < 4 → LawTurn (P (i + 1)) rs pr came form pick worth more) : PySem.Challenge.rw_sj0171_01.Holds := hd (by
  k_go0
  all_goals try k_fold
  k_steps
  refine hold_in ?_
  rename Fr _ _ _ _ => lF
  with_unfolding_all refine' For_invVF lF ?k1 ?k2 ?_
  case k1 => exact rfl
  case k2 => exact rfl
  k_steps
  refine hold_in ?_
  rename World => w
  rename IntsAre _ (List.take 24 _) => hI
  rename News _ _ _ _ => lN
  rename Obj.IsDictOf _ _ (strPairs _) => hdw
  replace hdw : Obj.IsDictOf _ _ [(Str.ofString "rows", _), (Str.ofString "came", .int 0 _)] := hdw
  k_dflt (refine' for_range (fun i m nx => Nonempty (LawSt PySem.Challenge.rw_sj0171_01.row.prog w (P i) i m nx)) 6 ?hn ?kh ?kL ?kF ?kN ?kj ?kt ?kd)
  case kF => exact lF
  case kL => exact rfl
  case kh => exact rfl
  case hn => omega
  case kN => exact led_start lN
  case kj =>
    refine st_start h0 (by with_unfolding_all rfl) (by with_unfolding_all rfl) (by with_unfolding_all rfl) hI (by have e := hI.length; rw [List.length_take] at e; omega) hdw (by assumption) (by assumption) (by assumption) (by assumption)
  case kt =>
    rintro i t0 m₁ nx h tk own hi ⟨S⟩ hoff F2 N2
    obtain ⟨rs, pr, came, b, wd, rl, d, ow, t, tc, n, nd, nl, ds, us, ns, vp, rest, u, rfl, rfl, hwd, ob, owd, orl, hdm, hds, hdl, hp, hrs, hP⟩ := S
    unfold lawM at F2
    try dsimp only at F2
    rw [List.cons_append, List.cons_append, List.cons_append] at N2
    have hob : ∀ p ∈ (wd, ow) :: (rl, listOf us.toArray nl) :: (rest ++ own), p.1 ≠ b := ob_app ob hoff
    have hdm2 : (d, listOf ds.toArray nd) ∈ (wd, ow) :: (rl, listOf us.toArray nl) :: (rest ++ own) := .tail _ (.tail _ (List.mem_append.mpr (.inl hdm)))
    k_steps
    refine hold_in ?_
    k_dflt (refine' c_drawn 5 (.inr (.inr rfl)) _ _ _ _ _ _ _ _ _ _ _ _ _ _ _ _ _ _ _ _ _ b d (4 * i) t n nd ds ns ((wd, ow) :: (rl, listOf us.toArray nl) :: (rest ++ own)) _ _ _ ?B1 F2 ?X1 N2 ?off1 ?hd1 hds hdl ?k1 ?T1 ?ck1 ?dp1 ?un1 ?_; (case B1 => k_asm); (case X1 => k_asm); (case off1 => exact hob); (case hd1 => exact hdm2); (case k1 => omega); (case T1 => k_asm); (case ck1 => rfl); (case dp1 => decide); (case un1 => decide))
    intro r1 q1 t1 h1 k1 hr1 F1 N1
    try dsimp only
    k_steps
    refine hold_in ?_
    k_dflt (refine' c_drawn 4 (.inr (.inl rfl)) _ _ _ _ _ _ _ _ _ _ _ _ _ _ _ _ _ _ _ _ _ b d (4 * i + 1) t1 n nd ds ns ((wd, ow) :: (rl, listOf us.toArray nl) :: (rest ++ own)) _ _ _ ?B2 F1 ?X2 N1 ?off2 ?hd2 hds hdl ?k2 ?T2 ?ck2 ?dp2 ?un2 ?_; (case B2 => k_asm); (case X2 => k_asm); (case off2 => exact hob); (case hd2 => exact hdm2); (case k2 => omega); (case T2 => k_asm); (case ck2 => rfl); (case dp2 => decide); (case un2 => decide))
    intro r2 q2 t2 h2 k2 hr2 F2' N2'
    try dsimp only
    k_steps
    refine hold_in ?_
    k_dflt (refine' c_drawn 3 (.inl rfl) _ _ _ _ _ _ _ _ _ _ _ _ _ _ _ _ _ _ _ _ _ b d (4 * i + 1 + 1) t2 n nd ds ns ((wd, ow) :: (rl, listOf us.toArray nl) :: (rest ++ own)) _ _ _ ?B3 F2' ?X3 N2' ?off3 ?hd3 hds hdl ?k3 ?T3 ?ck3 ?dp3 ?un3 ?_; (case B3 => k_asm); (case X3 => k_asm); (case off3 => exact hob); (case hd3 => exact hdm2); (case k3 => omega); (case T3 => k_asm); (case ck3 => rfl); (case dp3 => decide); (case un3 => decide))
    intro r3 q3 t3 h3 k3 hr3 F3 N3
    try dsimp only
    k_steps
    refine hold_in ?_
    k_dflt (refine' c_drawn 4 (.inr (.inl rfl)) _ _ _ _ _ _ _ _ _ _ _ _ _ _ _ _ _ _ _ _ _ b d (4 * i + 1 + 1 + 1) t3 n nd ds ns ((wd, ow) :: (rl, listOf us.toArray nl) :: (rest ++ own)) _ _ _ ?B4 F3 ?X4 N3 ?off4 ?hd4 hds hdl ?k4 ?T4 ?ck4 ?dp4 ?un4 ?_; (case B4 => k_asm); (case X4 => k_asm); (case off4 => exact hob); (case hd4 => exact hdm2); (case k4 => omega); (case T4 => k_asm); (case ck4 => rfl); (case dp4 => decide); (case un4 => decide))
    intro r4 q4 t4 h4 k4 hr4 F4 N4
    try dsimp only
    k_steps
    refine hold_in ?_
    rename News _ _ _ _ => N5
    rename Fr _ _ _ _ => F5
    obtain ⟨hlr, hcl⟩ := hL _ _ _ _ hi hP
    obtain ⟨hl1, T, kT, kB, hT, hB, hrep, hP'⟩ := hS i rs pr came r1 r2 r3 r4 hi hP hr1 hr2 hr3 hr4
    k_dflt (refine' c_event rs came r1 r2 r3 hlr hr1 hr2 hr3 hcl _ _ _ _ _ _ _ _ _ _ _ _ _ _ _ _ _ _ _ _ _ wd rl ow tc nl us ((b, listOf [Value.ref d, .int ((4 * i + 1 + 1 + 1 + 1 : Nat) : Int) t4].toArray n) :: (rest ++ own)) rest _ _ _ _ _ ?Be F5 ?Xe ?Ne ?se hwd ?o1 ?o2 hrs ?Te ?ce ?de ?ue ?_; (case Be => k_asm); (case Xe => k_asm); (case Ne => exact led_ev N5); (case se => exact fun p hp => .tail _ (List.mem_append.mpr (.inl hp))); (case o1 => exact ev_o1 hob owd hoff); (case o2 => exact ev_o2 hob orl hoff); (case Te => k_asm); (case ce => rfl); (case de => decide); (case ue => decide))
    clear N5 F5
    intro r5 tl5 us5 n5 ow5 t5 h5 tk5 F5 N5 O5 hwd5 hD5 hC5
    try dsimp only
    unfold worldOf at hwd5
    have hul5 : us5.length ≤ 5 := by rw [hD5.length, List.length_map]; exact hl1
    k_steps
    refine hold_in ?_
    rename News _ _ _ _ => N6
    rename Fr _ _ _ _ => F6
    rename_i hx0 D2 hx1 l2 D1 hx2 l1 D3 hx3 l3 hx4
    have hrot : DatAll (tl5 ++ rest) (kms_pick us5 (some (r4 : Int)) none ++ kms_pick us5 none (some (r4 : Int))) ((rotate (evRows rs came r1 r2 r3) r4).map R.dat) := datAll_rot hD5
    have hrl : (rotate (evRows rs came r1 r2 r3) r4).length ≤ 5 := by rw [rotate_length]; exact hl1
    refine says_dat (sub := (D3, listOf (kms_pick us5 (some (r4 : Int)) none ++ kms_pick us5 none (some (r4 : Int))).toArray 0) :: (tl5 ++ rest)) (c_lawDue (rotate (evRows rs came r1 r2 r3) r4) pr (evClaims rs came r1 r3) (Nat.le_trans hrl (by decide)) (Nat.le_trans (evClaims_len rs came r1 r3) (by decide))) (by k_asm) (by k_asm) (by k_asm) N6 (by k_asm) (by first | exact rfl | assumption)
      (DatAll.cons (DatIn.list (.head _) (hrot.mono fun _ h => .tail _ h)) (.cons (hp.mono fun _ h => .tail _ (List.mem_append.mpr (.inr h))) (.cons (hC5.mono fun _ h => .tail _ h) .nil))) sub_due (by decide) (by decide) ?_
    clear N6 F6
    intro r6 tl6 h6 tk6 F6 N6 O6 D6
    try dsimp only
    k_steps
    refine hold_in ?_
    rename News _ _ _ _ => N7
    rename Fr _ _ _ _ => F7
    have M7 := led_law N7
    generalize hus : kms_pick us5 (some (r4 : Int)) none ++ kms_pick us5 none (some (r4 : Int)) = usR at *
    generalize hRS : rotate (evRows rs came r1 r2 r3) r4 = RS at *
    generalize hCL : evClaims rs came r1 r3 = CL at *
    generalize hPR : due RS pr CL = PR at *
    have hG : ∀ p ∈ (D3, listOf usR.toArray 0) :: (tl6 ++ (tl5 ++ rest)), p.1 ≠ b ∧ p.1 ≠ wd ∧ ∀ q ∈ own, q.1 ≠ p.1 := off_law hob owd hoff O5 O6 l3
    have hDd : D3 ≠ d := Nat.ne_of_gt (l3 _ (.tail _ (.tail _ (.tail _ (.tail _ (List.mem_append.mpr (.inr (.tail _ (List.mem_append.mpr (.inl hdm)))))))))) 
    have hLR : DatIn ((D3, listOf usR.toArray 0) :: (tl6 ++ (tl5 ++ rest))) (.ref D3) (rowsD RS) := DatIn.list (.head _) (hrot.mono fun _ h => .tail _ (List.mem_append.mpr (.inr h)))
    have hPv : DatIn ((D3, listOf usR.toArray 0) :: (tl6 ++ (tl5 ++ rest))) r6 (pairD PR) := D6.mono fun p hp => by
      simp only [List.mem_cons, List.mem_append] at hp ⊢
      rcases hp with h | h | h | h <;> simp [h]
    have hpv : DatIn ((D3, listOf usR.toArray 0) :: (tl6 ++ (tl5 ++ rest))) vp (pairD pr) := hp.mono fun p hp => .tail _ (List.mem_append.mpr (.inr (List.mem_append.mpr (.inr hp))))
    have hdG : (d, listOf ds.toArray nd) ∈ (D3, listOf usR.toArray 0) :: (tl6 ++ (tl5 ++ rest)) := .tail _ (List.mem_append.mpr (.inr (List.mem_append.mpr (.inr hdm))))
    have husl : usR.length ≤ 5 := by rw [hrot.length, List.length_map]; exact hrl
    have hrtl : DatAll (tl6 ++ (tl5 ++ rest)) usR (RS.map R.dat) := hrot.mono fun _ h => List.mem_append.mpr (.inr h)
    have husR : usR.length = RS.length := by rw [hrot.length, List.length_map]
    have hbo : ∀ p ∈ own, p.1 ≠ b := fun p hp => hoff p hp b (by simp)
    have hwo : ∀ p ∈ own, p.1 ≠ wd := fun p hp => hoff p hp wd (by simp)
    have hbw : b ≠ wd := fun e => hob (wd, ow) (.head _) e.symm
    have hdl' : (D3, listOf usR.toArray 0) ∈ (D3, listOf usR.toArray 0) :: (tl6 ++ (tl5 ++ rest)) := .head _
    replace hrtl : DatAll ((D3, listOf usR.toArray 0) :: (tl6 ++ (tl5 ++ rest))) usR (RS.map R.dat) := hrtl.mono fun _ h => .tail _ h
    clear N7 O5 O6 l1 l2 l3 hD5 hC5 D6 hrot hus hob hdm2 hoff ob owd orl hp hrs hl1 hul5
    generalize (D3, listOf usR.toArray 0) :: (tl6 ++ (tl5 ++ rest)) = G at *
    have hGs : ∀ p ∈ G, p ∈ (b, listOf [Value.ref d, .int ((4 * i + 1 + 1 + 1 + 1 : Nat) : Int) t4].toArray n) :: (wd, ow5) :: (G ++ own) := fun p hp => .tail _ (.tail _ (List.mem_append.mpr (.inl hp)))
    refine says_dat (sub := G.filter fun p => !decide (p.1 = d)) (c_settled RS (Nat.le_trans hrl (by decide))) (by k_asm) (by k_asm) (by k_asm) M7 (by k_asm) (by first | exact rfl | assumption)
      (DatAll.cons (DatIn.list (List.mem_filter.mpr ⟨hdl', by simp [hDd]⟩) (rows_off M7 hGs (hGs _ hdG) hrtl)) (.cons (.int _ _) .nil)) (fun p hp => hGs p (List.mem_filter.mp hp).1) (by decide) (by decide) ?_
    clear F7
    intro r7 tl7 h7 tk7 F7 N7 O7 D7
    rw [hT] at D7
    obtain ⟨ta, tn, la, ln, usT, tT, rfl, hta, hla, hDT⟩ := settled_inv D7
    try dsimp only
    k_steps
    refine hold_in ?_
    rename News _ _ _ _ => N8
    rename Fr _ _ _ _ => F8
    rename ∀ q ∈ (_ : Led), q.fst < _ => l8
    rename_i D4 hx5
    have hlad : la ≠ d := by
      rcases List.mem_append.mp hla with h | h
      · exact O7 _ h _ (hGs _ hdG)
      · simpa using (List.mem_filter.mp h).2
    have hsub : ∀ p ∈ tl7 ++ G.filter (fun p => !decide (p.1 = d)), p ∈ tl7 ++ G := fun p hp => by
      rcases List.mem_append.mp hp with h | h
      · exact List.mem_append.mpr (.inl h)
      · exact List.mem_append.mpr (.inr (List.mem_filter.mp h).1)
    have hGH : ∀ p ∈ G, p ∈ tl7 ++ G := fun p hp => List.mem_append.mpr (.inr hp)
    replace hG := off_law2 hG O7
    replace hta := hsub _ hta
    replace hla := hsub _ hla
    replace hDT := hDT.mono hsub
    replace hPv := hPv.mono hGH
    replace hpv := hpv.mono hGH
    replace hdG := hGH _ hdG
    replace hrtl := hrtl.mono hGH
    replace N8 := led_law2 N8
    replace l8 := lt_law l8
    replace hdl' := hGH _ hdl'
    clear hGH hsub hGs D7 O7 hLR hDd
    generalize tl7 ++ G = H at *
    refine says_dat (sub := (D4, listOf usR.reverse.toArray 0) :: H) (c_settled RS.reverse (Nat.le_trans (by rw [List.length_reverse]; exact hrl) (by decide))) (by k_asm) (by k_asm) (by k_asm) N8 (by k_asm) (by first | exact rfl | assumption)
      (DatAll.cons (DatIn.list (.head _) (by rw [List.map_reverse]; exact (datAll_reverse hrtl).mono fun _ h => .tail _ h)) (.cons (.int _ _) .nil)) (fun p hp => (List.mem_cons.mp hp).elim (fun e => e ▸ .head _) fun h => .tail _ (.tail _ (.tail _ (List.mem_append.mpr (.inl h))))) (by decide) (by decide) ?_
    clear F8
    intro r8 tl8 h8 tk8 F8 N9 O8 D8
    rw [hB] at D8
    obtain ⟨tb, bn, lb, bln, usB, tB, rfl, htb, hlb, hDB⟩ := settled_inv D8
    replace hG := off_law3 hG l8 O8
    replace N9 := led_law3 N9
    have hGH : ∀ p ∈ H, p ∈ tl8 ++ (D4, listOf usR.reverse.toArray 0) :: H := fun p hp => List.mem_append.mpr (.inr (.tail _ hp))
    replace hta := hGH _ hta
    replace hla := hGH _ hla
    replace hDT := hDT.mono hGH
    replace hPv := hPv.mono hGH
    replace hpv := hpv.mono hGH
    replace hdG := hGH _ hdG
    replace hdl' := hGH _ hdl'
    clear hGH D8 O8 N8 l8 hrtl
    have hTl : T.length = RS.length := by have e := congrArg List.length hrep; rw [List.length_map, List.length_replicate] at e; exact e
    have hulT : usT.length ≤ 5 := by rw [hDT.length, List.length_map, hTl]; exact hrl
    generalize tl8 ++ (D4, listOf usR.reverse.toArray 0) :: H = K at *
    try dsimp only
    k_steps
    refine hold_in ?_
    refine comp_U R.dat (fun r => pairD (r.d, r.b)) (hDT.mono fun p hp => .tail _ (.tail _ (.tail _ (List.mem_append.mpr (.inl hp))))) (.tail _ (.tail _ (.tail _ (List.mem_append.mpr (.inl hla))))) ?_ ?_
    · intro r hr v I oI C oC D m₂ ys nw h tk E' hv' G hC hx F1 N1 off ne
      obtain ⟨ra, rn, t0, t1, t2, t3, t4, rfl, hm'⟩ := row_inv hv'
      dsimp only
      k_steps
      rename News _ _ _ _ => N2
      rename Fr _ _ _ _ => F2
      rename ∀ q ∈ (_ : Led), q.fst < _ => l2
      exact CEnd.one F2 N2 off (ne_lt l2) (.tuple (.head _) (.cons (.int _ _) (.cons (.int _ _) .nil)))
    · intro ys nw hy hyl G
      have hyl : ys.length ≤ 5 := by omega
      have hD3n : (D3, listOf usR.toArray 0) ∈ nw := G.1 _ (.tail _ (.tail _ (.tail _ (List.mem_append.mpr (.inl hdl')))))
      unfold LCg.FinE
      intro D0 h0 tk0 F0 N0 o0
      dsimp only
      k_steps
      refine hold_in ?_
      rename News _ _ _ _ => N1
      rename Fr _ _ _ _ => F1
      rename_i tq tkq D5 h5 l5
      have hKn : ∀ p ∈ K, p ∈ nw := fun p hp => G.1 _ (.tail _ (.tail _ (.tail _ (List.mem_append.mpr (.inl hp)))))
      refine ne_pairs (x := T.map fun r => (r.d, r.b)) (y := List.replicate RS.length PR) N1 (DatIn.list (.tail _ (.tail _ (.head _))) (by rw [List.map_map]; exact hy.mono fun _ h => .tail _ (.tail _ (.tail _ h)))) (fun _ h => h)
        (DatIn.list (.head _) (dat_rep (hPv.mono fun p hp => .tail _ (.tail _ (.tail _ (hKn p hp)))) (by rw [Int.toNat_natCast]; exact husR))) (fun _ h => h) (by first | decide | exact Nat.le_of_ble_eq_true rfl) ?_
      rw [decide_eq_true hrep]
      replace N1 := News_sub N1 (fun p hp => .tail _ (.tail _ (.tail _ (G.1 p (.tail _ hp)))))
      clear hy hyl G hD3n o0 hKn l5
      k_steps
      refine hold_in ?_
      rename News _ _ _ _ => N2
      rename Fr _ _ _ _ => F2
      refine ne_rows (x := T.reverse) (y := T.reverse) N2 (DatIn.list (.tail _ (.tail _ (.tail _ (List.mem_append.mpr (.inl hlb))))) (hDB.mono fun p hp => .tail _ (.tail _ (.tail _ (List.mem_append.mpr (.inl hp)))))) (fun _ h => h)
        (DatIn.list (.head _) (by rw [List.map_reverse]; exact (datAll_reverse hDT).mono fun p hp => .tail _ (.tail _ (.tail _ (List.mem_append.mpr (.inl hp)))))) (fun _ h => h) (by first | decide | exact Nat.le_of_ble_eq_true rfl) ?_
      rw [decide_eq_true (rfl : T.reverse = T.reverse)]
      replace N2 := News_sub N2 (fun p hp => .tail _ hp)
      k_steps
      refine hold_in ?_
      rename News _ _ _ _ => N3
      rename Fr _ _ _ _ => F3
      refine says_bool (sub := K) (c_lawAnewRight T pr PR (Nat.le_trans (Nat.le_of_eq hTl) (Nat.le_trans hrl (by decide)))) (by k_asm) F3 (by k_asm) N3 (by k_asm) (by first | exact rfl | assumption) (DatAll.cons (DatIn.list hla hDT) (.cons hpv (.cons hPv .nil))) (fun p hp => .tail _ (.tail _ (List.mem_append.mpr (.inl hp)))) (by decide) (by decide) ?_
      intro h9 tk9 F9 N9
      try dsimp only
      clear F3 N3
      k_steps
      refine hold_in ?_
      rename News _ _ _ _ => N4
      rename Fr _ _ _ _ => F4
      have hKw : ∀ p ∈ K ++ own, p.1 ≠ wd := fun p hp => (List.mem_append.mp hp).elim (fun h => (hG p h).2.1) (hwo p)
      refine set_rows F4 N4 (UpdF.tail hbw (UpdF.head hKw)) hwd5 ?_
      intro hA oA FA NA dA
      try dsimp only
      k_steps
      refine REnd.next _ FA NA (next_sub (f := fun p => !decide (p.1 = la)) hla) (next_off (f := fun p => !decide (p.1 = la)) hG hbo hwo hla) ?_
      refine st_next ?e1 ?e2 ?e3 NA (fun p hp => .tail _ (.tail _ (List.mem_append.mpr (.inl hp)))) dA hbw hG hla hdG hlad hds hdl hPv hDT hP'
      case e1 => with_unfolding_all rfl
      case e2 => with_unfolding_all rfl
      case e3 => with_unfolding_all rfl
  case kd =>
    rintro m₁ nx h tk ⟨S⟩ F2 N2
    obtain ⟨rs, pr, came, b, wd, rl, d, ow, t, tc, n, nd, nl, ds, us, ns, vp, rest, u, rfl, rfl, hwd, ob, owd, orl, hdm, hds, hdl, hp, hrs, hP⟩ := S
    unfold lawM at F2
    try dsimp only at F2
    k_steps)
end
/-- no worse by priority, then by id -/
def beats (t q : R) : Prop := q.p < t.p ∨ (q.p = t.p ∧ q.i ≤ t.i)
theorem better_iff {r b : R} : better r b = true ↔ b.p < r.p ∨ (r.p = b.p ∧ b.i < r.i) := by
  unfold better
  simp only [lexGt]
  by_cases h1 : r.p = b.p
  · by_cases h2 : r.i = b.i
    · simp [h1, h2]
    · simp [h1, h2]
  · simp [h1]
theorem beats_refl (t : R) : beats t t := .inr ⟨rfl, Int.le_refl _⟩
theorem beats_trans {a b c : R} (h1 : beats a b) (h2 : beats b c) : beats a c := by
  unfold beats at *
  omega
theorem beats_total (a b : R) : beats a b ∨ beats b a := by
  unfold beats
  omega
theorem fold_spec : ∀ (rs : List R) (o : Option R), (rs.foldl bestStep o = none ∧ o = none ∧ rs = []) ∨
    ∃ b, rs.foldl bestStep o = some b ∧ (b ∈ rs ∨ o = some b) ∧ (∀ q ∈ rs, beats b q) ∧ ∀ c, o = some c → beats b c
  | [], none => .inl ⟨rfl, rfl, rfl⟩
  | [], some c => .inr ⟨c, rfl, .inr rfl, (fun _ h => nomatch h), fun d h => by cases h; exact beats_refl _⟩
  | r :: rs, o => by
    rw [List.foldl_cons]
    have key : ∃ m, bestStep o r = some m ∧ (m = r ∨ o = some m) ∧ beats m r ∧ ∀ c, o = some c → beats m c := by
      cases o with
      | none => exact ⟨r, rfl, .inl rfl, beats_refl _, fun _ h => nomatch h⟩
      | some c =>
        cases hb : better r c with
        | true =>
          refine ⟨r, bestStep_yes hb, .inl rfl, beats_refl _, fun d h => ?_⟩
          cases h
          have := better_iff.mp hb
          unfold beats
          omega
        | false =>
          refine ⟨c, bestStep_no hb, .inr rfl, ?_, fun d h => by cases h; exact beats_refl _⟩
          have := mt better_iff.mpr (by rw [hb]; exact Bool.false_ne_true)
          unfold beats
          omega
    obtain ⟨m, hm, hmr, hb, hc⟩ := key
    rw [hm]
    rcases fold_spec rs (some m) with ⟨_, h, _⟩ | ⟨b, h1, h2, h3, h4⟩
    · cases h
    · refine .inr ⟨b, h1, ?_, fun q hq => ?_, fun c h => beats_trans (h4 m rfl) (hc c h)⟩
      · rcases h2 with h2 | h2
        · exact .inl (.tail _ h2)
        · cases h2
          rcases hmr with h | h
          · exact .inl (h ▸ .head _)
          · exact .inr h
      · rcases List.mem_cons.mp hq with h | h
        · rw [h]; exact beats_trans (h4 m rfl) hb
        · exact h3 q h
theorem bestR_top {rs : List R} {t : R} (ht : t ∈ rs) (hb : ∀ q ∈ rs, beats t q) (hi : ∀ q ∈ rs, q.i = t.i → q = t) : bestR rs = some t := by
  unfold bestR
  rcases fold_spec rs none with ⟨_, _, h⟩ | ⟨b, h1, h2, h3, _⟩
  · rw [h] at ht; cases ht
  · rw [h1]
    rcases h2 with h2 | h2
    · have e1 := hb b h2
      have e2 := h3 t ht
      rw [hi b h2 (by unfold beats at e1 e2; omega)]
    · cases h2
theorem bestR_nil {rs : List R} (h : ∀ r, r ∉ rs) : bestR rs = none := by
  rw [List.eq_nil_iff_forall_not_mem.mpr h]
  rfl
theorem t3gt_iff {x y : Int × Int × Int} : t3gt x y = true ↔ y.1 < x.1 ∨ (x.1 = y.1 ∧ (y.2.1 < x.2.1 ∨ (x.2.1 = y.2.1 ∧ y.2.2 < x.2.2))) := by
  unfold t3gt
  simp only [lexGt]
  by_cases h1 : x.1 = y.1
  · by_cases h2 : x.2.1 = y.2.1
    · by_cases h3 : x.2.2 = y.2.2
      · simp [h1, h2, h3]
      · simp [h1, h2, h3]
    · simp [h1, h2]
  · simp [h1]
theorem argBest_spec (g : Nat → Int × Int × Int) : ∀ k : Nat, argBest (fun i j => t3gt (g i) (g j)) k ≤ k ∧ ∀ j ≤ k, ¬ (t3gt (g j) (g (argBest (fun i j => t3gt (g i) (g j)) k)) = true)
  | 0 => ⟨Nat.le_refl _, fun j hj => by
      have e : j = 0 := by omega
      subst e
      show ¬ (t3gt (g 0) (g 0) = true)
      rw [t3gt_iff]
      omega⟩
  | k + 1 => by
    obtain ⟨h1, h2⟩ := argBest_spec g k
    have e : argBest (fun i j => t3gt (g i) (g j)) (k + 1) = if t3gt (g (k + 1)) (g (argBest (fun i j => t3gt (g i) (g j)) k)) = true then k + 1 else argBest (fun i j => t3gt (g i) (g j)) k := rfl
    rw [e]
    generalize argBest (fun i j => t3gt (g i) (g j)) k = m at *
    by_cases hb : t3gt (g (k + 1)) (g m) = true
    · rw [if_pos hb]
      refine ⟨Nat.le_refl _, fun j hj => ?_⟩
      by_cases hj' : j = k + 1
      · subst hj'
        rw [t3gt_iff]
        omega
      · have := h2 j (by omega)
        rw [t3gt_iff] at this hb ⊢
        omega
    · rw [if_neg hb]
      refine ⟨by omega, fun j hj => ?_⟩
      by_cases hj' : j = k + 1
      · subst hj'
        exact hb
      · exact h2 j (by omega)
theorem maxT_spec {ts : List (Int × Int × Int)} (hne : 0 < ts.length) : maxT ts ∈ ts ∧ ∀ x ∈ ts, ¬ (t3gt x (maxT ts) = true) := by
  obtain ⟨h1, h2⟩ := argBest_spec (fun i => ts.getD i (0, 0, 0)) (ts.length - 1)
  unfold maxT
  generalize argBest (fun i j => t3gt (ts.getD i (0, 0, 0)) (ts.getD j (0, 0, 0))) (ts.length - 1) = m at *
  have hm : m < ts.length := by omega
  refine ⟨?_, fun x hx => ?_⟩
  · rw [List.getD_eq_getElem?_getD, List.getElem?_eq_getElem hm]
    exact List.getElem_mem hm
  · obtain ⟨j, hj, rfl⟩ := List.getElem_of_mem hx
    have := h2 j (by omega)
    simp only [List.getD_eq_getElem?_getD, List.getElem?_eq_getElem hj, Option.getD_some] at this ⊢
    exact this
def Ids (ks : List R) : Prop := ∀ q ∈ ks, ∀ t ∈ ks, q.i = t.i → q = t
def Top (ks : List R) (Q : R → Prop) (t : R) : Prop := t ∈ ks ∧ Q t ∧ ∀ q ∈ ks, Q q → beats t q
theorem mem_lawT {rs : List R} {S : List Int} {x : Int × Int × Int} : x ∈ lawT rs S ↔ (∃ r ∈ rs, (0 < r.p ∧ r.a ∈ S) ∧ x = (r.p, r.i, r.a)) ∨ x = (0, 0, 0) := by
  unfold lawT
  simp only [List.mem_append, List.mem_map, List.mem_filter, decide_eq_true_eq, List.mem_singleton]
  constructor
  · rintro (⟨r, ⟨h1, h2⟩, h3⟩ | h)
    · exact .inl ⟨r, h1, h2, h3.symm⟩
    · exact .inr h
  · rintro (⟨r, h1, h2, h3⟩ | h)
    · exact .inl ⟨r, ⟨h1, h2⟩, h3.symm⟩
    · exact .inr h
theorem lawT_len (rs : List R) (S : List Int) : 0 < (lawT rs S).length := by
  unfold lawT
  rw [List.length_append, List.length_singleton]
  omega
theorem lawBest_top {rs : List R} {S : List Int} {t : R} (ids : Ids rs) (h : Top rs (fun r => 0 < r.p ∧ r.a ∈ S) t) : lawBest rs S = t.a := by
  obtain ⟨h1, h2⟩ := maxT_spec (lawT_len rs S)
  obtain ⟨ht, hQ, hb⟩ := h
  have h3 := h2 (t.p, t.i, t.a) (mem_lawT.mpr (.inl ⟨t, ht, hQ, rfl⟩))
  unfold lawBest
  rcases mem_lawT.mp h1 with ⟨r, hr, hrQ, e⟩ | e
  · rw [e] at h3 ⊢
    rw [t3gt_iff] at h3
    dsimp only at h3 ⊢
    have h4 := hb r hr hrQ
    have : r = t := ids r hr t ht (by unfold beats at h4; omega)
    rw [this]
  · rw [e] at h3
    rw [t3gt_iff] at h3
    dsimp only at h3
    omega
theorem lawBest_none {rs : List R} {S : List Int} (h : ∀ r ∈ rs, 0 < r.p → r.a ∉ S) : lawBest rs S = 0 := by
  obtain ⟨h1, _⟩ := maxT_spec (lawT_len rs S)
  unfold lawBest
  rcases mem_lawT.mp h1 with ⟨r, hr, hrQ, e⟩ | e
  · exact absurd hrQ.2 (h r hr hrQ.1)
  · rw [e]
theorem top_exists {ks : List R} {Q : R → Prop} : ∀ {l : List R}, (∀ r ∈ l, r ∈ ks) → (∃ t ∈ l, Q t) → ∃ t, t ∈ l ∧ Q t ∧ ∀ q ∈ l, Q q → beats t q
  | [], _, ⟨_, h, _⟩ => nomatch h
  | r :: l, hs, ⟨t, ht, hQ⟩ => by
    by_cases hl : ∃ t ∈ l, Q t
    · obtain ⟨m, hm, hmQ, hmb⟩ := top_exists (fun q hq => hs q (.tail _ hq)) hl
      by_cases hr : Q r ∧ ¬ beats m r
      · refine ⟨r, .head _, hr.1, fun q hq hqQ => ?_⟩
        rcases List.mem_cons.mp hq with e | hq
        · rw [e]; exact beats_refl _
        · exact beats_trans ((beats_total m r).resolve_left hr.2) (hmb q hq hqQ)
      · refine ⟨m, .tail _ hm, hmQ, fun q hq hqQ => ?_⟩
        rcases List.mem_cons.mp hq with e | hq
        · rw [e] at hqQ ⊢
          by_cases hmr : beats m r
          · exact hmr
          · exact absurd ⟨hqQ, hmr⟩ hr
        · exact hmb q hq hqQ
    · have hr : Q r := by
        rcases List.mem_cons.mp ht with e | ht
        · exact e ▸ hQ
        · exact absurd ⟨t, ht, hQ⟩ hl
      refine ⟨r, .head _, hr, fun q hq hqQ => ?_⟩
      rcases List.mem_cons.mp hq with e | hq
      · rw [e]; exact beats_refl _
      · exact absurd ⟨q, hq, hqQ⟩ hl
theorem top_or {ks : List R} (Q : R → Prop) : (∃ t, Top ks Q t) ∨ ∀ r ∈ ks, ¬ Q r := by
  by_cases h : ∃ t ∈ ks, Q t
  · exact .inl (top_exists (ks := ks) (fun _ h => h) h)
  · exact .inr fun r hr hQ => h ⟨r, hr, hQ⟩
/-- the rows `ks`, each saying what `σ` has for its address -/
def state (σ : Int → Int × Int) (ks : List R) : List R := ks.map fun r => r.said (σ r.a)
def upd (σ : Int → Int × Int) (a : Int) (P : Int × Int) : Int → Int × Int := fun x => if x = a then P else σ x
def aD (σ : Int → Int × Int) (r : R) : Prop := 0 < r.p ∧ (σ r.a).1 = r.a
def aN (σ : Int → Int × Int) (r : R) : Prop := 0 < r.p ∧ (σ r.a).1 ≠ r.a
def aB (σ : Int → Int × Int) (r : R) : Prop := 0 < r.p ∧ (σ r.a).1 ≠ r.a ∧ (σ r.a).2 = r.a
def Adr (ks : List R) : Prop := (ks.map R.a).Nodup
theorem state_length (σ : Int → Int × Int) (ks : List R) : (state σ ks).length = ks.length := List.length_map _
theorem mem_state {σ : Int → Int × Int} {ks : List R} {x : R} : x ∈ state σ ks ↔ ∃ k ∈ ks, x = k.said (σ k.a) := by
  unfold state
  rw [List.mem_map]
  exact ⟨fun ⟨k, h, e⟩ => ⟨k, h, e.symm⟩, fun ⟨k, h, e⟩ => ⟨k, h, e.symm⟩⟩
theorem best_state {σ : Int → Int × Int} {ks : List R} {Q : R → Prop} {t : R} {l : List R} (ids : Ids ks) (h : Top ks Q t) (hl : ∀ x, x ∈ l ↔ ∃ k ∈ ks, Q k ∧ x = k.said (σ k.a)) : bestR l = some (t.said (σ t.a)) := by
  obtain ⟨ht, hQ, hb⟩ := h
  refine bestR_top ((hl _).mpr ⟨t, ht, hQ, rfl⟩) (fun q hq => ?_) fun q hq e => ?_
  · obtain ⟨k, hk, hkQ, rfl⟩ := (hl _).mp hq
    exact hb k hk hkQ
  · obtain ⟨k, hk, hkQ, rfl⟩ := (hl _).mp hq
    rw [ids k hk t ht e]
theorem best_none {σ : Int → Int × Int} {ks : List R} {Q : R → Prop} {l : List R} (h : ∀ k ∈ ks, ¬ Q k) (hl : ∀ x, x ∈ l ↔ ∃ k ∈ ks, Q k ∧ x = k.said (σ k.a)) : bestR l = none :=
  bestR_nil fun x hx => by
    obtain ⟨k, hk, hkQ, rfl⟩ := (hl _).mp hx
    exact h k hk hkQ
theorem mem_isD {σ : Int → Int × Int} {ks : List R} (x : R) : x ∈ isD (able (state σ ks)) ↔ ∃ k ∈ ks, aD σ k ∧ x = k.said (σ k.a) := by
  unfold isD able aD
  simp only [List.mem_filter, mem_state, decide_eq_true_eq]
  constructor
  · rintro ⟨⟨⟨k, hk, rfl⟩, h1⟩, h2⟩
    exact ⟨k, hk, ⟨h1, h2⟩, rfl⟩
  · rintro ⟨k, hk, ⟨h1, h2⟩, rfl⟩
    exact ⟨⟨⟨k, hk, rfl⟩, h1⟩, h2⟩
theorem mem_notD {σ : Int → Int × Int} {ks : List R} (x : R) : x ∈ notD (able (state σ ks)) ↔ ∃ k ∈ ks, aN σ k ∧ x = k.said (σ k.a) := by
  unfold notD able aN
  simp only [List.mem_filter, mem_state, decide_eq_true_eq, Bool.not_eq_true', decide_eq_false_iff_not]
  constructor
  · rintro ⟨⟨⟨k, hk, rfl⟩, h1⟩, h2⟩
    exact ⟨k, hk, ⟨h1, h2⟩, rfl⟩
  · rintro ⟨k, hk, ⟨h1, h2⟩, rfl⟩
    exact ⟨⟨⟨k, hk, rfl⟩, h1⟩, h2⟩
theorem mem_isB {σ : Int → Int × Int} {ks : List R} (x : R) : x ∈ isB (notD (able (state σ ks))) ↔ ∃ k ∈ ks, aB σ k ∧ x = k.said (σ k.a) := by
  unfold isB aB
  simp only [List.mem_filter, mem_notD, decide_eq_true_eq]
  constructor
  · rintro ⟨⟨k, hk, h1, rfl⟩, h2⟩
    exact ⟨k, hk, ⟨h1.1, h1.2, h2⟩, rfl⟩
  · rintro ⟨k, hk, ⟨h1, h2, h3⟩, rfl⟩
    exact ⟨⟨k, hk, ⟨h1, h2⟩, rfl⟩, h3⟩
def FirstIs (ks : List R) (σ : Int → Int × Int) (f s : Int) : Prop := (∃ t, Top ks (aD σ) t ∧ f = t.a) ∨ ((∀ r ∈ ks, ¬ aD σ r) ∧ f = s)
def SecondIs (ks : List R) (σ : Int → Int × Int) (s : Int) : Prop :=
  (∃ t, Top ks (aB σ) t ∧ s = t.a) ∨ ((∀ r ∈ ks, ¬ aB σ r) ∧ ((∃ t, Top ks (aN σ) t ∧ s = t.a) ∨ ((∀ r ∈ ks, ¬ aN σ r) ∧ s = 0)))
theorem second_of {ks : List R} {σ : Int → Int × Int} {s : Int} (ids : Ids ks) (h : SecondIs ks σ s) : chosenB (able (state σ ks)) = s := by
  unfold chosenB
  rcases h with ⟨t, ht, rfl⟩ | ⟨hn, h⟩
  · rw [if_pos (List.length_pos_of_mem ((mem_isB _).mpr ⟨t, ht.1, ht.2.1, rfl⟩)), best_state ids ht mem_isB]
    rfl
  · have e : isB (notD (able (state σ ks))) = [] := List.eq_nil_iff_forall_not_mem.mpr fun x hx => by
      obtain ⟨k, hk, h, _⟩ := (mem_isB _).mp hx
      exact hn k hk h
    rw [if_neg (by rw [e]; exact Nat.lt_irrefl 0)]
    rcases h with ⟨t, ht, rfl⟩ | ⟨h, rfl⟩
    · rw [best_state ids ht mem_notD]
      rfl
    · rw [best_none h mem_notD]
      rfl
theorem first_of {ks : List R} {σ : Int → Int × Int} {f s : Int} (ids : Ids ks) (h : FirstIs ks σ f s) : chosenD (able (state σ ks)) s = f := by
  unfold chosenD
  rcases h with ⟨t, ht, rfl⟩ | ⟨hn, rfl⟩
  · rw [best_state ids ht mem_isD]
    rfl
  · rw [best_none hn mem_isD]
theorem one_of {ks : List R} {σ : Int → Int × Int} {f s : Int} (ids : Ids ks) (h1 : FirstIs ks σ f s) (h2 : SecondIs ks σ s) : oneRound (state σ ks) = (f, s) := by
  unfold oneRound
  rw [second_of ids h2, first_of ids h1]
theorem Ids.perm {ks ks' : List R} (hp : ks'.Perm ks) (h : Ids ks) : Ids ks' := fun q hq t ht => h q (hp.mem_iff.mp hq) t (hp.mem_iff.mp ht)
theorem Top.perm {ks ks' : List R} {Q : R → Prop} {t : R} (hp : ks'.Perm ks) (h : Top ks Q t) : Top ks' Q t := ⟨hp.mem_iff.mpr h.1, h.2.1, fun q hq => h.2.2 q (hp.mem_iff.mp hq)⟩
def OneR (ks : List R) (σ : Int → Int × Int) (P : Int × Int) : Prop := ∀ ks' : List R, ks'.Perm ks → oneRound (state σ ks') = P
theorem oneR_of {ks : List R} {σ : Int → Int × Int} {f s : Int} (ids : Ids ks) (h1 : FirstIs ks σ f s) (h2 : SecondIs ks σ s) : OneR ks σ (f, s) := by
  intro ks' hp
  refine one_of (ids.perm hp) ?_ ?_
  · rcases h1 with ⟨t, ht, e⟩ | ⟨hn, e⟩
    · exact .inl ⟨t, ht.perm hp, e⟩
    · exact .inr ⟨fun r hr => hn r (hp.mem_iff.mp hr), e⟩
  · rcases h2 with ⟨t, ht, e⟩ | ⟨hn, h⟩
    · exact .inl ⟨t, ht.perm hp, e⟩
    · refine .inr ⟨fun r hr => hn r (hp.mem_iff.mp hr), ?_⟩
      rcases h with ⟨t, ht, e⟩ | ⟨hn, e⟩
      · exact .inl ⟨t, ht.perm hp, e⟩
      · exact .inr ⟨fun r hr => hn r (hp.mem_iff.mp hr), e⟩
theorem OneR.perm {ks ks' : List R} {σ : Int → Int × Int} {P : Int × Int} (hp : ks'.Perm ks) (h : OneR ks σ P) : OneR ks' σ P := fun l hl => h l (hl.trans hp)
def turnsBy (σ : Int → Int × Int) (own : R) (P : Int × Int) : Bool := isTurned (own.said (σ own.a)) P
def Elects (ks : List R) (σ : Int → Int × Int) (own : R) (P : Int × Int) : Prop :=
  ∃ P0, OneR ks σ P0 ∧ (turnsBy σ own P0 = true → OneR ks (upd σ own.a P0) P) ∧ (turnsBy σ own P0 = false → P = P0)
theorem cut_perm {α : Type} {l : List α} {k : Nat} {x : α} (h : l[k]? = some x) : (l.take k ++ l.drop (k + 1) ++ [x]).Perm l := by
  obtain ⟨hk, e⟩ := List.getElem?_eq_some_iff.mp h
  have e1 : l = l.take k ++ x :: l.drop (k + 1) := by
    conv => lhs; rw [← List.take_append_drop k l]
    rw [List.drop_eq_getElem_cons hk, e]
  conv => rhs; rw [e1]
  rw [List.append_assoc]
  refine List.Perm.append_left _ ?_
  exact List.perm_append_comm
theorem Adr.perm {ks ks' : List R} (hp : ks'.Perm ks) (h : Adr ks) : Adr ks' := ((hp.map R.a).nodup_iff).mpr h
theorem Adr.cut {ks : List R} {k : Nat} {own : R} (ad : Adr ks) (h : ks[k]? = some own) : ∀ r ∈ ks.take k ++ ks.drop (k + 1), r.a ≠ own.a := by
  intro r hr e
  have h1 := ad.perm (cut_perm h)
  unfold Adr at h1
  rw [List.map_append, List.nodup_append] at h1
  exact h1.2.2 r.a (List.mem_map_of_mem hr) own.a (by simp) e
theorem state_cut {σ : Int → Int × Int} {ks : List R} {k : Nat} {own : R} : (state σ ks).take k ++ (state σ ks).drop (k + 1) ++ [own.said (σ own.a)] = state σ (ks.take k ++ ks.drop (k + 1) ++ [own]) := by
  unfold state
  simp only [List.map_append, List.map_take, List.map_drop, List.map_cons, List.map_nil]
theorem state_congr {σ τ : Int → Int × Int} {ks : List R} (h : ∀ r ∈ ks, σ r.a = τ r.a) : state σ ks = state τ ks := by
  unfold state
  exact List.map_congr_left fun r hr => by rw [h r hr]
theorem state_cutU {σ : Int → Int × Int} {ks : List R} {k : Nat} {own : R} {P : Int × Int} (ad : Adr ks) (h : ks[k]? = some own) : (state σ ks).take k ++ (state σ ks).drop (k + 1) ++ [(own.said (σ own.a)).said P] = state (upd σ own.a P) (ks.take k ++ ks.drop (k + 1) ++ [own]) := by
  have e1 : state (upd σ own.a P) (ks.take k ++ ks.drop (k + 1)) = state σ (ks.take k ++ ks.drop (k + 1)) := state_congr fun r hr => by
    unfold upd
    rw [if_neg (ad.cut h r hr)]
  have e2 : state (upd σ own.a P) (ks.take k ++ ks.drop (k + 1) ++ [own]) = state (upd σ own.a P) (ks.take k ++ ks.drop (k + 1)) ++ [own.said P] := by
    unfold state
    rw [List.map_append, List.map_cons, List.map_nil]
    unfold upd
    rw [if_pos rfl]
  rw [e2, e1]
  unfold state
  simp only [List.map_append, List.map_take, List.map_drop]
  rfl
theorem elect_of {ks : List R} {σ : Int → Int × Int} {k : Nat} {own : R} {P : Int × Int} (ad : Adr ks) (h : ks[k]? = some own) (hE : Elects ks σ own P) :
    electR ((state σ ks).take k ++ (state σ ks).drop (k + 1)) (own.said (σ own.a)) = P := by
  obtain ⟨P0, h0, h1, h2⟩ := hE
  have e : oneRound ((state σ ks).take k ++ (state σ ks).drop (k + 1) ++ [own.said (σ own.a)]) = P0 := by
    rw [state_cut]
    exact h0 _ (cut_perm h)
  unfold electR
  rw [e]
  cases ht : isTurned (own.said (σ own.a)) P0 with
  | true =>
    rw [if_pos rfl, state_cutU ad h]
    exact h1 ht _ (cut_perm h)
  | false =>
    rw [if_neg (by decide)]
    exact (h2 ht).symm
theorem Adr.idx {ks : List R} (ad : Adr ks) {k j : Nat} {r q : R} (hr : ks[k]? = some r) (hq : ks[j]? = some q) (e : r.a = q.a) : k = j := by
  obtain ⟨hk, e1⟩ := List.getElem?_eq_some_iff.mp hr
  obtain ⟨hj, e2⟩ := List.getElem?_eq_some_iff.mp hq
  have h := List.pairwise_iff_getElem.mp ad
  have hk' : k < (ks.map R.a).length := by rw [List.length_map]; exact hk
  have hj' : j < (ks.map R.a).length := by rw [List.length_map]; exact hj
  rcases Nat.lt_trichotomy k j with hl | hl | hl
  · have := h k j hk' hj' hl
    rw [List.getElem_map, List.getElem_map, e1, e2] at this
    exact absurd e this
  · exact hl
  · have := h j k hj' hk' hl
    rw [List.getElem_map, List.getElem_map, e1, e2] at this
    exact absurd e.symm this
theorem toldStep_of {ks : List R} {σ : Int → Int × Int} {k : Nat} {own : R} {P : Int × Int} (ad : Adr ks) (h : ks[k]? = some own) (hE : Elects ks σ own P) : toldStep (state σ ks) k = state (upd σ own.a P) ks := by
  have hs : (state σ ks)[k]? = some (own.said (σ own.a)) := by
    unfold state
    rw [List.getElem?_map, h]
    rfl
  unfold toldStep
  rw [hs]
  dsimp only
  rw [elect_of ad h hE]
  have hk : k < (state σ ks).length := by
    rw [state_length]
    exact (List.getElem?_eq_some_iff.mp h).1
  refine List.ext_getElem? fun j => ?_
  rw [List.getElem?_set]
  by_cases hjk : k = j
  · subst hjk
    rw [if_pos rfl, if_pos hk]
    unfold state
    rw [List.getElem?_map, h]
    unfold upd
    show _ = some (own.said (if own.a = own.a then P else σ own.a))
    rw [if_pos rfl]
    rfl
  · rw [if_neg hjk]
    unfold state
    rw [List.getElem?_map, List.getElem?_map]
    cases hq : ks[j]? with
    | none => rfl
    | some q =>
      have hne : q.a ≠ own.a := fun e => hjk (ad.idx h hq e.symm)
      show some (q.said (σ q.a)) = some (q.said (upd σ own.a P q.a))
      unfold upd
      rw [if_neg hne]
/-- whichever of the rows say P already: the choice is P -/
def Fix (ks : List R) (P : Int × Int) (σ : Int → Int × Int) : Prop := ∀ σ' : Int → Int × Int, (∀ a, σ' a = σ a ∨ σ' a = P) → OneR ks σ' P
theorem Fix.perm {ks ks' : List R} {σ : Int → Int × Int} {P : Int × Int} (hp : ks'.Perm ks) (h : Fix ks P σ) : Fix ks' P σ := fun σ' hs => (h σ' hs).perm hp
theorem Fix.upd {ks : List R} {σ : Int → Int × Int} {P : Int × Int} (h : Fix ks P σ) (a : Int) : Fix ks P (upd σ a P) := fun σ' hs => h σ' fun x => by
  rcases hs x with e | e
  · unfold Mine.upd at e
    by_cases hx : x = a
    · rw [if_pos hx] at e; exact .inr e
    · rw [if_neg hx] at e; exact .inl e
  · exact .inr e
theorem Fix.elects {ks : List R} {σ : Int → Int × Int} {P : Int × Int} (h : Fix ks P σ) (own : R) : Elects ks σ own P :=
  ⟨P, h σ (fun _ => .inl rfl), fun _ => h.upd own.a _ (fun _ => .inl rfl), fun _ => rfl⟩
theorem toldN_fix {ks : List R} {σ : Int → Int × Int} {P : Int × Int} (ad : Adr ks) (h : Fix ks P σ) : ∀ k, k ≤ ks.length → ∃ τ, toldN (state σ ks) k = state τ ks ∧ Fix ks P τ ∧ ∀ r ∈ ks.take k, τ r.a = P
  | 0, _ => ⟨σ, rfl, h, fun _ hr => by rw [List.take_zero] at hr; cases hr⟩
  | k + 1, hk => by
    obtain ⟨τ, e, hf, hp⟩ := toldN_fix ad h k (by omega)
    have hx : ks[k]? = some ks[k] := List.getElem?_eq_getElem _
    refine ⟨Mine.upd τ ks[k].a P, ?_, hf.upd _, fun r hr => ?_⟩
    · rw [toldN_succ, e, toldStep_of ad hx (hf.elects _)]
    · rw [take_snoc hx] at hr
      unfold Mine.upd
      by_cases hr2 : r.a = ks[k].a
      · rw [if_pos hr2]
      · rw [if_neg hr2]
        rcases List.mem_append.mp hr with h1 | h1
        · exact hp r h1
        · rw [List.mem_singleton.mp h1] at hr2
          exact absurd rfl hr2
theorem told_fix {ks : List R} {σ : Int → Int × Int} {P : Int × Int} (ad : Adr ks) (h : Fix ks P σ) : told (state σ ks) = state (fun _ => P) ks := by
  obtain ⟨τ, e, _, hp⟩ := toldN_fix ad h ks.length (Nat.le_refl _)
  unfold told
  rw [state_length, e]
  rw [List.take_length] at hp
  exact state_congr hp
theorem Fix.const {ks : List R} {σ : Int → Int × Int} {P : Int × Int} (h : Fix ks P σ) : Fix ks P (fun _ => P) := fun σ' hs => h σ' fun a => by
  rcases hs a with e | e <;> exact .inr e
/-- what stands until the pivot v has spoken: the others say P0; v says P, and from there on the choice is P -/
structure Pre (ks : List R) (v : R) (P0 P : Int × Int) (σ : Int → Int × Int) : Prop where
  mem : v ∈ ks
  one : ∀ σ' : Int → Int × Int, (∀ a, σ' a = σ a ∨ (a ≠ v.a ∧ σ' a = P0)) → OneR ks σ' P0
  turned : turnsBy σ v P0 = true
  then' : ∀ σ' : Int → Int × Int, (∀ a, σ' a = σ a ∨ (a ≠ v.a ∧ σ' a = P0)) → OneR ks (upd σ' v.a P0) P
  fix : ∀ σ' : Int → Int × Int, (∀ a, σ' a = σ a ∨ (a ≠ v.a ∧ σ' a = P0)) → Fix ks P (upd σ' v.a P)
theorem Pre.perm {ks ks' : List R} {v : R} {σ : Int → Int × Int} {P0 P : Int × Int} (hp : ks'.Perm ks) (h : Pre ks v P0 P σ) : Pre ks' v P0 P σ :=
  ⟨hp.mem_iff.mpr h.mem, fun σ' hs => (h.one σ' hs).perm hp, h.turned, fun σ' hs => (h.then' σ' hs).perm hp, fun σ' hs => (h.fix σ' hs).perm hp⟩
theorem toldN_pre {ks : List R} {v : R} {σ : Int → Int × Int} {P0 P : Int × Int} (ad : Adr ks) (h : Pre ks v P0 P σ) : ∀ k, k ≤ ks.length → ∃ τ, toldN (state σ ks) k = state τ ks ∧
    ((v ∉ ks.take k ∧ ∀ a, τ a = σ a ∨ (a ≠ v.a ∧ τ a = P0)) ∨ (v ∈ ks.take k ∧ Fix ks P τ))
  | 0, _ => ⟨σ, rfl, .inl ⟨by rw [List.take_zero]; exact List.not_mem_nil, fun _ => .inl rfl⟩⟩
  | k + 1, hk => by
    obtain ⟨τ, e, hf⟩ := toldN_pre ad h k (by omega)
    have hx : ks[k]? = some ks[k] := List.getElem?_eq_getElem _
    rcases hf with ⟨hv, hτ⟩ | ⟨hv, hf⟩
    · by_cases hkv : ks[k] = v
      · refine ⟨Mine.upd τ v.a P, ?_, .inr ⟨?_, h.fix τ hτ⟩⟩
        · rw [toldN_succ, e, toldStep_of (P := P) ad hx ?_, hkv]
          rw [hkv]
          refine ⟨P0, h.one τ hτ, fun _ => h.then' τ hτ, fun ht => ?_⟩
          exfalso
          have h1 := h.turned
          unfold turnsBy at ht h1
          rcases hτ v.a with e | ⟨e, _⟩
          · rw [e, h1] at ht; cases ht
          · exact e rfl
        · rw [take_snoc hx, hkv]
          exact List.mem_append.mpr (.inr (.head _))
      · have hne : ks[k].a ≠ v.a := fun q => hkv (by
          obtain ⟨j, hj, e⟩ := List.getElem_of_mem h.mem
          have := ad.idx hx (List.getElem?_eq_getElem hj) (by rw [e]; exact q)
          subst this
          exact e)
        have hup : ∀ a, Mine.upd τ ks[k].a P0 a = σ a ∨ (a ≠ v.a ∧ Mine.upd τ ks[k].a P0 a = P0) := by
          intro a
          unfold Mine.upd
          by_cases ha : a = ks[k].a
          · rw [if_pos ha, ha]; exact .inr ⟨hne, rfl⟩
          · rw [if_neg ha]; exact hτ a
        refine ⟨Mine.upd τ ks[k].a P0, ?_, .inl ⟨?_, hup⟩⟩
        · rw [toldN_succ, e, toldStep_of ad hx ⟨P0, h.one τ hτ, fun _ => h.one _ hup, fun _ => rfl⟩]
        · rw [take_snoc hx, List.mem_append]
          rintro (h1 | h1)
          · exact hv h1
          · exact hkv (List.mem_singleton.mp h1).symm
    · refine ⟨Mine.upd τ ks[k].a P, ?_, .inr ⟨?_, hf.upd _⟩⟩
      · rw [toldN_succ, e, toldStep_of ad hx (hf.elects _)]
      · rw [take_snoc hx]
        exact List.mem_append.mpr (.inl hv)
theorem told_pre {ks : List R} {v : R} {σ : Int → Int × Int} {P0 P : Int × Int} (ad : Adr ks) (h : Pre ks v P0 P σ) : ∃ τ, told (state σ ks) = state τ ks ∧ Fix ks P τ := by
  obtain ⟨τ, e, hf⟩ := toldN_pre ad h ks.length (Nat.le_refl _)
  unfold told
  rw [state_length, e]
  rw [List.take_length] at hf
  rcases hf with ⟨hv, _⟩ | ⟨_, hf⟩
  · exact absurd h.mem hv
  · exact ⟨τ, rfl, hf⟩
theorem settled_of {T : List R} (hT : told T = T) : ∀ (n : Nat) (rs : List R) (k : Nat), (rs = T ∨ (1 ≤ n ∧ told rs = T) ∨ (2 ≤ n ∧ told (told rs) = T)) → ∃ k', settledAt rs k (n + 1) = some (T, k')
  | n, rs, k, h => by
    by_cases hr : told rs = rs
    · refine ⟨k, ?_⟩
      rw [settledAt_yes hr]
      rcases h with h | ⟨_, h⟩ | ⟨_, h⟩
      · rw [h]
      · rw [hr] at h; rw [h]
      · rw [hr, hr] at h; rw [h]
    · rw [settledAt_no hr]
      rcases h with h | ⟨hn, h⟩ | ⟨hn, h⟩
      · exact absurd (h ▸ hT) hr
      · obtain ⟨m, rfl⟩ : ∃ m, n = m + 1 := ⟨n - 1, by omega⟩
        exact settled_of hT m _ _ (.inl h)
      · obtain ⟨m, rfl⟩ : ∃ m, n = m + 1 := ⟨n - 1, by omega⟩
        exact settled_of hT m _ _ (.inr (.inl ⟨by omega, h⟩))
theorem settle_fix {ks : List R} {σ : Int → Int × Int} {P : Int × Int} (ad : Adr ks) (h : Fix ks P σ) : ∃ k, settledAt (state σ ks) 0 4 = some (state (fun _ => P) ks, k) :=
  settled_of (told_fix ad h.const) 3 _ _ (.inr (.inl ⟨by decide, told_fix ad h⟩))
theorem settle_pre {ks : List R} {v : R} {σ : Int → Int × Int} {P0 P : Int × Int} (ad : Adr ks) (h : Pre ks v P0 P σ) : ∃ k, settledAt (state σ ks) 0 4 = some (state (fun _ => P) ks, k) := by
  obtain ⟨τ, e, hf⟩ := told_pre ad h
  refine settled_of (told_fix ad hf.const) 3 _ _ (.inr (.inr ⟨by decide, ?_⟩))
  rw [e, told_fix ad hf]
section
variable {ks : List R} {σ : Int → Int × Int} {f y v : R} {s : Int}
theorem adr_eq (ad : Adr ks) {r q : R} (hr : r ∈ ks) (hq : q ∈ ks) (e : r.a = q.a) : r = q := by
  obtain ⟨k, hk, rfl⟩ := List.getElem_of_mem hr
  obtain ⟨j, hj, rfl⟩ := List.getElem_of_mem hq
  have := ad.idx (List.getElem?_eq_getElem hk) (List.getElem?_eq_getElem hj) e
  subst this
  rfl
/-- f says designated and is the best that does -/
structure Led1 (ks : List R) (σ : Int → Int × Int) (f : R) : Prop where
  mem : f ∈ ks
  pos : 0 < f.p
  says : (σ f.a).1 = f.a
  top : ∀ q ∈ ks, aD σ q → beats f q
theorem Led1.first (ad : Adr ks) (h : Led1 ks σ f) (s : Int) {σ' : Int → Int × Int} (hs : ∀ a, σ' a = σ a ∨ σ' a = (f.a, s)) : Top ks (aD σ') f := by
  refine ⟨h.mem, ⟨h.pos, ?_⟩, fun q hq hD => ?_⟩
  · rcases hs f.a with e | e
    · rw [e]; exact h.says
    · rw [e]
  · rcases hs q.a with e | e
    · refine h.top q hq ⟨hD.1, ?_⟩
      rw [← e]; exact hD.2
    · have h2 := hD.2
      rw [e] at h2
      rw [adr_eq ad hq h.mem h2.symm]
      exact beats_refl _
/-- a backup stands -/
theorem fix_a (ids : Ids ks) (ad : Adr ks) (h : Led1 ks σ f) (hy : y ∈ ks) (hyp : 0 < y.p) (hyf : y ≠ f) (hy1 : (σ y.a).1 ≠ y.a) (hy2 : (σ y.a).2 = y.a) (hB : ∀ r ∈ ks, aB σ r → r = y) : Fix ks (f.a, y.a) σ := by
  intro σ' hs
  refine oneR_of ids (.inl ⟨f, h.first ad _ hs, rfl⟩) (.inl ⟨y, ⟨hy, ⟨hyp, ?_, ?_⟩, fun q hq hqB => ?_⟩, rfl⟩)
  · rcases hs y.a with e | e
    · rw [e]; exact hy1
    · rw [e]
      exact fun q => hyf (adr_eq ad hy h.mem q.symm)
  · rcases hs y.a with e | e
    · rw [e]; exact hy2
    · rw [e]
  · have e : q = y := by
      rcases hs q.a with e | e
      · refine hB q hq ⟨hqB.1, ?_, ?_⟩
        · rw [← e]; exact hqB.2.1
        · rw [← e]; exact hqB.2.2
      · have h2 := hqB.2.2
        rw [e] at h2
        exact adr_eq ad hq hy h2.symm
    rw [e]
    exact beats_refl _
/-- no backup: the best of the others -/
theorem fix_b (ids : Ids ks) (ad : Adr ks) (h : Led1 ks σ f) (hy : Top ks (fun r => 0 < r.p ∧ r ≠ f) y) (hD : ∀ r ∈ ks, aD σ r → r = f) (hB : ∀ r ∈ ks, aB σ r → r = y) : Fix ks (f.a, y.a) σ := by
  intro σ' hs
  have hD' : ∀ r ∈ ks, aD σ' r → r = f := fun r hr hrD => by
    rcases hs r.a with e | e
    · refine hD r hr ⟨hrD.1, ?_⟩
      rw [← e]; exact hrD.2
    · have h2 := hrD.2
      rw [e] at h2
      exact adr_eq ad hr h.mem h2.symm
  have hB' : ∀ r ∈ ks, aB σ' r → r = y := fun r hr hrB => by
    rcases hs r.a with e | e
    · refine hB r hr ⟨hrB.1, ?_, ?_⟩
      · rw [← e]; exact hrB.2.1
      · rw [← e]; exact hrB.2.2
    · have h2 := hrB.2.2
      rw [e] at h2
      exact adr_eq ad hr hy.1 h2.symm
  have hfD := (h.first ad _ hs).2.1
  refine oneR_of ids (.inl ⟨f, h.first ad _ hs, rfl⟩) ?_
  by_cases hb : aB σ' y
  · refine .inl ⟨y, ⟨hy.1, hb, fun q hq hqB => ?_⟩, rfl⟩
    rw [hB' q hq hqB]
    exact beats_refl _
  · refine .inr ⟨fun r hr hrB => hb (hB' r hr hrB ▸ hrB), .inl ⟨y, ⟨hy.1, ⟨hy.2.1.1, fun e => hy.2.1.2 (hD' y hy.1 ⟨hy.2.1.1, e⟩)⟩, fun q hq hqN => hy.2.2 q hq ⟨hqN.1, fun e => ?_⟩⟩, rfl⟩⟩
    exact hqN.2 (e ▸ hfD.2)
/-- none but f -/
theorem fix_c (ids : Ids ks) (ad : Adr ks) (h : Led1 ks σ f) (hA : ∀ r ∈ ks, 0 < r.p → r = f) : Fix ks (f.a, 0) σ := by
  intro σ' hs
  have hfD := (h.first ad _ hs).2.1
  refine oneR_of ids (.inl ⟨f, h.first ad _ hs, rfl⟩) (.inr ⟨fun r hr hrB => ?_, .inr ⟨fun r hr hrN => ?_, rfl⟩⟩)
  · have e := hA r hr hrB.1
    exact hrB.2.1 (e ▸ hfD.2)
  · have e := hA r hr hrN.1
    exact hrN.2 (e ▸ hfD.2)
/-- nobody may be chosen -/
theorem fix_0 (ids : Ids ks) (hA : ∀ r ∈ ks, ¬ 0 < r.p) : Fix ks (0, 0) σ := fun _ _ =>
  oneR_of ids (.inr ⟨fun r hr h => hA r hr h.1, rfl⟩) (.inr ⟨fun r hr h => hA r hr h.1, .inr ⟨fun r hr h => hA r hr h.1, rfl⟩⟩)
theorem turns_first {P0 : Int × Int} (h : P0.1 = v.a) (h2 : (σ v.a).1 ≠ v.a) : turnsBy σ v P0 = true := by
  refine isTurned_yes ?_
  show (decide (P0.1 = v.a) != decide ((σ v.a).1 = v.a)) = true
  rw [decide_eq_true h, decide_eq_false h2]
  rfl
theorem turns_second {P0 : Int × Int} (h : P0.1 ≠ v.a) (h2 : (σ v.a).1 = v.a) : turnsBy σ v P0 = true := by
  refine isTurned_yes ?_
  show (decide (P0.1 = v.a) != decide ((σ v.a).1 = v.a)) = true
  rw [decide_eq_false h, decide_eq_true h2]
  rfl
theorem upd_self {a : Int} {P : Int × Int} : upd σ a P a = P := if_pos rfl
theorem upd_other {a b : Int} {P : Int × Int} (h : b ≠ a) : upd σ a P b = σ b := if_neg h
/-- one alone may be chosen, and says nothing yet -/
theorem pre_one (ids : Ids ks) (ad : Adr ks) (hv : v ∈ ks) (hvp : 0 < v.p) (h0 : v.a ≠ 0) (hs : σ v.a = (0, 0)) (hA : ∀ r ∈ ks, 0 < r.p → r = v) : Pre ks v (v.a, v.a) (v.a, 0) σ := by
  have hσ : ∀ σ' : Int → Int × Int, (∀ a, σ' a = σ a ∨ (a ≠ v.a ∧ σ' a = (v.a, v.a))) → σ' v.a = (0, 0) := fun σ' h => by
    rcases h v.a with e | e
    · rw [e, hs]
    · exact absurd rfl e.1
  refine ⟨hv, fun σ' h => ?_, ?_, fun σ' h => ?_, fun σ' h => ?_⟩
  · have e := hσ σ' h
    refine oneR_of ids (.inr ⟨fun r hr hD => ?_, rfl⟩) (.inr ⟨fun r hr hB => ?_, .inl ⟨v, ⟨hv, ⟨hvp, ?_⟩, fun q hq hN => ?_⟩, rfl⟩⟩)
    · have q := hA r hr hD.1
      subst q
      have := hD.2
      rw [e] at this
      exact h0 this.symm
    · have q := hA r hr hB.1
      subst q
      have := hB.2.2
      rw [e] at this
      exact h0 this.symm
    · rw [e]
      exact fun q => h0 q.symm
    · rw [hA q hq hN.1]
      exact beats_refl _
  · exact turns_first rfl (by rw [hs]; exact fun q => h0 q.symm)
  · refine fix_c (f := v) ids ad ⟨hv, hvp, by rw [upd_self], fun q hq hD => ?_⟩ hA _ fun _ => .inl rfl
    rw [hA q hq hD.1]
    exact beats_refl _
  · refine fix_c (f := v) ids ad ⟨hv, hvp, by rw [upd_self], fun q hq hD => ?_⟩ hA
    rw [hA q hq hD.1]
    exact beats_refl _
/-- two who say designated meet, and nobody else may be chosen -/
theorem pre_two (ids : Ids ks) (ad : Adr ks) (hf : f ∈ ks) (hfp : 0 < f.p) (hv : v ∈ ks) (hvp : 0 < v.p) (hfv : f ≠ v) (hb : beats f v) (v0 : v.a ≠ 0) (hfs : (σ f.a).1 = f.a) (hvs : (σ v.a).1 = v.a) (hA : ∀ r ∈ ks, 0 < r.p → r = f ∨ r = v) : Pre ks v (f.a, 0) (f.a, v.a) σ := by
  have hav : f.a ≠ v.a := fun e => hfv (adr_eq ad hf hv e)
  have hσv : ∀ σ' : Int → Int × Int, (∀ a, σ' a = σ a ∨ (a ≠ v.a ∧ σ' a = (f.a, 0))) → (σ' v.a).1 = v.a := fun σ' h => by
    rcases h v.a with e | e
    · rw [e, hvs]
    · exact absurd rfl e.1
  have hσf : ∀ σ' : Int → Int × Int, (∀ a, σ' a = σ a ∨ (a ≠ v.a ∧ σ' a = (f.a, 0))) → (σ' f.a).1 = f.a := fun σ' h => by
    rcases h f.a with e | e
    · rw [e, hfs]
    · rw [e.2]
  have hT : ∀ q ∈ ks, 0 < q.p → beats f q := fun q hq hp => by
    rcases hA q hq hp with e | e
    · rw [e]; exact beats_refl _
    · rw [e]; exact hb
  have htop : Top ks (fun r => 0 < r.p ∧ r ≠ f) v := ⟨hv, ⟨hvp, Ne.symm hfv⟩, fun q hq h => by
    rw [(hA q hq h.1).resolve_left h.2]
    exact beats_refl _⟩
  have hfix : ∀ (σ' : Int → Int × Int) (P : Int × Int), (∀ a, σ' a = σ a ∨ (a ≠ v.a ∧ σ' a = (f.a, 0))) → P.1 = f.a → Fix ks (f.a, v.a) (upd σ' v.a P) := fun σ' P h hP => by
    refine fix_b ids ad ⟨hf, hfp, ?_, fun q hq hD => hT q hq hD.1⟩ htop (fun r hr hD => ?_) fun r hr hB => ?_
    · rw [upd_other hav]; exact hσf σ' h
    · refine (hA r hr hD.1).resolve_right fun e => ?_
      have := hD.2
      rw [e, upd_self, hP] at this
      exact hav this
    · refine (hA r hr hB.1).resolve_left fun e => ?_
      have := hB.2.1
      rw [e, upd_other hav] at this
      exact this (hσf σ' h)
  refine ⟨hv, fun σ' h => ?_, turns_second hav hvs, fun σ' h => hfix σ' _ h rfl _ fun _ => .inl rfl, fun σ' h => hfix σ' _ h rfl⟩
  refine oneR_of ids (.inl ⟨f, ⟨hf, ⟨hfp, hσf σ' h⟩, fun q hq hD => hT q hq hD.1⟩, rfl⟩) (.inr ⟨fun r hr hB => ?_, .inr ⟨fun r hr hN => ?_, rfl⟩⟩)
  · rcases hA r hr hB.1 with e | e
    · exact hB.2.1 (e ▸ hσf σ' h)
    · exact hB.2.1 (e ▸ hσv σ' h)
  · rcases hA r hr hN.1 with e | e
    · exact hN.2 (e ▸ hσf σ' h)
    · exact hN.2 (e ▸ hσv σ' h)
/-- the designated one is gone, the backup v stands: it takes its place; s: the best of the others, or 0 -/
theorem pre_up (ids : Ids ks) (ad : Adr ks) (hv : v ∈ ks) (hvp : 0 < v.p) (hv1 : (σ v.a).1 ≠ v.a) (hv2 : (σ v.a).2 = v.a) (hD : ∀ r ∈ ks, ¬ aD σ r) (hB : ∀ r ∈ ks, 0 < r.p → (σ r.a).2 = r.a → r = v)
    (hs : (∃ y, Top ks (fun r => 0 < r.p ∧ r ≠ v) y ∧ s = y.a) ∨ ((∀ r ∈ ks, 0 < r.p → r = v) ∧ s = 0)) : Pre ks v (v.a, v.a) (v.a, s) σ := by
  have hσv : ∀ σ' : Int → Int × Int, (∀ a, σ' a = σ a ∨ (a ≠ v.a ∧ σ' a = (v.a, v.a))) → σ' v.a = σ v.a := fun σ' h => by
    rcases h v.a with e | e
    · exact e
    · exact absurd rfl e.1
  have hD' : ∀ σ' : Int → Int × Int, (∀ a, σ' a = σ a ∨ (a ≠ v.a ∧ σ' a = (v.a, v.a))) → ∀ r ∈ ks, ¬ aD σ' r := fun σ' h r hr hrD => by
    rcases h r.a with e | e
    · exact hD r hr ⟨hrD.1, by rw [← e]; exact hrD.2⟩
    · have := hrD.2
      rw [e.2] at this
      exact e.1 this.symm
  have hB' : ∀ σ' : Int → Int × Int, (∀ a, σ' a = σ a ∨ (a ≠ v.a ∧ σ' a = (v.a, v.a))) → ∀ r ∈ ks, 0 < r.p → (σ' r.a).2 = r.a → r = v := fun σ' h r hr hp hrB => by
    rcases h r.a with e | e
    · exact hB r hr hp (by rw [← e]; exact hrB)
    · rw [e.2] at hrB
      exact absurd hrB.symm e.1
  have hfix : ∀ (σ' : Int → Int × Int) (P : Int × Int), (∀ a, σ' a = σ a ∨ (a ≠ v.a ∧ σ' a = (v.a, v.a))) → P.1 = v.a → Fix ks (v.a, s) (upd σ' v.a P) := fun σ' P h hP => by
    have hl : Led1 ks (upd σ' v.a P) v := by
      refine ⟨hv, hvp, by rw [upd_self]; exact hP, fun q hq hqD => ?_⟩
      by_cases e : q.a = v.a
      · rw [adr_eq ad hq hv e]; exact beats_refl _
      · have h2 := hqD.2
        rw [upd_other e] at h2
        exact absurd ⟨hqD.1, h2⟩ (hD' σ' h q hq)
    rcases hs with ⟨y, hy, rfl⟩ | ⟨hA, rfl⟩
    · refine fix_b ids ad hl hy (fun r hr hrD => ?_) fun r hr hrB => ?_
      · by_cases e : r.a = v.a
        · exact adr_eq ad hr hv e
        · have h2 := hrD.2
          rw [upd_other e] at h2
          exact absurd ⟨hrD.1, h2⟩ (hD' σ' h r hr)
      · exfalso
        by_cases e : r.a = v.a
        · have h2 := hrB.2.1
          rw [e, upd_self] at h2
          exact h2 hP
        · have h2 := hrB.2.2
          rw [upd_other e] at h2
          exact e (congrArg R.a (hB' σ' h r hr hrB.1 h2))
    · exact fix_c ids ad hl hA
  refine ⟨hv, fun σ' h => ?_, turns_first rfl hv1, fun σ' h => hfix σ' _ h rfl _ fun _ => .inl rfl, fun σ' h => hfix σ' _ h rfl⟩
  refine oneR_of ids (.inr ⟨hD' σ' h, rfl⟩) (.inl ⟨v, ⟨hv, ⟨hvp, ?_, ?_⟩, fun q hq hqB => ?_⟩, rfl⟩)
  · rw [hσv σ' h]; exact hv1
  · rw [hσv σ' h]; exact hv2
  · rw [hB' σ' h q hq hqB.1 hqB.2.2]
    exact beats_refl _
theorem ableA_mem {a : Int} : a ∈ ableA ks ↔ ∃ r ∈ ks, 0 < r.p ∧ r.a = a := by
  unfold ableA able
  simp only [List.mem_map, List.mem_filter, decide_eq_true_eq]
  constructor
  · rintro ⟨r, ⟨h1, h2⟩, h3⟩
    exact ⟨r, h1, h2, h3⟩
  · rintro ⟨r, h1, h2, h3⟩
    exact ⟨r, ⟨h1, h2⟩, h3⟩
theorem others_mem {a g : Int} : a ∈ (ableA ks).filter (fun x => !decide (x = g)) ↔ (∃ r ∈ ks, 0 < r.p ∧ r.a = a) ∧ a ≠ g := by
  rw [List.mem_filter, ableA_mem, Bool.not_eq_true', decide_eq_false_iff_not]
variable {x : Int × Int} {C : List Int}
theorem dueF_said (ids : Ids ks) (h0 : f.a ≠ 0) (h : Top ks (fun r => 0 < r.p ∧ (r.a = x.1 ∨ r.a ∈ C)) f) : dueF ks x C = f.a := by
  have e : lawBest ks (x.1 :: C) = f.a := lawBest_top ids ⟨h.1, ⟨h.2.1.1, List.mem_cons.mpr h.2.1.2⟩, fun q hq hQ => h.2.2 q hq ⟨hQ.1, List.mem_cons.mp hQ.2⟩⟩
  unfold dueF
  rw [if_neg (by rw [e]; exact h0), e]
theorem dueF_none (h : ∀ r ∈ ks, 0 < r.p → ¬ (r.a = x.1 ∨ r.a ∈ C)) : dueF ks x C = if x.2 ∈ ableA ks then x.2 else lawBest ks (ableA ks) := by
  have e : lawBest ks (x.1 :: C) = 0 := lawBest_none fun r hr hp hm => h r hr hp (List.mem_cons.mp hm)
  unfold dueF
  rw [if_pos e]
theorem dueS_said (hy : y ∈ ks) (hyp : 0 < y.p) (hx : x.2 = y.a) {g : Int} (hg : y.a ≠ g) : dueS ks x g = y.a := by
  unfold dueS
  rw [if_pos (by rw [hx]; exact others_mem.mpr ⟨⟨y, hy, hyp, rfl⟩, hg⟩), hx]
theorem dueS_best (ids : Ids ks) (ad : Adr ks) (hf : f ∈ ks) (hx : ∀ r ∈ ks, 0 < r.p → r.a = x.2 → r = f) (h : Top ks (fun r => 0 < r.p ∧ r ≠ f) y) : dueS ks x f.a = y.a := by
  unfold dueS
  rw [if_neg (fun hm => by
    obtain ⟨⟨r, hr, hp, e⟩, hne⟩ := others_mem.mp hm
    exact hne (by rw [← e, hx r hr hp e]))]
  refine lawBest_top ids ⟨h.1, ⟨h.2.1.1, others_mem.mpr ⟨⟨y, h.1, h.2.1.1, rfl⟩, fun e => h.2.1.2 (adr_eq ad h.1 hf e)⟩⟩, fun q hq hQ => h.2.2 q hq ⟨hQ.1, fun e => ?_⟩⟩
  exact (others_mem.mp hQ.2).2 (congrArg R.a e)
theorem dueS_none (hA : ∀ r ∈ ks, 0 < r.p → r.a = s) : dueS ks x s = 0 := by
  unfold dueS
  rw [if_neg (fun hm => by
    obtain ⟨⟨r, hr, hp, e⟩, hne⟩ := others_mem.mp hm
    exact hne (by rw [← e, hA r hr hp]))]
  exact lawBest_none fun r hr hp hm => (others_mem.mp hm).2 (hA r hr hp)
end
/-- what a pair is, of rows that have come to rest -/
def Duo (L : List R) (P : Int × Int) : Prop := ((∀ r ∈ L, ¬ 0 < r.p) ∧ P = (0, 0)) ∨ ∃ f ∈ L, 0 < f.p ∧ P.1 = f.a ∧ ((∃ y ∈ L, 0 < y.p ∧ y.a ≠ f.a ∧ P.2 = y.a) ∨ ((∀ r ∈ L, 0 < r.p → r.a = f.a) ∧ P.2 = 0))
/-- what stands behind an event: pr is what the elder rows say, nw the address of who is new -/
structure Base (L : List R) (σ : Int → Int × Int) (pr : Int × Int) (nw c : Int) : Prop where
  ids : Ids L
  adr : Adr L
  pos : ∀ r ∈ L, 0 < r.a
  sig : σ = fun a => if a = nw then (c, 0) else pr
  n0 : 0 < nw
  n1 : pr.1 ≠ nw
  n2 : pr.2 ≠ nw
def Goal (L : List R) (σ : Int → Int × Int) (pr : Int × Int) (C : List Int) : Prop := ∃ P, due L pr C = P ∧ (Fix L P σ ∨ ∃ v P0, Pre L v P0 P σ) ∧ Duo L P
section
variable {L : List R} {σ : Int → Int × Int} {pr : Int × Int} {nw c : Int} {x y n : R} {C : List Int}
theorem Base.old (B : Base L σ pr nw c) {a : Int} (h : a ≠ nw) : σ a = pr := by rw [B.sig]; exact if_neg h
theorem Base.new (B : Base L σ pr nw c) : σ nw = (c, 0) := by rw [B.sig]; exact if_pos rfl
theorem Base.sayD (B : Base L σ pr nw c) {r : R} (h : (σ r.a).1 = r.a) : r.a = pr.1 ∨ (r.a = nw ∧ c = nw) := by
  by_cases e : r.a = nw
  · rw [e, B.new] at h
    exact .inr ⟨e, h⟩
  · rw [B.old e] at h
    exact .inl h.symm
theorem Base.sayD0 (B : Base L σ pr nw 0) {r : R} (h : (σ r.a).1 = r.a) : r.a = pr.1 := by
  rcases B.sayD h with e | ⟨_, e⟩
  · exact e
  · have := B.n0
    omega
theorem Base.sayB (B : Base L σ pr nw c) {r : R} (hr : r ∈ L) (h : (σ r.a).2 = r.a) : r.a = pr.2 := by
  by_cases e : r.a = nw
  · rw [e, B.new] at h
    have := B.pos r hr
    have h : (0 : Int) = nw := h
    omega
  · rw [B.old e] at h
    exact h.symm
theorem goal_0 (B : Base L σ pr nw c) (h : ∀ r ∈ L, ¬ 0 < r.p) : Goal L σ pr C := by
  refine ⟨(0, 0), ?_, .inl (fix_0 B.ids h), .inl ⟨h, rfl⟩⟩
  have e : dueF L pr C = 0 := by
    rw [dueF_none fun r hr hp => absurd hp (h r hr), if_neg (fun hm => by
      obtain ⟨r, hr, hp, _⟩ := ableA_mem.mp hm
      exact h r hr hp)]
    exact lawBest_none fun r hr hp => absurd hp (h r hr)
  unfold due
  rw [e, dueS_none fun r hr hp => absurd hp (h r hr)]
theorem goal_1 (B : Base L σ pr nw 0) (hx : x ∈ L) (hxp : 0 < x.p) (ex : x.a = pr.1) (hy : y ∈ L) (hyp : 0 < y.p) (ey : y.a = pr.2) (hne : y ≠ x) : Goal L σ pr [] := by
  have hxn : x.a ≠ nw := by rw [ex]; exact B.n1
  have hyn : y.a ≠ nw := by rw [ey]; exact B.n2
  have hay : y.a ≠ x.a := fun e => hne (adr_eq B.adr hy hx e)
  have hl : Led1 L σ x := ⟨hx, hxp, by rw [B.old hxn]; exact ex.symm, fun q hq hD => by
    rw [adr_eq B.adr hq hx ((B.sayD0 hD.2).trans ex.symm)]
    exact beats_refl _⟩
  refine ⟨(x.a, y.a), ?_, .inl (fix_a B.ids B.adr hl hy hyp hne ?_ ?_ fun r hr hB => ?_), .inr ⟨x, hx, hxp, rfl, .inl ⟨y, hy, hyp, hay, rfl⟩⟩⟩
  · have e : dueF L pr [] = x.a := dueF_said B.ids (by have := B.pos x hx; omega) ⟨hx, ⟨hxp, .inl ex⟩, fun q hq hQ => by
      rcases hQ.2 with e | e
      · rw [adr_eq B.adr hq hx (e.trans ex.symm)]
        exact beats_refl _
      · cases e⟩
    unfold due
    rw [e, dueS_said hy hyp ey.symm hay]
  · rw [B.old hyn, ← ex]
    exact Ne.symm hay
  · rw [B.old hyn, ey]
  · exact adr_eq B.adr hr hy ((B.sayB hr hB.2.2).trans ey.symm)
theorem goal_2 (B : Base L σ pr nw 0) (hx : x ∈ L) (hxp : 0 < x.p) (ex : x.a = pr.1) (hy : ∀ r ∈ L, 0 < r.p → r.a ≠ pr.2) : Goal L σ pr [] := by
  have hxn : x.a ≠ nw := by rw [ex]; exact B.n1
  have hl : Led1 L σ x := ⟨hx, hxp, by rw [B.old hxn]; exact ex.symm, fun q hq hD => by
    rw [adr_eq B.adr hq hx ((B.sayD0 hD.2).trans ex.symm)]
    exact beats_refl _⟩
  have e : dueF L pr [] = x.a := dueF_said B.ids (by have := B.pos x hx; omega) ⟨hx, ⟨hxp, .inl ex⟩, fun q hq hQ => by
    rcases hQ.2 with e | e
    · rw [adr_eq B.adr hq hx (e.trans ex.symm)]
      exact beats_refl _
    · cases e⟩
  rcases top_or (ks := L) (fun r => 0 < r.p ∧ r ≠ x) with ⟨y, ht⟩ | hn
  · refine ⟨(x.a, y.a), ?_, .inl (fix_b B.ids B.adr hl ht (fun r hr hD => adr_eq B.adr hr hx ((B.sayD0 hD.2).trans ex.symm)) fun r hr hB => absurd (B.sayB hr hB.2.2) (hy r hr hB.1)), .inr ⟨x, hx, hxp, rfl, .inl ⟨y, ht.1, ht.2.1.1, fun e => ht.2.1.2 (adr_eq B.adr ht.1 hx e), rfl⟩⟩⟩
    unfold due
    rw [e, dueS_best B.ids B.adr hx (fun r hr hp e => absurd e (hy r hr hp)) ht]
  · have hA : ∀ r ∈ L, 0 < r.p → r = x := fun r hr hp => Classical.byContradiction fun e => hn r hr ⟨hp, e⟩
    refine ⟨(x.a, 0), ?_, .inl (fix_c B.ids B.adr hl hA), .inr ⟨x, hx, hxp, rfl, .inr ⟨fun r hr hp => by rw [hA r hr hp], rfl⟩⟩⟩
    unfold due
    rw [e, dueS_none fun r hr hp => by rw [hA r hr hp]]
theorem goal_3 (B : Base L σ pr nw nw) (_hn : n ∈ L) (_hnp : 0 < n.p) (_en : n.a = nw) (hx : x ∈ L) (hxp : 0 < x.p) (ex : x.a = pr.1) (hy : y ∈ L) (hyp : 0 < y.p) (ey : y.a = pr.2) (hne : y ≠ x) : Goal L σ pr [nw] := by
  have hyn : y.a ≠ nw := by rw [ey]; exact B.n2
  have hay : y.a ≠ x.a := fun e => hne (adr_eq B.adr hy hx e)
  rcases top_or (ks := L) (fun r => 0 < r.p ∧ (r.a = pr.1 ∨ r.a ∈ [nw])) with ⟨f, ht⟩ | hno
  · have hfa : f.a = pr.1 ∨ f.a = nw := ht.2.1.2.imp id fun h => List.mem_singleton.mp h
    have hyf : y.a ≠ f.a := by
      rcases hfa with e | e
      · rw [e, ← ex]; exact hay
      · rw [e]; exact hyn
    have hl : Led1 L σ f := ⟨ht.1, ht.2.1.1, by
      by_cases e : f.a = nw
      · rw [e, B.new]
      · rw [B.old e]
        exact (hfa.resolve_right e).symm, fun q hq hD => ht.2.2 q hq ⟨hD.1, (B.sayD hD.2).imp id fun h => List.mem_singleton.mpr h.1⟩⟩
    refine ⟨(f.a, y.a), ?_, .inl (fix_a B.ids B.adr hl hy hyp (fun e => hyf (congrArg R.a e)) ?_ ?_ fun r hr hB => ?_), .inr ⟨f, ht.1, ht.2.1.1, rfl, .inl ⟨y, hy, hyp, hyf, rfl⟩⟩⟩
    · have e : dueF L pr [nw] = f.a := dueF_said B.ids (by have := B.pos f ht.1; omega) ht
      unfold due
      rw [e, dueS_said hy hyp ey.symm hyf]
    · rw [B.old hyn, ← ex]
      exact Ne.symm hay
    · rw [B.old hyn, ey]
    · exact adr_eq B.adr hr hy ((B.sayB hr hB.2.2).trans ey.symm)
  · exact absurd ⟨hxp, .inl ex⟩ (hno x hx)
theorem goal_4 (B : Base L σ pr nw nw) (hn : n ∈ L) (hnp : 0 < n.p) (en : n.a = nw) (hx : x ∈ L) (hxp : 0 < x.p) (ex : x.a = pr.1) (e2 : pr.2 = 0) (hA : ∀ r ∈ L, 0 < r.p → r = x ∨ r = n) : Goal L σ pr [nw] := by
  have hxn : x.a ≠ nw := by rw [ex]; exact B.n1
  have hne : x ≠ n := fun e => hxn (by rw [e, en])
  have hsx : (σ x.a).1 = x.a := by rw [B.old hxn]; exact ex.symm
  have hsn : (σ n.a).1 = n.a := by rw [en, B.new]
  have hno : ∀ r ∈ L, 0 < r.p → r.a ≠ pr.2 := fun r hr _ e => by have := B.pos r hr; omega
  have key : ∀ f v : R, f ∈ L → 0 < f.p → v ∈ L → 0 < v.p → f ≠ v → beats f v → (σ f.a).1 = f.a → (σ v.a).1 = v.a → (∀ r ∈ L, 0 < r.p → r = f ∨ r = v) → (f.a = pr.1 ∨ f.a ∈ [nw]) → Goal L σ pr [nw] := by
    intro f v hf hfp hv hvp hfv hb hfs hvs hAf hfa
    refine ⟨(f.a, v.a), ?_, .inr ⟨v, _, pre_two B.ids B.adr hf hfp hv hvp hfv hb (by have := B.pos v hv; omega) hfs hvs hAf⟩, .inr ⟨f, hf, hfp, rfl, .inl ⟨v, hv, hvp, fun e => hfv (adr_eq B.adr hf hv e.symm), rfl⟩⟩⟩
    have e : dueF L pr [nw] = f.a := dueF_said B.ids (by have := B.pos f hf; omega) ⟨hf, ⟨hfp, hfa⟩, fun q hq hQ => by
      rcases hAf q hq hQ.1 with e | e
      · rw [e]; exact beats_refl _
      · rw [e]; exact hb⟩
    unfold due
    rw [e, dueS_best B.ids B.adr hf (fun r hr hp e => absurd e (hno r hr hp)) ⟨hv, ⟨hvp, Ne.symm hfv⟩, fun q hq hQ => by
      rw [(hAf q hq hQ.1).resolve_left hQ.2]
      exact beats_refl _⟩]
  rcases beats_total x n with hb | hb
  · exact key x n hx hxp hn hnp hne hb hsx hsn hA (.inl ex)
  · exact key n x hn hnp hx hxp (Ne.symm hne) hb hsn hsx (fun r hr hp => (hA r hr hp).symm) (.inr (List.mem_singleton.mpr en))
theorem goal_5 (B : Base L σ pr nw nw) (hn : n ∈ L) (hnp : 0 < n.p) (en : n.a = nw) (hA : ∀ r ∈ L, 0 < r.p → r = n) : Goal L σ pr [nw] := by
  have hl : Led1 L σ n := ⟨hn, hnp, by rw [en, B.new], fun q hq hD => by rw [hA q hq hD.1]; exact beats_refl _⟩
  refine ⟨(n.a, 0), ?_, .inl (fix_c B.ids B.adr hl hA), .inr ⟨n, hn, hnp, rfl, .inr ⟨fun r hr hp => by rw [hA r hr hp], rfl⟩⟩⟩
  have e : dueF L pr [nw] = n.a := dueF_said B.ids (by have := B.pos n hn; omega) ⟨hn, ⟨hnp, .inr (List.mem_singleton.mpr en)⟩, fun q hq hQ => by
    rw [hA q hq hQ.1]; exact beats_refl _⟩
  unfold due
  rw [e, dueS_none fun r hr hp => by rw [hA r hr hp]]
theorem goal_6 (B : Base L σ pr nw 0) (hpr : pr = (0, 0)) (hn : n ∈ L) (hnp : 0 < n.p) (hA : ∀ r ∈ L, 0 < r.p → r = n) : Goal L σ pr [] := by
  have hn0 : n.a ≠ 0 := by have := B.pos n hn; omega
  have hs : σ n.a = (0, 0) := by
    by_cases e : n.a = nw
    · rw [e, B.new]
    · rw [B.old e, hpr]
  refine ⟨(n.a, 0), ?_, .inr ⟨n, _, pre_one B.ids B.adr hn hnp hn0 hs hA⟩, .inr ⟨n, hn, hnp, rfl, .inr ⟨fun r hr hp => by rw [hA r hr hp], rfl⟩⟩⟩
  have e : dueF L pr [] = n.a := by
    rw [dueF_none fun r hr hp h => ?_, if_neg (fun hm => ?_)]
    · exact lawBest_top B.ids ⟨hn, ⟨hnp, ableA_mem.mpr ⟨n, hn, hnp, rfl⟩⟩, fun q hq hQ => by rw [hA q hq hQ.1]; exact beats_refl _⟩
    · obtain ⟨r, hr, hp, e⟩ := ableA_mem.mp hm
      rw [hpr] at e
      have := B.pos r hr
      have e : r.a = 0 := e
      omega
    · rcases h with h | h
      · rw [hpr] at h
        have := B.pos r hr
        have h : r.a = 0 := h
        omega
      · cases h
  unfold due
  rw [e, dueS_none fun r hr hp => by rw [hA r hr hp]]
theorem goal_7 (B : Base L σ pr nw 0) (hx : ∀ r ∈ L, 0 < r.p → r.a ≠ pr.1) (hy : y ∈ L) (hyp : 0 < y.p) (ey : y.a = pr.2) : Goal L σ pr [] := by
  have hyn : y.a ≠ nw := by rw [ey]; exact B.n2
  have hs : σ y.a = pr := B.old hyn
  have e : dueF L pr [] = y.a := by
    rw [dueF_none fun r hr hp h => ?_, if_pos (by rw [← ey]; exact ableA_mem.mpr ⟨y, hy, hyp, rfl⟩), ey]
    rcases h with h | h
    · exact hx r hr hp h
    · cases h
  have hv1 : (σ y.a).1 ≠ y.a := by rw [hs]; exact fun e => hx y hy hyp e.symm
  have hv2 : (σ y.a).2 = y.a := by rw [hs]; exact ey.symm
  have hD : ∀ r ∈ L, ¬ aD σ r := fun r hr h => hx r hr h.1 (B.sayD0 h.2)
  have hB : ∀ r ∈ L, 0 < r.p → (σ r.a).2 = r.a → r = y := fun r hr hp h => adr_eq B.adr hr hy ((B.sayB hr h).trans ey.symm)
  rcases top_or (ks := L) (fun r => 0 < r.p ∧ r ≠ y) with ⟨z, ht⟩ | hn
  · refine ⟨(y.a, z.a), ?_, .inr ⟨y, _, pre_up B.ids B.adr hy hyp hv1 hv2 hD hB (.inl ⟨z, ht, rfl⟩)⟩, .inr ⟨y, hy, hyp, rfl, .inl ⟨z, ht.1, ht.2.1.1, fun e => ht.2.1.2 (adr_eq B.adr ht.1 hy e), rfl⟩⟩⟩
    unfold due
    rw [e, dueS_best B.ids B.adr hy (fun r hr hp e => adr_eq B.adr hr hy (e.trans ey.symm)) ht]
  · have hA : ∀ r ∈ L, 0 < r.p → r = y := fun r hr hp => Classical.byContradiction fun e => hn r hr ⟨hp, e⟩
    refine ⟨(y.a, 0), ?_, .inr ⟨y, _, pre_up B.ids B.adr hy hyp hv1 hv2 hD hB (.inr ⟨hA, rfl⟩)⟩, .inr ⟨y, hy, hyp, rfl, .inr ⟨fun r hr hp => by rw [hA r hr hp], rfl⟩⟩⟩
    unfold due
    rw [e, dueS_none fun r hr hp => by rw [hA r hr hp]]
theorem goal_quiet {rs : List R} {a0 : Int} (B : Base L σ pr nw 0) (hd : Duo rs pr) (ag : ∀ r : R, r.a ≠ a0 → (r ∈ L ↔ r ∈ rs)) : Goal L σ pr [] := by
  by_cases h1 : ∃ x ∈ L, 0 < x.p ∧ x.a = pr.1
  · obtain ⟨x, hx, hxp, ex⟩ := h1
    by_cases h2 : ∃ y ∈ L, 0 < y.p ∧ y.a = pr.2
    · obtain ⟨y, hy, hyp, ey⟩ := h2
      refine goal_1 B hx hxp ex hy hyp ey fun e => ?_
      rcases hd with ⟨_, e0⟩ | ⟨f, _, _, e1, ⟨z, _, _, hz, e2⟩ | ⟨_, e2⟩⟩
      · have := B.pos x hx
        rw [e0] at ex
        have ex : x.a = 0 := ex
        omega
      · rw [e] at ey
        exact hz (by rw [← e2, ← ey, ex, e1])
      · have := B.pos y hy
        omega
    · exact goal_2 B hx hxp ex fun r hr hp e => h2 ⟨r, hr, hp, e⟩
  · have hx : ∀ r ∈ L, 0 < r.p → r.a ≠ pr.1 := fun r hr hp e => h1 ⟨r, hr, hp, e⟩
    by_cases h2 : ∃ y ∈ L, 0 < y.p ∧ y.a = pr.2
    · obtain ⟨y, hy, hyp, ey⟩ := h2
      exact goal_7 B hx hy hyp ey
    · rcases hd with ⟨hno, e0⟩ | ⟨f, hf, hfp, e1, hd⟩
      · have hat : ∀ r ∈ L, 0 < r.p → r.a = a0 := fun r hr hp => Classical.byContradiction fun e => hno r ((ag r e).mp hr) hp
        by_cases h3 : ∃ n ∈ L, 0 < n.p
        · obtain ⟨n, hn, hnp⟩ := h3
          exact goal_6 B e0 hn hnp fun r hr hp => adr_eq B.adr hr hn ((hat r hr hp).trans (hat n hn hnp).symm)
        · exact goal_0 B fun r hr hp => h3 ⟨r, hr, hp⟩
      · have hfa : f.a = a0 := Classical.byContradiction fun e => h1 ⟨f, (ag f e).mpr hf, hfp, e1.symm⟩
        refine goal_0 B fun r hr hp => ?_
        rcases hd with ⟨y, hy, hyp, hyf, e2⟩ | ⟨ho, _⟩
        · exact h2 ⟨y, (ag y (by rw [← hfa]; exact hyf)).mpr hy, hyp, e2.symm⟩
        · by_cases e : r.a = a0
          · exact h1 ⟨r, hr, hp, by rw [e1, hfa, e]⟩
          · exact e (by rw [← hfa]; exact ho r ((ag r e).mp hr) hp)
theorem goal_claim {rs : List R} (B : Base L σ pr nw nw) (hd : Duo rs pr) (ag : ∀ r : R, r.a ≠ nw → (r ∈ L ↔ r ∈ rs)) (hn : n ∈ L) (hnp : 0 < n.p) (en : n.a = nw) : Goal L σ pr [nw] := by
  rcases hd with ⟨hno, _⟩ | ⟨f, hf, hfp, e1, hd⟩
  · refine goal_5 B hn hnp en fun r hr hp => adr_eq B.adr hr hn ?_
    rw [en]
    exact Classical.byContradiction fun e => hno r ((ag r e).mp hr) hp
  · have hfL : f ∈ L := (ag f (by rw [← e1]; exact B.n1)).mpr hf
    rcases hd with ⟨y, hy, hyp, hyf, e2⟩ | ⟨ho, e2⟩
    · exact goal_3 B hn hnp en hfL hfp e1.symm ((ag y (by rw [← e2]; exact B.n2)).mpr hy) hyp e2.symm fun e => hyf (congrArg R.a e)
    · refine goal_4 B hn hnp en hfL hfp e1.symm e2 fun r hr hp => ?_
      by_cases e : r.a = nw
      · exact .inr (adr_eq B.adr hr hn (e.trans en.symm))
      · exact .inl (adr_eq B.adr hr hfL (ho r ((ag r e).mp hr) hp))
end
theorem Base.perm {L L' : List R} {σ : Int → Int × Int} {pr : Int × Int} {nw c : Int} (hp : L'.Perm L) (B : Base L σ pr nw c) : Base L' σ pr nw c :=
  ⟨B.ids.perm hp, B.adr.perm hp, fun r hr => B.pos r (hp.mem_iff.mp hr), B.sig, B.n0, B.n1, B.n2⟩
/-- rows of one net: their addresses tell them apart, an id belongs to its address -/
structure Net (rs : List R) (came : Nat) : Prop where
  adr : Adr rs
  rng : ∀ r ∈ rs, 10 < r.a ∧ r.a ≤ 10 + (came : Int)
  idn : ∀ r ∈ rs, r.i = ((r.a - 10) * 3).fmod 11
theorem Net.perm {rs rs' : List R} {came : Nat} (hp : rs'.Perm rs) (N : Net rs came) : Net rs' came :=
  ⟨N.adr.perm hp, fun r hr => N.rng r (hp.mem_iff.mp hr), fun r hr => N.idn r (hp.mem_iff.mp hr)⟩
theorem Net.ids {rs : List R} {came : Nat} (N : Net rs came) (hc : came ≤ 6) : Ids rs := fun q hq t ht e => by
  refine adr_eq N.adr hq ht ?_
  have h1 := N.rng q hq
  have h2 := N.rng t ht
  rw [N.idn q hq, N.idn t ht, Int.fmod_eq_emod_of_nonneg _ (by decide), Int.fmod_eq_emod_of_nonneg _ (by decide)] at e
  omega
/-- what stands between two turns -/
structure Inv (rs : List R) (pr : Int × Int) (came : Nat) : Prop where
  len : rs.length ≤ 4
  net : Net rs came
  says : ∀ r ∈ rs, r.d = pr.1 ∧ r.b = pr.2
  duo : Duo rs pr
theorem Duo.small {rs : List R} {pr : Int × Int} {came : Nat} (N : Net rs came) (h : Duo rs pr) : pr.1 ≠ 11 + (came : Int) ∧ pr.2 ≠ 11 + (came : Int) := by
  rcases h with ⟨_, e⟩ | ⟨f, hf, _, e1, h⟩
  · rw [e]
    constructor
    · show (0 : Int) ≠ _
      omega
    · show (0 : Int) ≠ _
      omega
  · have h1 := N.rng f hf
    refine ⟨by omega, ?_⟩
    rcases h with ⟨y, hy, _, _, e2⟩ | ⟨_, e2⟩
    · have h2 := N.rng y hy
      omega
    · omega
/-- what an event leaves -/
structure Ev (rs : List R) (pr : Int × Int) (came came' : Nat) (E : List R) (C : List Int) (a0 c : Int) : Prop where
  len : E.length ≤ 4
  net : Net E came'
  less : came' ≤ came + 1
  says : ∀ r ∈ E, (r.d, r.b) = if r.a = 11 + (came : Int) then (c, 0) else pr
  ag : ∀ r : R, r.a ≠ a0 → (r ∈ E ↔ r ∈ rs)
  cl : (C = [] ∧ c = 0) ∨ (C = [11 + (came : Int)] ∧ c = 11 + (came : Int) ∧ a0 = 11 + (came : Int) ∧ ∃ n ∈ E, n.a = 11 + (came : Int) ∧ 0 < n.p)
theorem ev_new {rs : List R} {pr : Int × Int} {came form worth : Nat} (I : Inv rs pr came) (hl : rs.length < 4) :
    ∃ c, Ev rs pr came (came + 1) (rs ++ [evRow came worth (evC came form worth)]) (evC came form worth) (11 + (came : Int)) c := by
  have ea : ∀ C, (evRow came worth C).a = 11 + (came : Int) := fun C => by
    show 10 + ((came : Int) + 1) = _
    omega
  have hne : ∀ r ∈ rs, r.a ≠ 11 + (came : Int) := fun r hr => by
    have := I.net.rng r hr
    omega
  have hc : ∃ c : Int, (evRow came worth (evC came form worth)).d = c ∧ ((evC came form worth = [] ∧ c = 0) ∨ (evC came form worth = [11 + (came : Int)] ∧ c = 11 + (came : Int) ∧ 0 < worth)) := by
    refine ⟨_, rfl, ?_⟩
    unfold evC
    by_cases h : form = 2 ∧ 0 < worth
    · rw [if_pos h]
      refine .inr ⟨by rw [show (10 : Int) + ((came : Int) + 1) = 11 + (came : Int) by omega], ?_, h.2⟩
      show (if [10 + ((came : Int) + 1)] = [] then (0 : Int) else 10 + ((came : Int) + 1)) = _
      rw [if_neg (fun e => nomatch e)]
      omega
    · rw [if_neg h]
      exact .inl ⟨rfl, rfl⟩
  obtain ⟨c, hd, hC⟩ := hc
  refine ⟨c, ?_, ⟨?_, ?_, ?_⟩, Nat.le_refl _, ?_, ?_, ?_⟩
  · rw [List.length_append, List.length_singleton]
    omega
  · unfold Adr
    rw [List.map_append, List.nodup_append]
    refine ⟨I.net.adr, by simp, fun a ha b hb => ?_⟩
    obtain ⟨r, hr, rfl⟩ := List.mem_map.mp ha
    rw [List.map_cons, List.map_nil, List.mem_singleton] at hb
    rw [hb, ea]
    exact hne r hr
  · intro r hr
    rcases List.mem_append.mp hr with h | h
    · have := I.net.rng r h
      omega
    · rw [List.mem_singleton.mp h, ea]
      omega
  · intro r hr
    rcases List.mem_append.mp hr with h | h
    · exact I.net.idn r h
    · rw [List.mem_singleton.mp h, ea]
      show (((came : Int) + 1) * 3).fmod 11 = _
      rw [show (11 + (came : Int) - 10) * 3 = ((came : Int) + 1) * 3 by omega]
  · intro r hr
    rcases List.mem_append.mp hr with h | h
    · rw [if_neg (hne r h), (I.says r h).1, (I.says r h).2]
    · rw [List.mem_singleton.mp h, if_pos (ea _), hd]
      rfl
  · intro r hr
    rw [List.mem_append, List.mem_singleton]
    constructor
    · rintro (h | h)
      · exact h
      · exact absurd (by rw [h]; exact ea _) hr
    · exact .inl
  · rcases hC with h | ⟨h1, h2, h3⟩
    · exact .inl h
    · refine .inr ⟨h1, h2, rfl, _, List.mem_append.mpr (.inr (.head _)), ea _, ?_⟩
      show (0 : Int) < (worth : Int)
      omega
theorem ev_go {rs : List R} {pr : Int × Int} {came j : Nat} {r0 : R} (I : Inv rs pr came) (hj : rs[j]? = some r0) : Ev rs pr came came (rs.eraseIdx j) [] r0.a 0 := by
  have hp := cut_perm hj
  rw [← List.eraseIdx_eq_take_drop_succ] at hp
  have had := I.net.adr.cut hj
  rw [← List.eraseIdx_eq_take_drop_succ] at had
  have hs : ∀ r ∈ rs.eraseIdx j, r ∈ rs := fun r hr => hp.mem_iff.mp (List.mem_append.mpr (.inl hr))
  have hA := I.net.adr.perm hp
  refine ⟨Nat.le_trans (List.length_eraseIdx_le _ _) I.len, ⟨?_, fun r hr => I.net.rng r (hs r hr), fun r hr => I.net.idn r (hs r hr)⟩, Nat.le_succ _, fun r hr => ?_, fun r hr => ⟨hs r, fun h => ?_⟩, .inl ⟨rfl, rfl⟩⟩
  · unfold Adr at hA ⊢
    rw [List.map_append, List.nodup_append] at hA
    exact hA.1
  · have := I.net.rng r (hs r hr)
    rw [if_neg (by omega), (I.says r (hs r hr)).1, (I.says r (hs r hr)).2]
  · rcases List.mem_append.mp (hp.mem_iff.mpr h) with h | h
    · exact h
    · exact absurd (congrArg R.a (List.mem_singleton.mp h)) hr
theorem ev_prio {rs : List R} {pr : Int × Int} {came j worth : Nat} {r0 : R} (I : Inv rs pr came) (hj : rs[j]? = some r0) : Ev rs pr came came (rs.eraseIdx j ++ [{ r0 with p := (worth : Int) }]) [] r0.a 0 := by
  have hp := cut_perm hj
  rw [← List.eraseIdx_eq_take_drop_succ] at hp
  have had := I.net.adr.cut hj
  rw [← List.eraseIdx_eq_take_drop_succ] at had
  have hs : ∀ r ∈ rs.eraseIdx j, r ∈ rs := fun r hr => hp.mem_iff.mp (List.mem_append.mpr (.inl hr))
  have h0 : r0 ∈ rs := List.mem_of_getElem? hj
  have hA := I.net.adr.perm hp
  have hll := hp.length_eq
  refine ⟨?_, ⟨?_, fun r hr => ?_, fun r hr => ?_⟩, Nat.le_succ _, fun r hr => ?_, fun r hr => ⟨fun h => ?_, fun h => ?_⟩, .inl ⟨rfl, rfl⟩⟩
  · have := I.len
    rw [List.length_append, List.length_singleton] at hll ⊢
    omega
  · unfold Adr at hA ⊢
    rw [List.map_append] at hA ⊢
    exact hA
  · rcases List.mem_append.mp hr with h | h
    · exact I.net.rng r (hs r h)
    · rw [List.mem_singleton.mp h]
      exact I.net.rng r0 h0
  · rcases List.mem_append.mp hr with h | h
    · exact I.net.idn r (hs r h)
    · rw [List.mem_singleton.mp h]
      exact I.net.idn r0 h0
  · rcases List.mem_append.mp hr with h | h
    · have := I.net.rng r (hs r h)
      rw [if_neg (by omega), (I.says r (hs r h)).1, (I.says r (hs r h)).2]
    · rw [List.mem_singleton.mp h]
      have := I.net.rng r0 h0
      rw [if_neg (by show ¬ r0.a = _; omega)]
      show (r0.d, r0.b) = pr
      rw [(I.says r0 h0).1, (I.says r0 h0).2]
  · rcases List.mem_append.mp h with h | h
    · exact hs r h
    · exact absurd (by rw [List.mem_singleton.mp h]) hr
  · rcases List.mem_append.mp (hp.mem_iff.mpr h) with h | h
    · exact List.mem_append.mpr (.inl h)
    · exact absurd (congrArg R.a (List.mem_singleton.mp h)) hr
theorem ev_any {rs : List R} {pr : Int × Int} {came : Nat} (form pick worth : Nat) (I : Inv rs pr came) : ∃ a0 c, Ev rs pr came (evCame rs came form) (evRows rs came form pick worth) (evClaims rs came form worth) a0 c := by
  by_cases h : comes rs form
  · have e1 : evRows rs came form pick worth = rs ++ [evRow came worth (evC came form worth)] := if_pos h
    have e2 : evCame rs came form = came + 1 := if_pos h
    have e3 : evClaims rs came form worth = evC came form worth := if_pos h
    rw [e1, e2, e3]
    refine ⟨_, ev_new I ?_⟩
    rcases h with h | h
    · rw [h]; decide
    · exact h.2
  · have hne : 0 < rs.length := List.length_pos_iff.mpr fun e => h (.inl e)
    have hlt : pick % rs.length < rs.length := Nat.mod_lt _ hne
    have hr : rs[pick % rs.length]? = some (rs[pick % rs.length]'hlt) := List.getElem?_eq_getElem hlt
    obtain ⟨e1, e2, e3⟩ := ev_pop (worth := worth) h hr
    rw [e1, e2, e3]
    by_cases h4 : form = 4
    · rw [if_pos h4]
      exact ⟨_, _, ev_prio I hr⟩
    · rw [if_neg h4]
      exact ⟨_, _, ev_go I hr⟩
theorem settle_any {L : List R} {σ : Int → Int × Int} {P : Int × Int} (ad : Adr L) (h : Fix L P σ ∨ ∃ v P0, Pre L v P0 P σ) : ∃ k, settledAt (state σ L) 0 4 = some (state (fun _ => P) L, k) := by
  rcases h with h | ⟨v, P0, h⟩
  · exact settle_fix ad h
  · exact settle_pre ad h
theorem turn_any {rs L : List R} {pr : Int × Int} {came form pick worth : Nat} (hc : came < 6) (I : Inv rs pr came) (hL : L.Perm (evRows rs came form pick worth)) :
    L.length ≤ 4 ∧ ∃ T kT kB, settledAt L 0 4 = some (T, kT) ∧ settledAt L.reverse 0 4 = some (T.reverse, kB) ∧
      T.map (fun r => (r.d, r.b)) = List.replicate L.length (due L pr (evClaims rs came form worth)) ∧ Inv T (due L pr (evClaims rs came form worth)) (evCame rs came form) ∧ evCame rs came form ≤ came + 1 := by
  obtain ⟨a0, c, V⟩ := ev_any form pick worth I
  generalize evClaims rs came form worth = C at *
  generalize evCame rs came form = came' at *
  generalize evRows rs came form pick worth = E at *
  have hll := hL.length_eq
  have hlen : L.length ≤ 4 := by rw [hll]; exact V.len
  have N : Net L came' := V.net.perm hL
  have hsm := I.duo.small I.net
  have hless := V.less
  have B : Base L (fun a => if a = 11 + (came : Int) then (c, 0) else pr) pr (11 + (came : Int)) c :=
    ⟨N.ids (by omega), N.adr, fun r hr => by have := N.rng r hr; omega, rfl, by omega, hsm.1, hsm.2⟩
  have ag : ∀ r : R, r.a ≠ a0 → (r ∈ L ↔ r ∈ rs) := fun r hr => hL.mem_iff.trans (V.ag r hr)
  have hg : Goal L (fun a => if a = 11 + (came : Int) then (c, 0) else pr) pr C := by
    rcases V.cl with ⟨rfl, rfl⟩ | ⟨rfl, rfl, rfl, n, hn, en, hp⟩
    · exact goal_quiet B I.duo ag
    · exact goal_claim B I.duo ag (hL.mem_iff.mpr hn) hp en
  have hst : ∀ l : List R, (∀ r ∈ l, r ∈ E) → l = state (fun a => if a = 11 + (came : Int) then (c, 0) else pr) l := fun l hl => by
    unfold state
    conv => lhs; rw [← List.map_id' l]
    refine List.map_congr_left fun r hr => ?_
    show r = r.said (if r.a = 11 + (came : Int) then (c, 0) else pr)
    rw [← V.says r (hl r hr)]
    rfl
  obtain ⟨P, hP, hF, hD⟩ := hg
  rw [hP]
  obtain ⟨kT, hT⟩ := settle_any N.adr hF
  obtain ⟨kB, hB⟩ := settle_any (L := L.reverse) (N.adr.perm (List.reverse_perm L)) (hF.imp (fun h => h.perm (List.reverse_perm L)) fun ⟨v, P0, h⟩ => ⟨v, P0, h.perm (List.reverse_perm L)⟩)
  rw [← hst L fun r hr => hL.mem_iff.mp hr] at hT
  rw [← hst L.reverse fun r hr => hL.mem_iff.mp (List.mem_reverse.mp hr)] at hB
  have hrev : state (fun _ => P) L.reverse = (state (fun _ => P) L).reverse := by
    unfold state
    rw [List.map_reverse]
  rw [hrev] at hB
  refine ⟨hlen, _, kT, kB, hT, hB, ?_, ⟨?_, ⟨?_, ?_, ?_⟩, ?_, ?_⟩, V.less⟩
  · unfold state
    rw [List.map_map, List.eq_replicate_iff, List.length_map]
    refine ⟨rfl, fun x hx => ?_⟩
    obtain ⟨r, _, rfl⟩ := List.mem_map.mp hx
    rfl
  · rw [state_length]; exact hlen
  · unfold Adr state
    rw [List.map_map]
    exact N.adr
  · intro r hr
    obtain ⟨k, hk, rfl⟩ := mem_state.mp hr
    exact N.rng k hk
  · intro r hr
    obtain ⟨k, hk, rfl⟩ := mem_state.mp hr
    exact N.idn k hk
  · intro r hr
    obtain ⟨k, hk, rfl⟩ := mem_state.mp hr
    exact ⟨rfl, rfl⟩
  · have up : ∀ k ∈ L, k.said P ∈ state (fun _ => P) L := fun k hk => mem_state.mpr ⟨k, hk, rfl⟩
    rcases hD with ⟨h, e⟩ | ⟨f, hf, hfp, e1, h⟩
    · refine .inl ⟨fun r hr => ?_, e⟩
      obtain ⟨k, hk, rfl⟩ := mem_state.mp hr
      exact h k hk
    · refine .inr ⟨f.said P, up f hf, hfp, e1, ?_⟩
      rcases h with ⟨y, hy, hyp, hyf, e2⟩ | ⟨h, e2⟩
      · exact .inl ⟨y.said P, up y hy, hyp, hyf, e2⟩
      · refine .inr ⟨fun r hr hp => ?_, e2⟩
        obtain ⟨k, hk, rfl⟩ := mem_state.mp hr
        exact h k hk hp
theorem inv_start : Inv [] (0, 0) 0 := ⟨by decide, ⟨List.nodup_nil, (fun _ h => nomatch h), (fun _ h => nomatch h)⟩, (fun _ h => nomatch h), .inl ⟨(fun _ h => nomatch h), rfl⟩⟩
theorem rotate_perm (rs : List R) (k : Nat) : (rotate rs k).Perm rs := by
  unfold rotate
  refine List.perm_append_comm.trans ?_
  rw [List.take_append_drop]
theorem law_true : PySem.Challenge.rw_sj0171_01.Holds :=
  law_holds (fun i rs pr came => Inv rs pr came ∧ came ≤ i) ⟨inv_start, Nat.le_refl _⟩ (fun i rs pr came hi h => ⟨h.1.len, Nat.lt_of_le_of_lt h.2 hi⟩) (fun i rs pr came form pick worth more hi h hf hp hw hm => by
    obtain ⟨h1, T, kT, kB, h2, h3, h4, h5, h6⟩ := turn_any (form := form) (pick := pick) (worth := worth) (L := rotate (evRows rs came form pick worth) more) (Nat.lt_of_le_of_lt h.2 hi) h.1 (rotate_perm _ _)
    have h7 := h.2
    rw [rotate_length] at h1
    exact ⟨by omega, T, kT, kB, h2, h3, h4, h5, by omega⟩)
end Mine
theorem PySem.Challenge.cw_sj0171_01_holds : PySem.Challenge.rw_sj0171_01.Holds :=
  Mine.law_true
