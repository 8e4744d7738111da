import PyProof.Rows.All
import Wide.All
import OpenK.AllK
import Wide.FinOn
import Lean
import PySem.Challenge.RW_nn0251_01
set_option Elab.async false
set_option maxRecDepth 100000
set_option maxHeartbeats 8000000
namespace NN
section
open PySem PySem.W PyProof.Rows
set_option synthInstance.maxSize 1 in
open_top nn_hd for PySem.Challenge.rw_nn0251_01
end
open PySem PySem.W PyProof.Rows PySem.Calls
section NNBase
open PySem PySem.W PyProof.Rows PySem.Calls

def Keeps (h h' : Heap) : Prop := ∀ b o, h.get? b = some o → h'.get? b = some o
theorem Keeps.rfl {h : Heap} : Keeps h h := fun _ _ e => e
theorem Keeps.trans {a b c : Heap} (x : Keeps a b) (y : Keeps b c) : Keeps a c := fun p o e => y p o (x p o e)
def NewIn (h h' : Heap) (tl : List (Addr × Obj)) : Prop := ∀ p ∈ tl, h'.get? p.1 = some p.2 ∧ h.get? p.1 = none

abbrev Led := List (Addr × Obj)

/-- what the end of a read-only callee says -/
def EndRo (g : Heap) (s : Shared) (Post : Value → Led → Prop) (v : Value) (s' : Shared) : Prop :=
  ∃ L' m' tl h' tk', s' = { s with heap := h', toks := tk' } ∧ Fr g L' h' m' ∧ News g L' h' tl ∧ Post v tl

def Ct (w : World) (f : Addr) (need : Nat) (vs : List Value) (pre : Heap → Prop) (Post : Value → Led → Prop) : Prop :=
  ∀ (dp un : Nat) (gd : Option (List Code)) (cn : Str) (cs : Scope) (a : Addr) (ccd : Value) (cl : List (Str × Addr)) (outer : List Env) (A₀ : Around) (base h₀ : Heap) (L : Addr) (m mg mb : Str → Option Value) (mean : ExcName → Option Value) (s : Shared) (Q E : Value → Shared → Prop),
    Below A₀ base outer h₀ → Fr h₀ L s.heap m → (nn_hd.heap_39 w.params).In h₀ → Top nn_hd.view_39 (looseW nn_hd.view_39 []) mean mg mb h₀ → cs.kind = .function → pre s.heap →
    dp + need < recursionLimit → un + 8 * need < cLine →
    (∀ r tl h' tk', Keeps s.heap h' → NewIn s.heap h' tl → Post r tl → Q r { s with heap := h', toks := tk' }) →
    wpAny (model (RowW.prog (OpenRow.toRowW (OpenLaw.row Challenge.rw_nn0251_01))) w) (ktrTop dp un gd cn cs L a ccd cl outer) (call (.ref f) vs) Q E s

theorem ro_enter {prog : Program} {w : World} {A₀ A : Around} {base h₀ : Heap} {outer : List Env} {L : Addr} {m : Str → Option Value} {env : Env} {s : Shared} {K : Frag} {p : Program} {loose : List Str} {mean : ExcName → Option Value} {mg mb : Str → Option Value} {Q E : Value → Shared → Prop} {Post : Value → Led → Prop}
    {name qual : Str} {params : Arguments} {body : List Stmt} {scope : Scope} {dV kV doc pm cdv ct oc : Value} {an od : Option Addr} {osl : Array (Option Value)} {f : Addr} {vs : List Value} {binds : List (Str × Value)}
    (B : Below A₀ base outer h₀) (F : Fr h₀ L s.heap m) (X₀ : K.In h₀) (T : Top p loose mean mg mb h₀) (hA : A.frames = some (env :: outer)) (hf : env.frame = some L) (hke : env.scope.kind = .function)
    (ho : K.lookup f = some ⟨oc, od, .func (fnOf name qual params body scope dV kV doc pm an cdv ct), osl⟩) (hcd : codeIn K cdv qual = true) (hroom : A.depth < recursionLimit)
    (hbind : BindsTo s (fnOf name qual params body scope dV kV doc pm an cdv ct) ⟨vs, []⟩ binds) (hloc : ∀ y ∈ binds, scope.names.lookup y.1 = some .local)
    (hret : ∀ r tl h' tk', Keeps s.heap h' → NewIn s.heap h' tl → Post r tl → Q r { s with heap := h', toks := tk' })
    (h : ∀ g L' h₁, Fr g L' h₁ (fun y => binds.reverse.lookup y) → News g L' h₁ [] → Below A base (env :: outer) g → K.In g → Top p loose mean mg mb g → Keeps s.heap g →
      wpAny (model prog w) (A.deeper (envOf qual scope L' f cdv)) (execs body (envOf qual scope L' f cdv))
        (fun fl s' => EndRo g s Post (match fl with | .ret v => v | _ => .none) s')
        (fun _ _ => False)
        { s with heap := h₁, toks := s.toks + binds.length })
    (hco : scope.isCoroutine = false) (hgen : scope.isGenerator = false) (hk : scope.kind = .function)
    (hcell : ∀ x ∈ scope.names, x.2 ≠ .cell) : wpAny (model prog w) A (call (.ref f) vs) Q E s := by
  refine wpAny_call ?_
  refine code_defG (news := []) B F X₀ News.nil T hA hf hke ho hcd hroom hbind hloc ?_ hco hgen hk hcell
  intro g L' h₁ FG F' N' B' X' T' GS
  have kG : Keeps s.heap g := fun b o e => GS b o e (by simp)
  refine wpAny_mono (h g L' h₁ F' N' B' X' T' kG) (fun fl s' z => ?_) (fun e s' z => z.elim)
  obtain ⟨L2, m2, tl, h', tk', rfl, F2, N2, P2⟩ := z
  refine ⟨L2, m2, tl, F2, N2, fun _ _ => ?_⟩
  refine hret _ tl h' tk' (fun b o e => F2.keep _ _ (kG b o e)) (fun q hq => ⟨(N2 q hq).1, ?_⟩) P2
  cases e : s.heap.get? q.1 with
  | none => rfl
  | some o => have := kG _ _ e; rw [(N2 q hq).2.2] at this; cases this

theorem ro_enterC {prog : Program} {w : World} {A₀ A : Around} {base h₀ : Heap} {outer : List Env} {L : Addr} {m : Str → Option Value} {env : Env} {s : Shared} {K : Frag} {p : Program} {loose : List Str} {mean : ExcName → Option Value} {mg mb : Str → Option Value} {Q E : Value → Shared → Prop} {Post : Value → Led → Prop}
    {name qual : Str} {params : Arguments} {body : List Stmt} {scope : Scope} {dV kV doc pm cdv ct oc : Value} {an od : Option Addr} {osl : Array (Option Value)} {f : Addr} {vs : List Value} {binds : List (Str × Value)}
    (B : Below A₀ base outer h₀) (F : Fr h₀ L s.heap m) (X₀ : K.In h₀) (T : Top p loose mean mg mb h₀) (hA : A.frames = some (env :: outer)) (hf : env.frame = some L) (hke : env.scope.kind = .function)
    (ho : K.lookup f = some ⟨oc, od, .func (fnOf name qual params body scope dV kV doc pm an cdv ct), osl⟩) (hcd : codeIn K cdv qual = true) (hroom : A.depth < recursionLimit)
    (hbind : BindsTo s (fnOf name qual params body scope dV kV doc pm an cdv ct) ⟨vs, []⟩ binds)
    (hkind : (binds.all fun y => scope.names.lookup y.1 == some .local || scope.names.lookup y.1 == some .cell) = true)
    (hnd : ((cellsFrom 0 scope.names []).map (·.1)).Nodup)
    (hret : ∀ r tl h' tk', Keeps s.heap h' → NewIn s.heap h' tl → Post r tl → Q r { s with heap := h', toks := tk' })
    (h : ∀ g L' h₁ tk cells, Fr g L' h₁ (bindL (envOfC qual scope L' f cdv).kindOf binds fun _ => none) → News g L' h₁ cells →
      CellsAre (bindC (envOfC qual scope L' f cdv).kindOf binds fun _ => none) (cellsFrom (L' + 1) scope.names []) cells → Below A base (env :: outer) g → K.In g → Top p loose mean mg mb g → Keeps s.heap g →
      wpAny (model prog w) (A.deeper (envOfC qual scope L' f cdv)) (execs body (envOfC qual scope L' f cdv))
        (fun fl s' => EndRo g s Post (match fl with | .ret v => v | _ => .none) s')
        (fun _ _ => False)
        { s with heap := h₁, toks := tk })
    (hco : scope.isCoroutine = false) (hgen : scope.isGenerator = false) (hk : scope.kind = .function) : wpAny (model prog w) A (call (.ref f) vs) Q E s := by
  obtain ⟨_, BG, st, _⟩ := groundX (R := fun _ _ => True) B F News.nil hA hf hke
  refine wpAny_call (codeAny_call_function hroom ((X₀.keeps F.keep) _ _ ho) rfl hco hgen rfl (codeRec_of (X₀.keeps F.keep) hcd) (hbind _ _ _ _ ?_))
  refine wpAny_newFunctionEnv_cells hk (kindsX hkind _) fun env' he s' x => ?_
  subst he
  refine ⟨(T.nolimit.keeps F.keep).keeps x.toInCall.keep, codeAny_func ?_⟩
  obtain ⟨h₁, tk, rfl, _⟩ := x.done
  have hk₁ := x.toInCall.keep
  obtain ⟨cells, NC, Y⟩ := Cl.news (h₀ := s.heap) (Nat.le_refl _) fun n c hm => ⟨x.cell n c (lookup_of_mem_nodup (cellsFrom_names scope.names 0 (s.heap.objs.size + 1) [] [] rfl ▸ hnd) hm), x.above n c hm⟩
  refine wpAny_mono (h s.heap s.heap.objs.size h₁ tk cells ⟨x.toInCall.ns, hk₁, Nat.le_refl _⟩ NC Y BG (X₀.keeps F.keep) (T.keeps F.keep) Keeps.rfl) (fun fl s' z => ?_) (fun e s' z => z.elim)
  obtain ⟨L2, m2, tl, h', tk', rfl, F2, N2, P2⟩ := z
  exact hret _ tl h' tk' F2.keep (fun q hq => ⟨(N2 q hq).1, (N2 q hq).2.2⟩) P2

/-- a list of ints stands at a -/
def LA (h : Heap) (a : Addr) (xs : List Int) : Prop := ∃ vs : List Value, h.IsList a vs.toArray ∧ IntsAre vs xs
theorem LA.keeps {h h' : Heap} {a : Addr} {xs : List Int} (x : LA h a xs) (k : Keeps h h') : LA h' a xs := by
  obtain ⟨vs, ⟨o, e, r⟩, i⟩ := x
  exact ⟨vs, ⟨o, k _ _ e, r⟩, i⟩

/-- a fresh list of the ints ys comes back -/
def RetL (ys : List Int) (r : Value) (tl : Led) : Prop := ∃ a vs n, r = .ref a ∧ tl = [(a, listOf (List.toArray vs) n)] ∧ IntsAre vs ys
def RetI (y : Int) (r : Value) (tl : Led) : Prop := tl = [] ∧ ∃ t, r = .int y t
def RetB (y : Bool) (r : Value) (tl : Led) : Prop := tl = [] ∧ r = .bool y

theorem end_int {g h' : Heap} {s : Shared} {L' : Addr} {m' : Str → Option Value} {x y : Int} {t : Tok} {tk' : Nat} (F : Fr g L' h' m') (e : x = y) : EndRo g s (RetI y) (.int x t) { s with heap := h', toks := tk' } :=
  ⟨L', m', [], h', tk', by rfl, F, News.nil, by rfl, t, by rw [e]⟩
theorem end_bool {g h' : Heap} {s : Shared} {L' : Addr} {m' : Str → Option Value} {x y : Bool} {tk' : Nat} (F : Fr g L' h' m') (e : x = y) : EndRo g s (RetB y) (.bool x) { s with heap := h', toks := tk' } :=
  ⟨L', m', [], h', tk', by rfl, F, News.nil, by rfl, by rw [e]⟩
theorem end_list {g h' : Heap} {s : Shared} {L' a : Addr} {m' : Str → Option Value} {news : Led} {vs : List Value} {n : Nat} {ys zs : List Int} {tk' : Nat} (F : Fr g L' h' m') (N : News g L' h' news) (hm : (a, listOf vs.toArray n) ∈ news) (hi : IntsAre vs zs) (e : zs = ys) :
    EndRo g s (RetL ys) (.ref a) { s with heap := h', toks := tk' } :=
  ⟨L', m', [(a, listOf vs.toArray n)], h', tk', by rfl, F, fun p hp => by rw [List.mem_singleton.mp hp]; exact N _ hm, a, vs, n, by rfl, by rfl, e ▸ hi⟩
theorem end_plain {g h' : Heap} {s : Shared} {L' a : Addr} {m' : Str → Option Value} {news : Led} {vs : List Value} {ys : List Int} {ds : List PyData} {tk' : Nat} (F : Fr g L' h' m') (hD : g.get? a = none) (hP : NewPlain h' news a vs.toArray) (hc : CarriedAll vs ds) (e : ds = ys.map PyData.int) :
    EndRo g s (RetL ys) (.ref a) { s with heap := h', toks := tk' } := by
  have hL := hP.ne_locals F
  obtain ⟨⟨n, hn⟩, _⟩ := hP
  exact ⟨L', m', [(a, listOf vs.toArray n)], h', tk', by rfl, F, fun p hp => by rw [List.mem_singleton.mp hp]; exact ⟨hn, hL, hD⟩, a, vs, n, by rfl, by rfl, IntsAre.ofCarried (e ▸ hc)⟩
end NNBase
section NNLoops
open PySem PySem.W PyProof.Rows PySem.Calls PySem.Spec

/-- the same ledger, another heap -/
def SameL (h₀ : Heap) (L : Addr) (m : Str → Option Value) (led : Led) (s s' : Shared) : Prop :=
  ∃ h' tk', s' = { s with heap := h', toks := tk' } ∧ Fr h₀ L h' m ∧ News h₀ L h' led

def enMap (p : Nat → Int → Bool) (f : Nat → Int → Int) : Nat → List Int → List Int
  | _, [] => []
  | k, x :: r => if p k x then f k x :: enMap p f (k + 1) r else enMap p f (k + 1) r

theorem enMap_snoc (p : Nat → Int → Bool) (f : Nat → Int → Int) : ∀ (xs : List Int) (k : Nat) (x : Int),
    enMap p f k (xs ++ [x]) = enMap p f k xs ++ (if p (k + xs.length) x then [f (k + xs.length) x] else [])
  | [], k, x => by simp [enMap]
  | y :: r, k, x => by
    have ih := enMap_snoc p f r (k + 1) x
    have e : k + 1 + r.length = k + (y :: r).length := by simp only [List.length_cons]; omega
    rw [e] at ih
    simp only [List.cons_append, enMap, ih]
    split <;> simp

def EnTurn (prog : Program) (w : World) (A : Around) (h₀ : Heap) (L : Addr) (m : Str → Option Value) (env : Env) (ifs : List Expr) (elt : Expr) (a b : Str) (scope : Scope) (cl : List (Str × Addr)) (news : Led) (xs : List Int) (p : Nat → Int → Bool) (f : Nat → Int → Int) (s : Shared) : Prop :=
  ∀ (i : Nat) (x : Int) (t t' : Tok) (I : Addr) (oI : Obj) (J : Addr) (oJ : Obj) (C : Addr) (oC : Obj) (D : Addr) (oD : Obj) (m₂ : Str → Option Value) (h : Heap) (tk : Nat) (E' : Value → Shared → Prop),
    xs[i]? = some x → LCg.NsObj oC m₂ → m₂ a = some (.int i t) → m₂ b = some (.int x t') → Fr h₀ L h m → News h₀ L h ((I, oI) :: (J, oJ) :: (C, oC) :: (D, oD) :: news) →
    wpAny (model prog w) A (forIn ifs true fun c r => if r = true then do let ok ← isTrue c (compEnvC scope cl C env) (eval c (compEnvC scope cl C env)); pure (ForInStep.yield ok) else pure (ForInStep.yield r))
      (fun ok s₃ => ok = p i x ∧ SameL h₀ L m ((I, oI) :: (J, oJ) :: (C, oC) :: (D, oD) :: news) { s with heap := h, toks := tk } s₃ ∧
        (ok = true → wpAny (model prog w) A (eval elt (compEnvC scope cl C env)) (fun y s₄ => (∃ t, y = .int (f i x) t) ∧ SameL h₀ L m ((I, oI) :: (J, oJ) :: (C, oC) :: (D, oD) :: news) { s with heap := h, toks := tk } s₄) E' s₃))
      E' { s with heap := h, toks := tk }

def EnFin (h₀ : Heap) (L : Addr) (m : Str → Option Value) (news : Led) (zs : List Int) (s : Shared) (Q : Value → Shared → Prop) : Prop :=
  ∀ D h tk ys, Fr h₀ L h m → News h₀ L h ((D, LCg.lst ys) :: news) → (∀ q ∈ news, q.1 ≠ D) → IntsAre ys zs → Q (.ref D) { s with heap := h, toks := tk }

def EnSrc (prog : Program) (w : World) (A : Around) (h₀ : Heap) (L : Addr) (m : Str → Option Value) (env : Env) (ifs : List Expr) (elt : Expr) (a b : Str) (scope : Scope) (cl : List (Str × Addr)) (Q : Value → Shared → Prop) (xv : Value) (s₁ : Shared) : Prop :=
  ∃ (e it l : Addr) (vs : List Value) (xs : List Int) (news : Led) (p : Nat → Int → Bool) (f : Nat → Int → Int), xv = .ref e ∧ A.handled = none ∧ IsEnum s₁.heap e it 0 .none ∧ s₁.heap.IsListIter it l 0 ∧ LCg.SrcAt h₀ l vs.toArray news ∧ IntsAre vs xs ∧
    e ≠ it ∧ l ≠ e ∧ l ≠ it ∧ (h₀.get? e = none ∧ h₀.get? it = none) ∧ (L ≠ e ∧ L ≠ it) ∧ (∀ q ∈ news, q.1 ≠ e ∧ q.1 ≠ it) ∧ Fr h₀ L s₁.heap m ∧ News h₀ L s₁.heap news ∧ xs.length ≤ sizeLine ∧
    EnTurn prog w A h₀ L m env ifs elt a b scope cl news xs p f s₁ ∧ EnFin h₀ L m news (enMap p f 0 xs) s₁ Q

section
variable {prog : Program} {w : World} {A : Around} {E : Value → Shared → Prop} {s : Shared} {h₀ : Heap} {L : Addr} {m : Str → Option Value} {env : Env}

theorem en_call {ifs : List Expr} {elt : Expr} {a b : Str} {scope : Scope} {cl : List (Str × Addr)} {Q : Value → Shared → Prop} {l : Addr} {vs : List Value} {xs : List Int} {news : Led} (p : Nat → Int → Bool) (f : Nat → Int → Int)
    (hh : A.handled = none) (F : Fr h₀ L s.heap m) (N : News h₀ L s.heap news) (S : LCg.SrcAt h₀ l vs.toArray news) (hi : IntsAre vs xs) (hsz : xs.length ≤ sizeLine)
    (turn : EnTurn prog w A h₀ L m env ifs elt a b scope cl news xs p f s) (fin : EnFin h₀ L m news (enMap p f 0 xs) s Q) :
    wpAny (model prog w) A (call (.type "enumerate") [.ref l]) (EnSrc prog w A h₀ L m env ifs elt a b scope cl Q) E s := by
  have hl := S.list F.keep N
  have hlt : l < s.heap.objs.size := by obtain ⟨_, e, _⟩ := hl; exact Heap.lt_size e
  refine call_enumerate_list hl fun h' he hit _ hk => ?_
  have fresh : ∀ c, s.heap.objs.size ≤ c → h₀.get? c = none := fun c hc => by
    cases e : h₀.get? c with
    | none => rfl
    | some o => exact absurd (Heap.lt_size (F.keep c o e)) (Nat.not_lt.mpr hc)
  have hL := F.ns.lt
  refine ⟨_, _, l, vs, xs, news, p, f, rfl, hh, he, hit, S, hi, Nat.succ_ne_self _, Nat.ne_of_lt (Nat.lt_succ_of_lt hlt), Nat.ne_of_lt hlt, ⟨fresh _ (Nat.le_succ _), fresh _ (Nat.le_refl _)⟩,
    ⟨Nat.ne_of_lt (Nat.lt_succ_of_lt hL), Nat.ne_of_lt hL⟩, fun q hq => ⟨Nat.ne_of_lt (Nat.lt_succ_of_lt (Heap.lt_size (N q hq).1)), Nat.ne_of_lt (Heap.lt_size (N q hq).1)⟩, F.keeps hk, N.grown hk, hsz, turn, fin⟩

theorem en_loop {elt target iter : Expr} {ifs : List Expr} {scope : Scope} {pos : Pos} {it acc : Value} {env : Env} {R : Result → Shared → Prop} (I : Nat → Shared → Prop)
    (turn : ∀ n s, I n s → wpAny (model prog w) A (pyNext it) (fun r s₁ => match r with
      | none => R (.ok .next) s₁
      | some v => wpAny (model prog w) A (letOwnedTupleGo target it v) (fun _ s₀ => wpAny (model prog w) A (assign target env v) (fun _ s₂ =>
          wpAny (model prog w) A (forIn ifs true fun c r => if r = true then do let ok ← isTrue c env (eval c env); pure (ForInStep.yield ok) else pure (ForInStep.yield r)) (fun ok s₃ =>
            if ok = true then wpAny (model prog w) A (eval elt env) (fun x s₄ =>
              wpAny (model prog w) A (call (.builtin "list.append") [acc, x]) (fun _ s₅ => ∃ m, m < n ∧ I m s₅) (notedBy (model prog w) A env fun e s' => R (.error e) s') s₄) (notedBy (model prog w) A env fun e s' => R (.error e) s') s₃
            else ∃ m, m < n ∧ I m s₃)
          (notedBy (model prog w) A env fun e s' => R (.error e) s') s₂) (notedBy (model prog w) A env fun e s' => R (.error e) s') s₀) (notedBy (model prog w) A env fun e s' => R (.error e) s') s₁) (notedBy (model prog w) A env fun e s' => R (.error e) s') s)
    (n : Nat) (h : I n s) : codeAny (model prog w) A (.compLoop (.ListComp elt [⟨target, iter, ifs, 0⟩] scope pos) 0 it acc env) R s := by
  refine codeAny_loop rfl I (fun n s hI => ?_) n h
  show wpAny _ A ((compTurn (.ListComp elt [⟨target, iter, ifs, 0⟩] scope pos) 0 it acc env).onRaise (fun x => do noteFrame x env; theTreesLotGoes x)) _ _ s
  refine wpAny_noted ?_
  rw [compTurn_list]
  refine wpAny_bind (wpAny_standAt (wpAny_bind (wpAny_mono (turn n s hI) (fun r s₁ h₁ => ?_) fun _ _ h' => h')))
  cases r with
  | none => exact wpAny_pure h₁
  | some v =>
    refine wpAny_bind (wpAny_mono h₁ (fun _ s₀ h₀ => ?_) fun _ _ h' => h')
    refine wpAny_bind (wpAny_mono h₀ (fun _ s₂ h₂ => wpAny_bind (wpAny_mono h₂ (fun ok s₃ h₃ => ?_) fun _ _ h' => h')) fun _ _ h' => h')
    cases ok with
    | false => exact wpAny_pure ⟨rfl, h₃⟩
    | true => exact wpAny_bind (wpAny_bind (wpAny_mono h₃ (fun x s₄ h₄ => wpAny_bind (wpAny_mono h₄ (fun _ s₅ h₅ => wpAny_pure (wpAny_pure ⟨rfl, h₅⟩)) fun _ _ h' => h')) fun _ _ h' => h'))

theorem en_comp {elt iter : Expr} {ifs : List Expr} {a b : Str} {pa pb tp : Pos} {kk : Nat} {scope : Scope} {cl : List (Str × Addr)} {pos : Pos} {Q : Value → Shared → Prop} (_F : Fr h₀ L s.heap m)
    (hclos : closureFor scope env = pure cl) (hcell : ∀ y ∈ scope.names, y.2 ≠ .cell) (hkind : scope.kind = .function)
    (hnames : ∀ y ∈ scope.names, y.2 = .local → scope.names.lookup y.1 = some .local) (hxa : scope.names.lookup a = some .local) (hxb : scope.names.lookup b = some .local) (hab : ¬ a = b)
    (h : wpAny (model prog w) A (eval iter env) (EnSrc prog w A h₀ L m env ifs elt a b scope cl Q) E s)
    (hs : ∀ x, foldedSetIterable iter env x = pure x) :
    wpAny (model prog w) A (eval (.ListComp elt [⟨.Tuple [.Name a pa, .Name b pb] kk tp, iter, ifs, 0⟩] scope pos) env) Q E s := by
  rw [eval_ListComp]
  refine wpAny_comprehension_free (use := none) rfl hs hclos hkind hnames (wpAny_mono h (fun xv s₁ h₁ => ?_) fun _ _ e => e)
  obtain ⟨e, it, l, vs, xs, news, p, f, rfl, hh, he, hit, S, hi, hei, hle, hli, ⟨he₀, hit₀⟩, ⟨hLe, hLi⟩, off, F, N, hsz, turn, fin⟩ := h₁
  have hl := S.list F.keep N
  refine wpAny_pyIter_enum he ?_
  refine wpAny_newObj_type (wpAny_newFunctionEnv hcell (by intro y hy; simp at hy) (fun h₁ hns₁ hsb₁ => ?_) hkind)
  dsimp only at hns₁ hsb₁ ⊢
  generalize hH2 : s₁.heap.push { cls := .type "list", dict := none, data := .seq ([] : List Value).toArray } = H2 at hns₁ hsb₁ ⊢
  have hC : H2.objs.size = s₁.heap.objs.size + 1 := by rw [← hH2, Heap.size_push]
  have hDC : s₁.heap.objs.size ≠ H2.objs.size := by rw [hC]; exact Nat.ne_of_lt (Nat.lt_succ_self _)
  have below : ∀ b, b < s₁.heap.objs.size → b ≠ H2.objs.size ∧ b ≠ s₁.heap.objs.size := fun b hb => ⟨by rw [hC]; exact Nat.ne_of_lt (Nat.lt_succ_of_lt hb), Nat.ne_of_lt hb⟩
  have old : ∀ b o, s₁.heap.get? b = some o → h₁.get? b = some o := fun b o e => hsb₁.extBut b o (below b (Heap.lt_size e)).1 (Heap.get?_push_of_some _ (hH2 ▸ Heap.get?_push_of_some _ e))
  have hacc : h₁.get? s₁.heap.objs.size = some (LCg.lst []) := hsb₁.extBut _ _ hDC (Heap.get?_push_of_some _ (hH2 ▸ Heap.get?_push_size _ rfl))
  have fresh₀ : ∀ c, s₁.heap.objs.size ≤ c → h₀.get? c = none := fun c hc => by
    cases e : h₀.get? c with
    | none => rfl
    | some o => exact absurd (Heap.lt_size (F.keep c o e)) (Nat.not_lt.mpr hc)
  have hD₀ : h₀.get? s₁.heap.objs.size = none := fresh₀ _ (Nat.le_refl _)
  have hC₀ : h₀.get? H2.objs.size = none := fresh₀ _ (by rw [hC]; exact Nat.le_succ _)
  have hLlt : L < s₁.heap.objs.size := F.ns.lt
  have hDL : s₁.heap.objs.size ≠ L := Ne.symm (below L hLlt).2
  have hCL : H2.objs.size ≠ L := Ne.symm (below L hLlt).1
  have helt : e < s₁.heap.objs.size := Heap.lt_size he
  have hilt : it < s₁.heap.objs.size := by obtain ⟨_, q, _⟩ := hit; exact Heap.lt_size q
  have offD : ∀ q ∈ news, q.1 ≠ s₁.heap.objs.size ∧ q.1 ≠ H2.objs.size := fun q hq => ⟨(below _ (Heap.lt_size (N q hq).1)).2, (below _ (Heap.lt_size (N q hq).1)).1⟩
  have W := WalksT.enumerate (prog := prog) (w := w) hh e it l hei hle hli vs.toArray
  have hn : vs.toArray.size = xs.length := by simp [hi.length]
  have loop : ∀ s₃ : Shared, s₃ = { s₁ with heap := h₁, toks := s₁.toks + ([] : List (Str × Value)).length } →
      codeAny (model prog w) A (.compLoop (.ListComp elt [⟨.Tuple [.Name a pa, .Name b pb] kk tp, iter, ifs, 0⟩] scope pos) 0 (.ref e) (.ref s₁.heap.objs.size) (compEnvC scope cl H2.objs.size env))
        (compPost (model prog w) A E none Q (.ref s₁.heap.objs.size) H2.objs.size) s₃ := by
    rintro s₃ rfl
    refine en_loop
      (fun k s' => ∃ h' tk i ys m', s' = { s₁ with heap := h', toks := tk } ∧ i ≤ xs.length ∧ k = xs.length + 1 - i ∧ ys.length ≤ i ∧ IntsAre ys (enMap p f 0 (xs.take i)) ∧ ((∃ old, IsEnum h' e it i old) ∧ h'.IsListIter it l i ∧ h'.IsList l vs.toArray) ∧ Fr h₀ L h' m ∧ h'.Ns H2.objs.size m' ∧
        News h₀ L h' ((s₁.heap.objs.size, LCg.lst ys) :: news)) ?_ (xs.length + 1)
      ⟨h₁, _, 0, [], _, rfl, Nat.zero_le _, rfl, Nat.le_refl _, .nil, ⟨⟨_, old _ _ he⟩, hit.at fun o q => old _ _ q, hl.at fun o q => old _ _ q⟩, F.keeps old, hns₁, fun q hq => ?_⟩
    · rintro k s' ⟨h', tk, i, ys, m', rfl, hi', rfl, hyl, hys, hst, F', hn', N'⟩
      by_cases hlt : i < xs.length
      · refine W.item i _ _ _ (by rw [hn]; exact hlt) hst fun T vals h₂ tk₂ hPt _ hT hMid hk₂ => ?_
        refine W.go _ _ _ i T _ _ _ hMid fun h₃ hst₃ hk₃ => ?_
        obtain ⟨t, v, hv, rfl⟩ := hPt
        have hv' : vs[i]? = some v := by simpa using hv
        obtain ⟨x, t', rfl, hx⟩ := hi.at i v hv'
        have up₃ : ∀ c o, c ≠ e → c ≠ it → h'.get? c = some o → h₃.get? c = some o := fun c o h1 h2 q => hk₃ c o (by simp [h1, h2]) (hk₂ c o (by simp [h1, h2]) q)
        have hT₃ : h₃.IsTuple T #[.int i t, .int x t'] := hT.at fun o q => hk₃ T o (W.apart i T _ hMid) q
        have hCe : H2.objs.size ≠ e := Ne.symm (below e helt).1
        have hCi : H2.objs.size ≠ it := Ne.symm (below it hilt).1
        refine kcp_assign (env := compEnvC scope cl H2.objs.size env) hh hT₃ (lookup_relabel_local hxa) (lookup_relabel_local hxb) (by simp [compEnvC, relabel, hkind]) (hn'.at' fun o q => up₃ _ o hCe hCi q) fun h₄ tk₄ hn₄ hs₄ => ?_
        have up : ∀ c o, c ≠ e → c ≠ it → c ≠ H2.objs.size → h'.get? c = some o → h₄.get? c = some o := fun c o h1 h2 h3 q => hs₄ c o h3 (up₃ c o h1 h2 q)
        obtain ⟨oC, heC, hoC⟩ := LCg.ns_obj hn₄
        have F₄ : Fr h₀ L h₄ m := ⟨F'.ns.at' fun o q => up _ o hLe hLi (Ne.symm hCL) q, fun c o q => up c o (fun z => by rw [z, he₀] at q; cases q) (fun z => by rw [z, hit₀] at q; cases q) (fun z => by rw [z, hC₀] at q; cases q) (F'.keep c o q), F'.above⟩
        have hst₄ : (∃ old, IsEnum h₄ e it ((i + 1 : Nat) : Int) old) ∧ h₄.IsListIter it l (i + 1) ∧ h₄.IsList l vs.toArray := by
          obtain ⟨⟨o1, q1⟩, q2, q3⟩ := hst₃
          refine ⟨⟨o1, hs₄ e _ (Ne.symm hCe) q1⟩, q2.at fun o q => hs₄ it o (Ne.symm hCi) q, ?_⟩
          exact S.list F₄.keep (news := news) (L := L) fun q hq => ⟨up _ _ (off q hq).1 (off q hq).2 (offD q hq).2 (N' q (List.mem_cons_of_mem _ hq)).1, (N' q (List.mem_cons_of_mem _ hq)).2⟩
        obtain ⟨⟨old4, he₄⟩, hit₄, hl₄⟩ := hst₄
        obtain ⟨oJ, heJ, hJ⟩ := id hit₄
        have heI : ∃ oI : Obj, h₄.get? e = some oI ∧ ∀ h : Heap, h.get? e = some oI → IsEnum h e it ((i + 1 : Nat) : Int) old4 := ⟨_, he₄, fun _ q => q⟩
        obtain ⟨oI, heI, hI⟩ := heI
        have N₄ : News h₀ L h₄ ((e, oI) :: (it, oJ) :: (H2.objs.size, oC) :: (s₁.heap.objs.size, LCg.lst ys) :: news) := fun q hq => by
          rcases List.mem_cons.mp hq with rfl | hq
          · exact ⟨heI, Ne.symm hLe, he₀⟩
          rcases List.mem_cons.mp hq with rfl | hq
          · exact ⟨heJ, Ne.symm hLi, hit₀⟩
          rcases List.mem_cons.mp hq with rfl | hq
          · exact ⟨heC, hCL, hC₀⟩
          have z := N' q hq
          refine ⟨up _ _ ?_ ?_ ?_ z.1, z.2⟩
          · rcases List.mem_cons.mp hq with rfl | hq
            · exact Ne.symm (Nat.ne_of_lt helt)
            · exact (off q hq).1
          · rcases List.mem_cons.mp hq with rfl | hq
            · exact Ne.symm (Nat.ne_of_lt hilt)
            · exact (off q hq).2
          · rcases List.mem_cons.mp hq with rfl | hq
            · exact hDC
            · exact (offD q hq).2
        have tks : (xs.take (i + 1)) = xs.take i ++ [x] := by simp [List.take_add_one, hx]
        have tkl : (xs.take i).length = i := by rw [List.length_take]; omega
        have emap : enMap p f 0 (xs.take (i + 1)) = enMap p f 0 (xs.take i) ++ (if p i x then [f i x] else []) := by
          rw [tks, enMap_snoc, tkl, Nat.zero_add]
        refine wpAny_mono (turn i x t t' e oI it oJ H2.objs.size oC s₁.heap.objs.size (LCg.lst ys) _ h₄ tk₄ _ hx hoC (by simp [hab]) (by simp) F₄ N₄) (fun ok s₃ z => ?_) fun _ _ q => q
        obtain ⟨hok, ⟨h₅, tk₅, rfl, F₅, N₅⟩, hel⟩ := z
        cases hp : p i x with
        | false =>
          rw [hp] at hok
          subst hok
          simp only [Bool.false_eq_true, if_false]
          have zI := (N₅ (e, oI) (by simp)).1
          have zJ := (N₅ (it, oJ) (by simp)).1
          have zC := (N₅ (H2.objs.size, oC) (by simp)).1
          refine ⟨xs.length + 1 - (i + 1), by omega, h₅, tk₅, i + 1, ys, _, rfl, hlt, rfl, by omega, by rw [emap, hp]; simpa using hys, ⟨⟨_, hI _ zI⟩, ⟨oJ, zJ, hJ⟩, S.list F₅.keep (news := news) (L := L) fun q hq => N₅ q (by simp [hq])⟩, F₅, hoC.ns zC, fun q hq => N₅ q ?_⟩
          rcases List.mem_cons.mp hq with rfl | hq
          · simp
          · simp [hq]
        | true =>
          rw [hp] at hok
          subst hok
          simp only [if_true]
          refine wpAny_mono (hel rfl) (fun y s₆ z => ?_) fun _ _ q => q
          obtain ⟨⟨ty, rfl⟩, h₆, tk₆, rfl, F₆, N₆⟩ := z
          have zI := (N₆ (e, oI) (by simp)).1
          have zJ := (N₆ (it, oJ) (by simp)).1
          have zC := (N₆ (H2.objs.size, oC) (by simp)).1
          have zD := (N₆ (s₁.heap.objs.size, LCg.lst ys) (by simp)).1
          refine append_at (hsz := by show ys.toArray.size ≤ sizeLine; rw [List.size_toArray]; omega) zD fun h₇ hs₇ hD₇ => ?_
          have hDe : e ≠ s₁.heap.objs.size := Nat.ne_of_lt helt
          have hDi : it ≠ s₁.heap.objs.size := Nat.ne_of_lt hilt
          have N₇ : News h₀ L h₇ news := fun q hq => ⟨hs₇.extBut _ _ (offD q hq).1 (N₆ q (by simp [hq])).1, (N₆ q (by simp [hq])).2⟩
          have F₇ : Fr h₀ L h₇ m := F₆.change hs₇ hDL hD₀
          refine ⟨xs.length + 1 - (i + 1), by omega, h₇, tk₆, i + 1, ys ++ [.int (f i x) ty], _, rfl, hlt, rfl, by rw [List.length_append, List.length_singleton]; omega, by rw [emap, hp]; simpa using hys.append (.cons (f i x) ty .nil), ⟨⟨_, hI _ (hs₇.extBut _ _ hDe zI)⟩, ⟨oJ, hs₇.extBut _ _ hDi zJ, hJ⟩, S.list F₇.keep N₇⟩, F₇, (hoC.ns zC).sameBut hs₇ (Ne.symm hDC), fun q hq => ?_⟩
          rcases List.mem_cons.mp hq with rfl | hq
          · exact ⟨hD₇.trans (congrArg some (LCg.lst_snoc ys _)), hDL, hD₀⟩
          · exact N₇ q hq
      · obtain rfl : i = xs.length := by omega
        refine W.done _ _ _ (by rw [hn]; exact hst) fun h₂ tk₂ hk₂ => ?_
        have up₂ : ∀ c o, c ≠ e → c ≠ it → h'.get? c = some o → h₂.get? c = some o := fun c o h1 h2 q => hk₂ c o (by simp [h1, h2]) q
        have F₂ : Fr h₀ L h₂ m := ⟨F'.ns.at' fun o q => up₂ _ o hLe hLi q, fun c o q => up₂ c o (fun z => by rw [z, he₀] at q; cases q) (fun z => by rw [z, hit₀] at q; cases q) (F'.keep c o q), F'.above⟩
        refine ⟨m', hn'.at' fun o q => up₂ _ o (Ne.symm (below e helt).1) (Ne.symm (below it hilt).1) q, fun h'' hs'' => ?_⟩
        rw [List.take_length] at hys
        refine fin _ h'' tk₂ ys (F₂.change hs'' hCL hC₀) (fun q hq => ?_) (fun q hq => (offD q hq).1) hys
        have z := N' q hq
        rcases List.mem_cons.mp hq with rfl | hq
        · exact ⟨hs''.extBut _ _ hDC (up₂ _ _ (Ne.symm (Nat.ne_of_lt helt)) (Ne.symm (Nat.ne_of_lt hilt)) z.1), z.2⟩
        · exact ⟨hs''.extBut _ _ (offD q hq).2 (up₂ _ _ (off q hq).1 (off q hq).2 z.1), z.2⟩
    · rcases List.mem_cons.mp hq with rfl | hq
      · exact ⟨hacc, hDL, hD₀⟩
      · exact ⟨old _ _ (N q hq).1, (N q hq).2⟩
  refine codeAny_compStart_list (loop _ rfl) (wpAny_pyIter_enum (old _ _ he) (loop _ rfl))
end
def Stop (P : Prop) : Prop := P
theorem stop_of {P : Prop} (h : Stop P) : P := h

abbrev mk (ps : List (Str × Value)) (tmp : List Str) (u m₀ : Str → Option Value) : Str → Option Value := kstB (fun z => if tmp.contains z then u z else m₀ z) ps

/-- the end of a turn: the next state's letters -/
def RevEnd {σ : Type} (h₀ : Heap) (L : Addr) (Ld : σ → Led) (ps : σ → List (Str × Value)) (tmp : List Str) (m₀ : Str → Option Value) (P : σ → Prop) (I : Addr) (oI : Obj) (s₁ : Shared) (s₂ : Shared) : Prop :=
  ∃ (c : σ) (h' : Heap) (tk : Nat) (m' : Str → Option Value) (news' : Led), s₂ = { s₁ with heap := h', toks := tk } ∧ Fr h₀ L h' m' ∧ News h₀ L h' news' ∧ (∀ q ∈ Ld c, q ∈ news') ∧ (I, oI) ∈ news' ∧ (∀ q ∈ Ld c, q.1 ≠ I) ∧ P c ∧
    (∀ p ∈ ps c, m' p.1 = some p.2) ∧ (∀ z, (∀ p ∈ ps c, z ≠ p.1) → tmp.contains z = false → m' z = m₀ z)
def RevPost {σ : Type} (h₀ : Heap) (L : Addr) (Ld : σ → Led) (ps : σ → List (Str × Value)) (tmp : List Str) (m₀ : Str → Option Value) (P : σ → Prop) (I : Addr) (oI : Obj) (s₁ : Shared) (Q : Flow → Shared → Prop) (f : Flow) (s₂ : Shared) : Prop :=
  match f with
  | .ret v => Q (.ret v) s₂
  | .brk => Q .next s₂
  | _ => RevEnd h₀ L Ld ps tmp m₀ P I oI s₁ s₂

theorem mk_fr {h₀ h : Heap} {L : Addr} {x : Str} {v : Value} {ps : List (Str × Value)} {tmp : List Str} {m₀ m₁ : Str → Option Value} (h1 : ∀ p ∈ ps, m₁ p.1 = some p.2) (h2 : ∀ z, (∀ p ∈ ps, z ≠ p.1) → tmp.contains z = false → m₁ z = m₀ z)
    (F : Fr h₀ L h (fun y => if y = x then some v else m₁ y)) : Fr h₀ L h (fun y => if y = x then some v else mk ps tmp m₁ m₀ y) :=
  kst_fr (x := x) h1 (fun z _ a b => h2 z a b) F

theorem for_rev {σ : Type} {prog : Program} {w : World} {A : Around} {E : Value → Shared → Prop} {s : Shared} {env : Env} {h₀ : Heap} {x : Str} {body : List Stmt} {Q : Flow → Shared → Prop} {l I : Addr} {vs : List Value} {xs : List Int} {m₀ : Str → Option Value} {news : Led}
    (Ld : σ → Led) (ps : σ → List (Str × Value)) (tmp : List Str) (P : Nat → σ → Prop) (c₀ : σ)
    (hh : A.handled = none) (hl : h₀.IsList l vs.toArray) (hi : IntsAre vs xs) (F : Fr h₀ env.locals s.heap m₀) (N : News h₀ env.locals s.heap news) (hI : (I, revObj l ((vs.length : Int) - 1)) ∈ news) (hL : ∀ q ∈ Ld c₀, q ∈ news) (hoff : ∀ q ∈ Ld c₀, q.1 ≠ I)
    (hk : ∀ p ∈ ps c₀, m₀ p.1 = some p.2) (hp : P 0 c₀)
    (turn : ∀ (c : σ) (i : Nat) (n : Int) t (u : Str → Option Value) h tk oI, i < xs.length → xs[xs.length - 1 - i]? = some n → P i c → (∀ q ∈ Ld c, q.1 ≠ I) →
      Fr h₀ env.locals h (fun y => if y = x then some (.int n t) else mk (ps c) tmp u m₀ y) → News h₀ env.locals h ((I, oI) :: Ld c) →
      wpAny (model prog w) A (execs body env) (RevPost h₀ env.locals Ld ps tmp m₀ (P (i + 1)) I oI { s with heap := h, toks := tk } Q) E { s with heap := h, toks := tk })
    (done : ∀ (c : σ) (u : Str → Option Value) h tk, P xs.length c → Fr h₀ env.locals h (mk (ps c) tmp u m₀) → News h₀ env.locals h (Ld c) → Q .next { s with heap := h, toks := tk }) :
    wpAny (model prog w) A (pyIter (.ref I)) (fun it s₂ => LoopAtV prog w A h₀ env x body Q E it s₂) E s := by
  have hIx := N _ hI
  obtain ⟨lo, hlo, hlc⟩ := id hl
  have hlI : l ≠ I := fun e => by rw [e, hIx.2.2] at hlo; cases hlo
  have hls : s.heap.IsList l vs.toArray := hl.at fun o e => F.keep l o e
  have hit : s.heap.IsRevIter I l ((vs.length : Int) - 1) := ⟨_, hIx.1, rfl, rfl⟩
  refine wpAny_pyIter_revIter hit ?_
  have W := Walks.listRev (prog := prog) (w := w) hh I l hlI vs.toArray
  have hlen : vs.toArray.size = xs.length := by simp [hi.length]
  rw [hlen] at W
  refine ⟨I, _, _, xs.length, _, _, m₀, Ld c₀, fun i m nx => ∃ c : σ, nx = Ld c ∧ P i c ∧ (∀ p ∈ ps c, m p.1 = some p.2) ∧ (∀ z, (∀ p ∈ ps c, z ≠ p.1) → tmp.contains z = false → m z = m₀ z), rfl, W, ?_, ?_, ?_, ⟨Nat.zero_le _, ?_, hls⟩, F, fun q hq => N q (hL q hq), ⟨c₀, rfl, hp, hk, fun _ _ _ => rfl⟩, ?_, ?_⟩
  · intro hm
    rcases List.mem_cons.mp hm with e | hm
    · exact hIx.2.1 e.symm
    · have e := List.mem_singleton.mp hm
      exact absurd (Nat.lt_of_lt_of_le (Heap.lt_size hlo) F.above) (e ▸ Nat.lt_irrefl _)
  · intro b hb
    rw [List.mem_singleton.mp hb]
    exact hIx.2.2
  · intro q hq hm
    exact hoff q hq (List.mem_singleton.mp hm)
  · have e : (xs.length : Int) - 1 - ((0 : Nat) : Int) = (vs.length : Int) - 1 := by rw [← hi.length]; omega
    rw [e]
    exact hit
  · rintro i v m₁ news₁ s₁ own ⟨hh', tk', rfl⟩ hin hPv ⟨c, rfl, hPc, h1, h2⟩ hofs hown hget hall hst F₁ N₁
    obtain ⟨it, hit', hic, hid⟩ := hst.2.1
    have hmemI := hall I (List.mem_cons_self ..) hIx.2.2 _ hit'
    have hv : vs[xs.length - 1 - i]? = some v := by simpa using hPv
    obtain ⟨n, t, rfl, hn⟩ := hi.at _ v hv
    have hofs' : ∀ q ∈ Ld c, q.1 ≠ I := fun q hq e => hofs q hq (List.mem_singleton.mpr e)
    have N₂ : News h₀ env.locals hh' ((I, it) :: Ld c) := fun q hq => by
      rcases List.mem_cons.mp hq with rfl | hq
      · exact N₁ _ (List.mem_append_left _ hmemI)
      · exact N₁ _ (List.mem_append_right _ hq)
    refine wpAny_mono (turn c i n t m₁ hh' tk' it hin hn hPc hofs' (mk_fr h1 h2 F₁) N₂) (fun f s₂ p => ?_) fun _ _ e => e
    have fin : RevEnd h₀ env.locals Ld ps tmp m₀ (P (i + 1)) I it { s with heap := hh', toks := tk' } s₂ → LoopStepU h₀ env.locals [I] own (fun m nx => ∃ c : σ, nx = Ld c ∧ P (i + 1) c ∧ (∀ p ∈ ps c, m p.1 = some p.2) ∧ (∀ z, (∀ p ∈ ps c, z ≠ p.1) → tmp.contains z = false → m z = m₀ z)) { s with heap := hh', toks := tk' } .next s₂ := by
      rintro ⟨c', h', tk, m', news', e, F', N', hsub, hmm, hno, hP', k1, k2⟩
      refine ⟨rfl, h', tk, m', Ld c', e, F', fun q hq => ?_, fun q hq hm => hno q hq (List.mem_singleton.mp hm), c', rfl, hP', k1, k2⟩
      rcases List.mem_append.mp hq with hq | hq
      · have h2' : hh'.get? q.1 = some q.2 := hget q hq
        rcases List.mem_cons.mp (hown q hq) with h1' | h1'
        · have h3 : q = (I, it) := by
            rw [h1', hit'] at h2'
            exact Prod.ext h1' (Option.some.inj h2').symm
          rw [h3]; exact N' _ hmm
        · have e1 : q.1 = l := List.mem_singleton.mp h1'
          have h4 := (N₁ q (List.mem_append_left _ hq)).2.2
          rw [e1, hlo] at h4; cases h4
      · exact N' q (hsub q hq)
    cases f with
    | ret v => exact .ret p
    | brk => exact .brk p
    | next => exact .next (fin p)
    | cont => exact .cont (fin p)
  · rintro h' tk m' news' F' N' _ ⟨c, rfl, hP', k1, k2⟩
    exact done c m' h' tk hP' (ksw_fr k1 k2 F') N'

theorem rev_end {σ : Type} {h₀ h' : Heap} {L I : Addr} {Ld : σ → Led} {ps : σ → List (Str × Value)} {tmp : List Str} {m₀ m' : Str → Option Value} {P : σ → Prop} {oI : Obj} {s₁ : Shared} {tk : Nat} {news' : Led} (c : σ)
    (F : Fr h₀ L h' m') (N : News h₀ L h' news') (hs : ∀ q ∈ Ld c, q ∈ news') (hI : (I, oI) ∈ news') (hne : ∀ q ∈ Ld c, q.1 ≠ I) (hP : P c)
    (hk : ∀ p ∈ ps c, m' p.1 = some p.2) (hr : ∀ z, (∀ p ∈ ps c, z ≠ p.1) → tmp.contains z = false → m' z = m₀ z) :
    RevEnd h₀ L Ld ps tmp m₀ P I oI s₁ { s₁ with heap := h', toks := tk } := ⟨c, h', tk, m', news', rfl, F, N, hs, hI, hne, hP, hk, hr⟩
def halt {α : Type} (t : Sem α) : Sem α := t
section
variable {M : Model} {A : Around} {E : Value → Shared → Prop} {s : Shared}
theorem halt_of {α : Type} {t : Sem α} {Q : α → Shared → Prop} (h : wpAny M A (halt t) Q E s) : wpAny M A t Q E s := h
theorem of_halt {α : Type} {t : Sem α} {Q : α → Shared → Prop} (h : wpAny M A t Q E s) : wpAny M A (halt t) Q E s := h
end
section
variable {w : World} {f : Addr} {need : Nat} {vs : List Value} {pre : Heap → Prop} {dp un : Nat} {gd : Option (List Code)} {cn : Str} {cs : Scope} {a : Addr} {ccd : Value} {cl : List (Str × Addr)} {outer : List Env} {A₀ : Around} {base h₀ : Heap} {L : Addr} {m mg mb : Str → Option Value} {mean : ExcName → Option Value} {s : Shared} {Q E : Value → Shared → Prop} {news : Led}
theorem use_L {ys : List Int} (C : Ct w f need vs pre (RetL ys)) (B : Below A₀ base outer h₀) (F : Fr h₀ L s.heap m) (X : (nn_hd.heap_39 w.params).In h₀) (T : Top nn_hd.view_39 (looseW nn_hd.view_39 []) mean mg mb h₀) (hk : cs.kind = .function) (N : News h₀ L s.heap news) (hp : pre s.heap)
    (hd : dp + need < recursionLimit) (hu : un + 8 * need < cLine)
    (h : ∀ r rv n h' tk', IntsAre rv ys → Fr h₀ L h' m → News h₀ L h' ((r, listOf (List.toArray rv) n) :: news) → (∀ q ∈ news, q.1 ≠ r) → Keeps s.heap h' → Q (.ref r) { s with heap := h', toks := tk' }) :
    wpAny (model (RowW.prog (OpenRow.toRowW (OpenLaw.row Challenge.rw_nn0251_01))) w) (ktrTop dp un gd cn cs L a ccd cl outer) (call (.ref f) vs) Q E s := by
  refine C _ _ _ _ _ _ _ _ _ _ _ _ _ _ _ _ _ s Q E B F X T hk hp hd hu ?_
  rintro r tl h' tk' k nw ⟨r', rv, n, rfl, rfl, hi⟩
  obtain ⟨e1, e2⟩ := nw _ (List.mem_singleton.mpr rfl)
  refine h r' rv n h' tk' hi (F.keeps k) (fun q hq => ?_) (fun q hq e => ?_) k
  · rcases List.mem_cons.mp hq with rfl | hq
    · refine ⟨e1, fun e => ?_, ?_⟩
      · obtain ⟨oL, _, _, hL, _⟩ := F.ns
        dsimp only at e e2
        rw [← e, e2] at hL; cases hL
      · cases e : h₀.get? r' with
        | none => rfl
        | some o => have := F.keep _ _ e; dsimp only at e2; rw [e2] at this; cases this
    · exact ⟨k _ _ (N q hq).1, (N q hq).2⟩
  · have := (N q hq).1
    dsimp only at e2
    rw [e, e2] at this; cases this
theorem use_I {y : Int} (C : Ct w f need vs pre (RetI y)) (B : Below A₀ base outer h₀) (F : Fr h₀ L s.heap m) (X : (nn_hd.heap_39 w.params).In h₀) (T : Top nn_hd.view_39 (looseW nn_hd.view_39 []) mean mg mb h₀) (hk : cs.kind = .function) (N : News h₀ L s.heap news) (hp : pre s.heap)
    (hd : dp + need < recursionLimit) (hu : un + 8 * need < cLine)
    (h : ∀ t h' tk', Fr h₀ L h' m → News h₀ L h' news → Keeps s.heap h' → Q (.int y t) { s with heap := h', toks := tk' }) :
    wpAny (model (RowW.prog (OpenRow.toRowW (OpenLaw.row Challenge.rw_nn0251_01))) w) (ktrTop dp un gd cn cs L a ccd cl outer) (call (.ref f) vs) Q E s := by
  refine C _ _ _ _ _ _ _ _ _ _ _ _ _ _ _ _ _ s Q E B F X T hk hp hd hu ?_
  rintro r tl h' tk' k _ ⟨rfl, t, rfl⟩
  exact h t h' tk' (F.keeps k) (N.grown k) k
theorem use_B {y : Bool} (C : Ct w f need vs pre (RetB y)) (B : Below A₀ base outer h₀) (F : Fr h₀ L s.heap m) (X : (nn_hd.heap_39 w.params).In h₀) (T : Top nn_hd.view_39 (looseW nn_hd.view_39 []) mean mg mb h₀) (hk : cs.kind = .function) (N : News h₀ L s.heap news) (hp : pre s.heap)
    (hd : dp + need < recursionLimit) (hu : un + 8 * need < cLine)
    (h : ∀ h' tk', Fr h₀ L h' m → News h₀ L h' news → Keeps s.heap h' → Q (.bool y) { s with heap := h', toks := tk' }) :
    wpAny (model (RowW.prog (OpenRow.toRowW (OpenLaw.row Challenge.rw_nn0251_01))) w) (ktrTop dp un gd cn cs L a ccd cl outer) (call (.ref f) vs) Q E s := by
  refine C _ _ _ _ _ _ _ _ _ _ _ _ _ _ _ _ _ s Q E B F X T hk hp hd hu ?_
  rintro r tl h' tk' k _ ⟨rfl, rfl⟩
  exact h h' tk' (F.keeps k) (N.grown k) k
theorem la_base {g h : Heap} {p : Addr} {vs : List Value} {xs : List Int} (F : Fr g L h m) (hl : g.IsList p vs.toArray) (hi : IntsAre vs xs) : LA h p xs := ⟨vs, hl.at fun o e => F.keep p o e, hi⟩
theorem la_led {g h : Heap} {p : Addr} {vs : List Value} {n : Nat} {xs : List Int} (N : News g L h news) (hm : (p, listOf vs.toArray n) ∈ news) (hi : IntsAre vs xs) : LA h p xs := ⟨vs, ⟨_, (N _ hm).1, rfl, n, rfl⟩, hi⟩
end
end NNLoops
section NNSpec
def trim (xs : List Int) : List Int := (xs.reverse.dropWhile (fun x => x == 0)).reverse
def rawAdd (xs ys : List Int) : List Int := (List.range (max xs.length ys.length)).map fun i => xs.getD i 0 + ys.getD i 0
def padd (xs ys : List Int) : List Int := trim (rawAdd xs ys)
def pneg (xs : List Int) : List Int := xs.map fun x => -x
def psub (xs ys : List Int) : List Int := padd xs (pneg ys)
def pscale (xs : List Int) (k : Int) : List Int := if k = 0 then [] else xs.map fun x => x * k
def cv : List Int → List Int → Nat → Int
  | [], _, _ => 0
  | x :: r, ys, k => x * ys.getD k 0 + (match k with | 0 => 0 | j + 1 => cv r ys j)
def pmul (xs ys : List Int) : List Int := if xs = [] ∨ ys = [] then [] else (List.range (xs.length + ys.length - 1)).map (cv xs ys)
def pe : List Int → Int → Int
  | [], _ => 0
  | x :: r, n => x + n * pe r n
def pderive (xs : List Int) : List Int := (enMap (fun _ _ => true) (fun i x => x * i) 0 xs).drop 1
def sweep (n : Int) : List Int → List Int
  | [] => []
  | x :: r => (x + n * (sweep n r).headD 0) :: sweep n r
def shiftF (n : Int) : Nat → List Int → List Int
  | 0, xs => xs
  | k + 1, xs => match sweep n xs with
    | [] => []
    | y :: r => y :: shiftF n k r
def pshift (xs : List Int) (n : Int) : List Int := shiftF n (xs.length - 1) xs
def pcomp (xs ys : List Int) : List Int := xs.reverse.foldl (fun f x => padd (pmul f ys) (trim [x])) []
def pmodl (xs : List Int) (m : Int) : List Int := trim (xs.map fun x => x.fmod m)
def pheight (xs : List Int) : Int := xs.foldl (fun a x => max a (if x < 0 then -x else x)) 0
def pgcd (xs : List Int) : Int := xs.foldl (fun g x => (Int.gcd g x : Int)) 0
def pdiv (xs : List Int) (k : Int) : List Int := xs.map fun x => x.fdiv k
def pprim (xs : List Int) : List Int := if xs = [] then [] else pdiv xs (if xs.getLastD 0 > 0 then pgcd xs else -pgcd xs)

theorem trim_snoc_zero (xs : List Int) : trim (xs ++ [0]) = trim xs := by simp [trim]
theorem trim_snoc {xs : List Int} {x : Int} (h : x ≠ 0) : trim (xs ++ [x]) = xs ++ [x] := by simp [trim, h]
theorem trim_nil : trim [] = [] := rfl

/-- the library's word for a list cut at its trailing zeros -/
theorem take_trim : ∀ (xs : List Int) (k : Nat), k ≤ xs.length → (∀ j, k < j → j ≤ xs.length → xs.getD (j - 1) 0 = 0) → (0 < k → xs.getD (k - 1) 0 ≠ 0) → xs.take k = trim xs := by
  intro xs
  induction hn : xs.length generalizing xs with
  | zero =>
    intro k hk _ _
    obtain rfl := List.eq_nil_of_length_eq_zero hn
    simp [trim_nil]
  | succ n ih =>
    intro k hk hz hl
    have hne : xs ≠ [] := by intro e; simp [e] at hn
    obtain ⟨ys, y, rfl⟩ : ∃ ys y, xs = ys ++ [y] := ⟨xs.dropLast, xs.getLast hne, (List.dropLast_concat_getLast hne).symm⟩
    have hyl : ys.length = n := by simpa using hn
    by_cases hk' : k = n + 1
    · subst hk'
      have hy : y ≠ 0 := by
        have := hl (by omega)
        simpa [List.getD_eq_getElem?_getD, hyl, List.getElem?_append_right] using this
      rw [trim_snoc hy, List.take_of_length_le (by omega)]
    · have hy : y = 0 := by
        have := hz (n + 1) (by omega) (by omega)
        simpa [List.getD_eq_getElem?_getD, hyl, List.getElem?_append_right] using this
      subst hy
      rw [trim_snoc_zero, List.take_append_of_le_length (by omega)]
      refine ih ys hyl k (by omega) (fun j h1 h2 => ?_) (fun h0 => ?_)
      · have := hz j h1 (by omega)
        simpa [List.getD_eq_getElem?_getD, List.getElem?_append_left (show j - 1 < ys.length by omega)] using this
      · have := hl h0
        simpa [List.getD_eq_getElem?_getD, List.getElem?_append_left (show k - 1 < ys.length by omega)] using this
theorem bndL {k : Int} (h : k.natAbs < 2 ^ 60) : -2 ^ 64 < k := by omega
theorem bndR {k : Int} (h : k.natAbs < 2 ^ 60) : k < 2 ^ 64 := by omega
theorem addA {k b x : Int} (h : k < 0 + (((if b > x then b else x) - 0).toNat : Int)) (h0 : 0 ≤ k) (h1 : ¬ k < x) : k < b := by split at h <;> omega
theorem addB {k x : Int} {b : Nat} (h : k < 0 + (((if (b : Int) > x then (b : Int) else x) - 0).toNat : Int)) (h2 : b < 900) (h1 : ¬ k < x) : k < 2 ^ 63 := by split at h <;> omega
end NNSpec
section
open PySem PySem.W PyProof.Rows PySem.Calls
variable {prog : Program} {M : Model} {A : Around} {E : Value → Shared → Prop} {s : Shared} {w : World} {h₀ : Heap} {env : Env} {body : List Stmt} {Q : Flow → Shared → Prop} {I : Addr}
theorem halt_call {a : Addr} {vs : List Value} {Q : Value → Shared → Prop} (h : wpAny M A (halt (call (.ref a) vs)) Q E s) : wpAny M A (call (.ref a) vs) Q E s := h
theorem halt_loop {x : Str} (h : wpAny M A (halt (pyIter (.ref I))) (fun it s₂ => LoopAtV prog w A h₀ env x body Q E it s₂) E s) : wpAny M A (pyIter (.ref I)) (fun it s₂ => LoopAtV prog w A h₀ env x body Q E it s₂) E s := h
theorem halt_pair {x y : Str} (h : wpAny M A (halt (pyIter (.ref I))) (fun it s₂ => PairAt3 prog w A h₀ env x y body Q E it s₂) E s) : wpAny M A (pyIter (.ref I)) (fun it s₂ => PairAt3 prog w A h₀ env x y body Q E it s₂) E s := h
theorem halt_turns {t : Expr} (h : wpAny M A (halt (pyIter (.ref I))) (fun it s₂ => TurnsAt prog w A h₀ env t body Q E it s₂) E s) : wpAny M A (pyIter (.ref I)) (fun it s₂ => TurnsAt prog w A h₀ env t body Q E it s₂) E s := h
end
local macro_rules | `(tactic| omega) => `(tactic| first | omega -splitDisjunctions | (refine Int.le_antisymm ?_ ?_ <;> omega -splitDisjunctions) | (refine Nat.le_antisymm ?_ ?_ <;> omega -splitDisjunctions) | omega +splitDisjunctions)
section NNc1
open PySem PySem.W PyProof.Rows PySem.Calls PySem.Spec

theorem trim_walk {xs : List Int} {k : Int} (h1 : k ≤ xs.length) (h2 : min (xs.length : Int) 0 ≤ k) (h3 : ∀ j : Int, k < j → j ≤ xs.length → (if 0 < j then if (xs.getD (j - 1).toNat 0 == 0) = true then true else false else false) = true)
    (h4 : (if 0 < k then if (xs.getD (k - 1).toNat 0 == 0) = true then true else false else false) = false) : xs.take k.toNat = trim xs := by
  refine take_trim xs k.toNat (by omega) (fun j a b => ?_) (fun a => ?_)
  · have := h3 j (by omega) (by omega)
    have e : ((j : Int) - 1).toNat = j - 1 := by omega
    rw [e] at this
    split at this
    · split at this
      · simp_all
      · cases this
    · cases this
  · have e : (k - 1).toNat = k.toNat - 1 := by omega
    rw [e] at h4
    rw [if_pos (by omega)] at h4
    intro q
    rw [q] at h4
    simp at h4

theorem c_ztrim (w : World) (p : Addr) (xs : List Int) : Ct w 35 1 [.ref p] (fun h => LA h p xs ∧ xs.length < 1000) (RetL (trim xs)) := by
  w_top off
  unfold Ct
  k_fill
  intro dp un gd cn cs a ccd cl outer A₀ base h₀ L m mg mb mean s Q E B F X T hk hp hd hu hret
  k_dflt refine' ro_enter ?k1 ?k2 ?k3 ?k5 ?kA ?kF ?kK ?k6 ?k7 ?k8 ?k9 ?kB ?kR ?_ ?c2 ?c3 ?c4 ?c5
  (case kA => exact rfl)
  (case kF => exact rfl)
  (case kK => assumption)
  (case k1 => k_asm)
  (case k2 => k_asm)
  (case k3 => k_asm)
  (case k5 => k_asm)
  (case k6 => k_is)
  (case k7 => k_is)
  (case k8 => ktr_room)
  (case k9 => k_dflt exact BindsTo.of_eq rfl)
  (case c5 => k_dflt decide)
  (case kB => k_dflt exact locs rfl)
  (case c2 => exact rfl)
  (case c3 => exact rfl)
  (case c4 => exact rfl)
  (case kR => assumption)
  intro g' L' h' F' N' B' X' T' kG'
  (try dsimp only)
  obtain ⟨h1, h2⟩ := hp
  have h1 := h1.keeps kG'
  obtain ⟨vs, hL, hI⟩ := h1
  (try k_fold)
  k_steps
  all_goals (try dsimp only)
  exact end_list (by k_asm) (by k_asm) (by k_mem) (by k_asm) (trim_walk (by k_asm) (by k_asm) (by k_asm) (by k_asm))

theorem c_zdegree (w : World) (p : Addr) (xs : List Int) : Ct w 42 1 [.ref p] (fun h => LA h p xs ∧ xs.length < 1000) (RetI (xs.length - 1)) := by
  w_top off
  unfold Ct
  k_fill
  intro dp un gd cn cs a ccd cl outer A₀ base h₀ L m mg mb mean s Q E B F X T hk hp hd hu hret
  k_dflt refine' ro_enter ?k1 ?k2 ?k3 ?k5 ?kA ?kF ?kK ?k6 ?k7 ?k8 ?k9 ?kB ?kR ?_ ?c2 ?c3 ?c4 ?c5
  (case kA => exact rfl)
  (case kF => exact rfl)
  (case kK => assumption)
  (case k1 => k_asm)
  (case k2 => k_asm)
  (case k3 => k_asm)
  (case k5 => k_asm)
  (case k6 => k_is)
  (case k7 => k_is)
  (case k8 => ktr_room)
  (case k9 => k_dflt exact BindsTo.of_eq rfl)
  (case c5 => k_dflt decide)
  (case kB => k_dflt exact locs rfl)
  (case c2 => exact rfl)
  (case c3 => exact rfl)
  (case c4 => exact rfl)
  (case kR => assumption)
  intro g' L' h' F' N' B' X' T' kG'
  (try dsimp only)
  obtain ⟨h1, h2⟩ := hp
  have h1 := h1.keeps kG'
  obtain ⟨vs, hL, hI⟩ := h1
  (try k_fold)
  k_steps
  all_goals (try dsimp only)
  exact end_int (by k_asm) rfl

theorem lead_walk {xs : List Int} (h : ¬ xs = []) : xs.getD (-1 + (xs.length : Int)).toNat 0 = xs.getLastD 0 := by
  obtain ⟨ys, y, rfl⟩ : ∃ ys y, xs = ys ++ [y] := ⟨xs.dropLast, xs.getLast h, (List.dropLast_concat_getLast h).symm⟩
  have e : (-1 + ((ys ++ [y]).length : Int)).toNat = ys.length := by simp; omega
  rw [e]
  simp [List.getD_eq_getElem?_getD, List.getLastD_eq_getLast?]

theorem c_zlead (w : World) (p : Addr) (xs : List Int) : Ct w 49 1 [.ref p] (fun h => LA h p xs ∧ xs.length < 1000) (RetI (xs.getLastD 0)) := by
  w_top off
  unfold Ct
  k_fill
  intro dp un gd cn cs a ccd cl outer A₀ base h₀ L m mg mb mean s Q E B F X T hk hp hd hu hret
  k_dflt refine' ro_enter ?k1 ?k2 ?k3 ?k5 ?kA ?kF ?kK ?k6 ?k7 ?k8 ?k9 ?kB ?kR ?_ ?c2 ?c3 ?c4 ?c5
  (case kA => exact rfl)
  (case kF => exact rfl)
  (case kK => assumption)
  (case k1 => k_asm)
  (case k2 => k_asm)
  (case k3 => k_asm)
  (case k5 => k_asm)
  (case k6 => k_is)
  (case k7 => k_is)
  (case k8 => ktr_room)
  (case k9 => k_dflt exact BindsTo.of_eq rfl)
  (case c5 => k_dflt decide)
  (case kB => k_dflt exact locs rfl)
  (case c2 => exact rfl)
  (case c3 => exact rfl)
  (case c4 => exact rfl)
  (case kR => assumption)
  intro g' L' h' F' N' B' X' T' kG'
  (try dsimp only)
  obtain ⟨h1, h2⟩ := hp
  have h1 := h1.keeps kG'
  obtain ⟨vs, hL, hI⟩ := h1
  (try k_fold)
  k_steps
  all_goals (try dsimp only)
  · exact end_int (by k_asm) (lead_walk (by intro e; subst e; simp_all))
  · refine end_int (by k_asm) ?_
    have e : xs = [] := List.eq_nil_of_length_eq_zero (by omega)
    subst e
    rfl

theorem c_zneg (w : World) (p : Addr) (xs : List Int) : Ct w 59 1 [.ref p] (fun h => LA h p xs ∧ xs.length < 1000) (RetL (pneg xs)) := by
  w_top off
  unfold Ct
  k_fill
  intro dp un gd cn cs a ccd cl outer A₀ base h₀ L m mg mb mean s Q E B F X T hk hp hd hu hret
  k_dflt refine' ro_enter ?k1 ?k2 ?k3 ?k5 ?kA ?kF ?kK ?k6 ?k7 ?k8 ?k9 ?kB ?kR ?_ ?c2 ?c3 ?c4 ?c5
  (case kA => exact rfl)
  (case kF => exact rfl)
  (case kK => assumption)
  (case k1 => k_asm)
  (case k2 => k_asm)
  (case k3 => k_asm)
  (case k5 => k_asm)
  (case k6 => k_is)
  (case k7 => k_is)
  (case k8 => ktr_room)
  (case k9 => k_dflt exact BindsTo.of_eq rfl)
  (case c5 => k_dflt decide)
  (case kB => k_dflt exact locs rfl)
  (case c2 => exact rfl)
  (case c3 => exact rfl)
  (case c4 => exact rfl)
  (case kR => assumption)
  intro g' L' h' F' N' B' X' T' kG'
  (try dsimp only)
  obtain ⟨h1, h2⟩ := hp
  have h1 := h1.keeps kG'
  obtain ⟨vs, hL, hI⟩ := h1
  (try k_fold)
  k_steps
  all_goals (try dsimp only)
  exact end_plain (by k_asm) (by k_asm) (by k_asm) (by k_asm) (by rw [PyProof.Rows.filter_all]; simp [pneg, Function.comp_def])
end NNc1
local macro_rules | `(tactic| walk_at "call ref") => `(tactic| (k_here; with_reducible refine halt_call ?_))
section NNc2
local macro_rules | `(tactic| omega) => `(tactic| first | omega -splitDisjunctions | with_reducible exact addA (by assumption) (by assumption) (by assumption) | with_reducible exact addB (by assumption) (by assumption) (by assumption))
open PySem PySem.W PyProof.Rows PySem.Calls PySem.Spec

theorem add_walk (xs ys : List Int) : (List.map (fun k' : Int => if k' < xs.length ∧ k' < ys.length then xs.getD k'.toNat 0 + ys.getD k'.toNat 0 else if k' < xs.length ∧ ¬ k' < ys.length then xs.getD k'.toNat 0 + 0 else 0 + ys.getD k'.toNat 0)
    (rangeKs 0 ((if (ys.length : Int) > xs.length then (ys.length : Int) else xs.length) - 0).toNat)) = rawAdd xs ys := by
  have e : ((if (ys.length : Int) > xs.length then (ys.length : Int) else xs.length) - 0).toNat = max xs.length ys.length := by split <;> omega
  rw [e]
  unfold rangeKs rawAdd
  rw [List.map_map]
  refine List.map_congr_left fun i hi => ?_
  have hi' := List.mem_range.mp hi
  simp only [Function.comp, Int.zero_add, Int.toNat_natCast]
  by_cases h1 : i < xs.length <;> by_cases h2 : i < ys.length
  · simp [h1, h2]
  · simp [h1, h2]
  · simp [h1, h2]
  · omega

theorem c_zadd (w : World) (p : Addr) (xs : List Int) (q : Addr) (bs : List Int) : Ct w 54 2 [.ref p, .ref q] (fun h => LA h p xs ∧ LA h q bs ∧ xs.length < 900 ∧ bs.length < 900) (RetL (padd xs bs)) := by
  w_top off
  unfold Ct
  k_fill
  intro dp un gd cn cs a ccd cl outer A₀ base h₀ L m mg mb mean s Q E B F X T hk hp hd hu hret
  k_dflt refine' ro_enterC ?k1 ?k2 ?k3 ?k5 ?kA ?kF ?kK ?k6 ?k7 ?k8 ?k9 ?kB ?kD ?kR ?_ ?c2 ?c3 ?c4
  (case kA => exact rfl)
  (case kF => exact rfl)
  (case kK => assumption)
  (case k1 => k_asm)
  (case k2 => k_asm)
  (case k3 => k_asm)
  (case k5 => k_asm)
  (case k6 => k_is)
  (case k7 => k_is)
  (case k8 => ktr_room)
  (case k9 => k_dflt exact BindsTo.of_eq rfl)
  (case kB => k_dflt exact rfl)
  (case kD => decide +kernel)
  (case c2 => exact rfl)
  (case c3 => exact rfl)
  (case c4 => exact rfl)
  (case kR => assumption)
  intro g' L' h' tk' cells' F' N' Y' B' X' T' kG'
  k_cells Y'
  (try simp only [List.nil_append, List.cons_append] at N')
  (try dsimp only)
  obtain ⟨h1, h2, h3, h4⟩ := hp
  have h1 := h1.keeps kG'
  have h2 := h2.keeps kG'
  obtain ⟨vs, hL, hI⟩ := h1
  obtain ⟨vs2, hL2, hI2⟩ := h2
  (try k_fold)
  k_steps
  all_goals (try dsimp only)
  refine of_halt ?_
  k_dflt refine' use_L (c_ztrim w _ (rawAdd xs bs)) ?k1 ?k2 ?k3 ?k4 ?kK ?kN ?kp ?kd ?ku ?_
  (case k1 => k_asm)
  (case k2 => k_asm)
  (case k3 => k_asm)
  (case k4 => k_asm)
  (case kK => first | exact rfl | assumption)
  (case kN => k_asm)
  (case kp => exact ⟨⟨_, News.isList (by k_asm) (by k_mem), by rw [← add_walk]; k_asm⟩, by simp [rawAdd]; omega⟩)
  (case kd => ktr_room)
  (case ku => ktr_units)
  intro r rv n h9 tk9 hi9 F9 N9 l9 k9
  (try dsimp only)
  (try k_fold)
  k_steps
  all_goals (try dsimp only)
  exact end_list (by k_asm) (by k_asm) (by k_mem) (by k_asm) rfl
end NNc2
section NNc3
open PySem PySem.W PyProof.Rows PySem.Calls PySem.Spec

theorem c_zsub (w : World) (p : Addr) (xs : List Int) (q : Addr) (bs : List Int) : Ct w 66 3 [.ref p, .ref q] (fun h => LA h p xs ∧ LA h q bs ∧ xs.length < 900 ∧ bs.length < 900) (RetL (psub xs bs)) := by
  w_top off
  unfold Ct
  k_fill
  intro dp un gd cn cs a ccd cl outer A₀ base h₀ L m mg mb mean s Q E B F X T hk hp hd hu hret
  k_dflt refine' ro_enter ?k1 ?k2 ?k3 ?k5 ?kA ?kF ?kK ?k6 ?k7 ?k8 ?k9 ?kB ?kR ?_ ?c2 ?c3 ?c4 ?c5
  (case kA => exact rfl)
  (case kF => exact rfl)
  (case kK => assumption)
  (case k1 => k_asm)
  (case k2 => k_asm)
  (case k3 => k_asm)
  (case k5 => k_asm)
  (case k6 => k_is)
  (case k7 => k_is)
  (case k8 => ktr_room)
  (case k9 => k_dflt exact BindsTo.of_eq rfl)
  (case c5 => k_dflt decide)
  (case kB => k_dflt exact locs rfl)
  (case c2 => exact rfl)
  (case c3 => exact rfl)
  (case c4 => exact rfl)
  (case kR => assumption)
  intro g' L' h' F' N' B' X' T' kG'
  (try dsimp only)
  obtain ⟨h1, h2, h3, h4⟩ := hp
  have h1 := h1.keeps kG'
  have h2 := h2.keeps kG'
  obtain ⟨vs, hL, hI⟩ := h1
  obtain ⟨vs2, hL2, hI2⟩ := h2
  (try k_fold)
  k_steps
  all_goals (try dsimp only)
  refine of_halt ?_
  k_dflt refine' use_L (c_zneg w _ bs) ?k1 ?k2 ?k3 ?k4 ?kK ?kN ?kp ?kd ?ku ?_
  (case k1 => k_asm)
  (case k2 => k_asm)
  (case k3 => k_asm)
  (case k4 => k_asm)
  (case kK => first | exact rfl | assumption)
  (case kN => k_asm)
  (case kp => exact ⟨la_base (by k_asm) hL2 hI2, by omega⟩)
  (case kd => ktr_room)
  (case ku => ktr_units)
  intro r rv n h9 tk9 hi9 F9 N9 l9 k9
  (try dsimp only)
  (try k_fold)
  k_steps
  all_goals (try dsimp only)
  refine of_halt ?_
  k_dflt refine' use_L (c_zadd w _ xs _ (pneg bs)) ?k1 ?k2 ?k3 ?k4 ?kK ?kN ?kp ?kd ?ku ?_
  (case k1 => k_asm)
  (case k2 => k_asm)
  (case k3 => k_asm)
  (case k4 => k_asm)
  (case kK => first | exact rfl | assumption)
  (case kN => k_asm)
  (case kp => exact ⟨la_base (by k_asm) hL hI, la_led (by k_asm) (by k_mem) hi9, h3, by simpa [pneg] using h4⟩)
  (case kd => ktr_room)
  (case ku => ktr_units)
  intro r2 rv2 n2 h8 tk8 hi8 F8 N8 l8 k8
  (try dsimp only)
  (try k_fold)
  k_steps
  all_goals (try dsimp only)
  exact end_list (by k_asm) (by k_asm) (by k_mem) hi8 rfl

theorem c_zscale (w : World) (p : Addr) (xs : List Int) (k : Int) (t : Tok) : Ct w 71 1 [.ref p, .int k t] (fun h => LA h p xs ∧ xs.length < 900 ∧ k.natAbs < 2 ^ 60) (RetL (pscale xs k)) := by
  w_top off
  unfold Ct
  k_fill
  intro dp un gd cn cs a ccd cl outer A₀ base h₀ L m mg mb mean s Q E B F X T hk hp hd hu hret
  k_dflt refine' ro_enterC ?k1 ?k2 ?k3 ?k5 ?kA ?kF ?kK ?k6 ?k7 ?k8 ?k9 ?kB ?kD ?kR ?_ ?c2 ?c3 ?c4
  (case kA => exact rfl)
  (case kF => exact rfl)
  (case kK => assumption)
  (case k1 => k_asm)
  (case k2 => k_asm)
  (case k3 => k_asm)
  (case k5 => k_asm)
  (case k6 => k_is)
  (case k7 => k_is)
  (case k8 => ktr_room)
  (case k9 => k_dflt exact BindsTo.of_eq rfl)
  (case kB => k_dflt exact rfl)
  (case kD => decide +kernel)
  (case c2 => exact rfl)
  (case c3 => exact rfl)
  (case c4 => exact rfl)
  (case kR => assumption)
  intro g' L' h' tk' cells' F' N' Y' B' X' T' kG'
  k_cells Y'
  (try simp only [List.nil_append, List.cons_append] at N')
  (try dsimp only)
  obtain ⟨h1, h2, h3⟩ := hp
  have h1 := h1.keeps kG'
  have hb1 := bndL h3
  have hb2 := bndR h3
  obtain ⟨vs, hL, hI⟩ := h1
  (try k_fold)
  k_steps
  all_goals (try dsimp only)
  · exact end_list (by k_asm) (by k_asm) (by k_mem) (by k_asm) (by unfold pscale; rw [if_neg (by k_asm)])
  · exact end_list (vs := []) (by k_asm) (by k_asm) (by k_mem) .nil (by unfold pscale; rw [if_pos (by k_asm)])

theorem c_zdivided (w : World) (p : Addr) (xs : List Int) (k : Int) (t : Tok) : Ct w 97 1 [.ref p, .int k t] (fun h => LA h p xs ∧ xs.length < 900 ∧ k ≠ 0 ∧ k.natAbs < 1073741824) (RetL (pdiv xs k)) := by
  w_top off
  unfold Ct
  k_fill
  intro dp un gd cn cs a ccd cl outer A₀ base h₀ L m mg mb mean s Q E B F X T hk hp hd hu hret
  k_dflt refine' ro_enterC ?k1 ?k2 ?k3 ?k5 ?kA ?kF ?kK ?k6 ?k7 ?k8 ?k9 ?kB ?kD ?kR ?_ ?c2 ?c3 ?c4
  (case kA => exact rfl)
  (case kF => exact rfl)
  (case kK => assumption)
  (case k1 => k_asm)
  (case k2 => k_asm)
  (case k3 => k_asm)
  (case k5 => k_asm)
  (case k6 => k_is)
  (case k7 => k_is)
  (case k8 => ktr_room)
  (case k9 => k_dflt exact BindsTo.of_eq rfl)
  (case kB => k_dflt exact rfl)
  (case kD => decide +kernel)
  (case c2 => exact rfl)
  (case c3 => exact rfl)
  (case c4 => exact rfl)
  (case kR => assumption)
  intro g' L' h' tk' cells' F' N' Y' B' X' T' kG'
  k_cells Y'
  (try simp only [List.nil_append, List.cons_append] at N')
  (try dsimp only)
  obtain ⟨h1, h2, h3, h4⟩ := hp
  have h1 := h1.keeps kG'
  obtain ⟨vs, hL, hI⟩ := h1
  (try k_fold)
  k_steps
  all_goals (try dsimp only)
  exact end_list (by k_asm) (by k_asm) (by k_mem) (by k_asm) rfl

theorem c_zmod (w : World) (p : Addr) (xs : List Int) (k : Int) (t : Tok) : Ct w 142 2 [.ref p, .int k t] (fun h => LA h p xs ∧ xs.length < 900 ∧ k ≠ 0) (RetL (pmodl xs k)) := by
  w_top off
  unfold Ct
  k_fill
  intro dp un gd cn cs a ccd cl outer A₀ base h₀ L m mg mb mean s Q E B F X T hk hp hd hu hret
  k_dflt refine' ro_enterC ?k1 ?k2 ?k3 ?k5 ?kA ?kF ?kK ?k6 ?k7 ?k8 ?k9 ?kB ?kD ?kR ?_ ?c2 ?c3 ?c4
  (case kA => exact rfl)
  (case kF => exact rfl)
  (case kK => assumption)
  (case k1 => k_asm)
  (case k2 => k_asm)
  (case k3 => k_asm)
  (case k5 => k_asm)
  (case k6 => k_is)
  (case k7 => k_is)
  (case k8 => ktr_room)
  (case k9 => k_dflt exact BindsTo.of_eq rfl)
  (case kB => k_dflt exact rfl)
  (case kD => decide +kernel)
  (case c2 => exact rfl)
  (case c3 => exact rfl)
  (case c4 => exact rfl)
  (case kR => assumption)
  intro g' L' h' tk' cells' F' N' Y' B' X' T' kG'
  k_cells Y'
  (try simp only [List.nil_append, List.cons_append] at N')
  (try dsimp only)
  obtain ⟨h1, h2, h3⟩ := hp
  have h1 := h1.keeps kG'
  obtain ⟨vs, hL, hI⟩ := h1
  (try k_fold)
  k_steps
  all_goals (try dsimp only)
  refine of_halt ?_
  k_dflt refine' use_L (c_ztrim w _ (xs.map fun x => x.fmod k)) ?k1 ?k2 ?k3 ?k4 ?kK ?kN ?kp ?kd ?ku ?_
  (case k1 => k_asm)
  (case k2 => k_asm)
  (case k3 => k_asm)
  (case k4 => k_asm)
  (case kK => first | exact rfl | assumption)
  (case kN => k_asm)
  (case kp => exact ⟨la_led (by k_asm) (by k_mem) (by k_asm), by simp; omega⟩)
  (case kd => ktr_room)
  (case ku => ktr_units)
  intro r rv n h9 tk9 hi9 F9 N9 l9 k9
  (try dsimp only)
  (try k_fold)
  k_steps
  all_goals (try dsimp only)
  exact end_list (by k_asm) (by k_asm) (by k_mem) hi9 rfl
end NNc3
section NNRev
open PySem PySem.W PyProof.Rows PySem.Calls PySem.Spec
theorem rev_no_len : typeLookup (.type "list_reverseiterator") "__len__" = pure none := by rw [typeLookup_type, builtinLookup_eq_fast]; kernel_rfl
theorem rev_hint : typeLookup (.type "list_reverseiterator") "__length_hint__" = pure (some (.builtin "list_reverseiterator.__length_hint__")) := by rw [typeLookup_type, builtinLookup_eq_fast]; kernel_rfl
section
variable {prog : Program} {w : World} {A : Around} {E : Value → Shared → Prop} {s : Shared}
theorem hint_rev {it l : Addr} {i : Int} {Q : Bool → Shared → Prop} (hit : s.heap.IsRevIter it l i) (h : Q false s) : wpAny (model prog w) A (Builtin.List.listLengthHint (.ref it)) Q E s := by
  have hT : s.TypeIs (.ref it) "list_reverseiterator" := hit.typeIs
  unfold Builtin.List.listLengthHint
  refine wpAny_bind (wpAny_specialOf hT rev_no_len ?_)
  refine wpAny_ite_split (fun hab => absurd hab (by decide)) (fun _ => ?_)
  refine wpAny_ite_split (fun hab => absurd hab (by decide)) (fun _ => ?_)
  refine wpAny_bind (wpAny_specialOf hT rev_hint ?_)
  generalize hid : ("list_reverseiterator.__length_hint__" : String) = id0
  wp_delta
  rw [show splitId id0 = some ("list_reverseiterator", "__length_hint__") from by subst hid; decide +kernel]
  subst hid
  refine wpAny_bind (wpAny_isInstance (T := "list_reverseiterator") (b := true) hT (by rw [isSubtype_type]; kernel_rfl) ?_)
  refine wpAny_ite_split (fun hab => absurd hab (by decide)) (fun _ => ?_)
  refine wpAny_ite_split (fun _ => ?_) (fun hab => absurd ?_ hab)
  · refine wpAny_ite_split (fun hab => absurd hab (by decide +kernel)) (fun _ => wpAny_pure h)
  · decide +kernel

theorem extend_rev {R : Result → Shared → Prop} {it l : Addr} {items : Array Value} (hh : A.handled = none) (hit : s.heap.IsRevIter it l ((items.size : Int) - 1)) (hl : s.heap.IsList l items) (hli : l ≠ it) (hlen : items.size ≤ sizeLine) (S : Addr) (hSi : S ≠ it) (hSl : S ≠ l) (res : Value) (c₀ : Nat)
    (hS : s.heap.get? S = some { cls := .type "list", data := .seq #[] c₀ })
    (hR : ∀ h' tk acc' c', (∀ b o, b ≠ S → b ≠ it → s.heap.get? b = some o → h'.get? b = some o) → h'.get? S = some { cls := .type "list", dict := none, data := .seq acc' c', slots := #[] } →
      ItemsOf (fun i v => items[items.size - 1 - i]? = some v) acc' items.size → R (.ok (.ret res)) { s with heap := h', toks := tk }) :
    wpAny (model prog w) A.in1 (Builtin.List.listExtendWith (.ref S) (.ref it) res)
      (fun fin s' => match fin with | .done f => R (.ok f) s' | .again c' => c'.quiet = true ∧ codeAny (model prog w) A c' R s') (fun e s' => R (.error e) s') s := by
  have hSf : S ∉ [it, l] := by simp [hSi, hSl]
  have W := (Walks.listRev (prog := prog) (w := w) (A := A.in1) hh it l hli items).toS
  unfold Builtin.List.listExtendWith
  refine wpAny_bind (wpAny_typeOf (T := "list_reverseiterator") hit.typeIs ?_)
  have h1 : Builtin.List.listSameRef (.ref S) (.ref it) = false := by simp [Builtin.List.listSameRef, hSi]
  have h2 : (Value.type "list_reverseiterator" == Value.type "list") = false := by decide
  have h3 : (Value.type "list_reverseiterator" == Value.type "tuple") = false := by decide
  simp only [h1, h2, h3, Bool.or_false, Bool.false_eq_true, if_false]
  refine wpAny_bind (wpAny_pyIter_revIter hit ?_)
  refine wpAny_bind (wpAny_holding (hint_rev hit ?_))
  refine wpAny_ite_split (fun hab => absurd hab (by decide)) (fun _ => ?_)
  refine wpAny_pure ⟨plainId_quiet F.plain_extend_loop _, ?_⟩
  refine codeAny_extend_loopS W hlen S hSf res items.size 0 _ #[] c₀ rfl (Nat.zero_le _) ⟨Nat.zero_le _, by simpa using hit, hl⟩ hS (ItemsOf.nil _) fun s' acc' c' hm hS' hacc => ?_
  rw [PySem.Moved.eq_with hm]
  refine hR s'.heap s'.toks acc' c' (fun b o hb hb2 e => hm.heap b o (by simp [hb, hb2]) e) hS' hacc

theorem init_rev {R : Result → Shared → Prop} {it l : Addr} {items : Array Value} (hh : A.handled = none) (hit : s.heap.IsRevIter it l ((items.size : Int) - 1)) (hl : s.heap.IsList l items) (hli : l ≠ it) (hlen : items.size ≤ sizeLine) (S : Addr) (hSi : S ≠ it) (hSl : S ≠ l)
    (hS : s.heap.get? S = some { cls := .type "list", data := .seq #[] })
    (hR : ∀ h' tk acc' c', (∀ b o, b ≠ S → b ≠ it → s.heap.get? b = some o → h'.get? b = some o) → h'.get? S = some { cls := .type "list", dict := none, data := .seq acc' c', slots := #[] } →
      ItemsOf (fun i v => items[items.size - 1 - i]? = some v) acc' items.size → R (.ok (.ret .none)) { s with heap := h', toks := tk }) :
    wpAny (model prog w) A.in1 (Builtin.«list.__init__» ⟨[.ref S, .ref it], []⟩)
      (fun fin s' => match fin with | .done f => R (.ok f) s' | .again c' => c'.quiet = true ∧ codeAny (model prog w) A c' R s') (fun e s' => R (.error e) s') s := by
  show wpAny _ _ (do let old ← Builtin.List.listItems (.ref S); Builtin.List.listUpdate (.ref S) (fun _ => #[]); letGo old.toList.reverse; Builtin.List.listExtendWith (.ref S) (.ref it) .none) _ _ s
  refine wpAny_bind ?_
  unfold Builtin.List.listItems
  refine wpAny_bind (wpAny_seqItems hS rfl (wpAny_pure ?_))
  show wpAny _ _ (updateSeq S (fun _ => #[]) >>= fun _ => letGo (#[] : Array Value).toList.reverse >>= fun _ => Builtin.List.listExtendWith (.ref S) (.ref it) .none) _ _ s
  refine wpAny_bind (wpAny_updateSeq hS rfl ?_)
  have hS₂ := Heap.get?_update_self (Obj.mapSeq (fun _ => (#[] : Array Value))) hS rfl
  have oth : ∀ b o, b ≠ S → s.heap.get? b = some o → (s.heap.update S (Obj.mapSeq (fun _ => (#[] : Array Value)))).get? b = some o :=
    fun b o hb e => (Heap.get?_update_other _ _ (Ne.symm hb)).trans e
  refine wpAny_bind (wpAny_letGo ?_)
  refine extend_rev hh (hit.at fun o e => oth it o (Ne.symm hSi) e) (hl.at fun o e => oth l o (Ne.symm hSl) e) hli hlen S hSi hSl .none _ hS₂ fun h' tk acc' c' hk hS' hacc => ?_
  exact hR h' tk acc' c' (fun b o hb hb2 e => hk b o hb hb2 (oth b o hb e)) hS' hacc

theorem call_list_rev {Q : Value → Shared → Prop} {it l : Addr} {items : Array Value} (hh : A.handled = none) (hit : s.heap.IsRevIter it l ((items.size : Int) - 1)) (hl : s.heap.IsList l items) (hli : l ≠ it) (hlen : items.size ≤ sizeLine)
    (hQ : ∀ h' tk acc' c', (∀ b o, b ≠ it → s.heap.get? b = some o → h'.get? b = some o) →
      h'.get? s.heap.objs.size = some { cls := .type "list", dict := none, data := .seq acc' c', slots := #[] } → ItemsOf (fun i v => items[items.size - 1 - i]? = some v) acc' items.size → Q (.ref s.heap.objs.size) { s with heap := h', toks := tk }) :
    wpAny (model prog w) A (call (.type "list") [.ref it]) Q E s := by
  have hilt : it < s.heap.objs.size := by obtain ⟨_, e, _⟩ := hit; exact Heap.lt_size e
  have hllt : l < s.heap.objs.size := by obtain ⟨_, e, _⟩ := hl; exact Heap.lt_size e
  refine callType_codes (Q₁ := fun obj s₁ => obj = .ref s.heap.objs.size ∧ s₁ = { s with heap := s.heap.push { cls := .type "list", data := .seq #[] } }) F.called_list (F.typeCall_list_1 _) F.entry_list_init
    (code_list_new _ ⟨rfl, rfl⟩) fun obj s₁ h₁ => ?_
  obtain ⟨rfl, rfl⟩ := h₁
  have hS : (s.heap.push { cls := .type "list", data := .seq #[] }).get? s.heap.objs.size = some { cls := .type "list", data := .seq #[] } := Heap.get?_push_size _ rfl
  refine ⟨⟨_, hS, rfl⟩, F.args_list_init_2 _ _, init_rev (A := A.in1) hh (hit.at fun o e => Heap.get?_push_of_some _ e) (hl.at fun o e => Heap.get?_push_of_some _ e) hli hlen _ (Ne.symm (Nat.ne_of_lt hilt)) (Ne.symm (Nat.ne_of_lt hllt)) hS fun h' tk acc' c' hk hS' hacc => ?_⟩
  exact ⟨rfl, hQ h' tk acc' c' (fun b o hb e => hk b o (Nat.ne_of_lt (Heap.lt_size e)) hb (Heap.get?_push_of_some _ e)) hS' hacc⟩

theorem items_rev {vs : List Value} {acc : Array Value} (h : ItemsOf (fun i v => vs.toArray[vs.toArray.size - 1 - i]? = some v) acc vs.toArray.size) : acc.toList = vs.reverse := by
  obtain ⟨h1, h2⟩ := h
  refine List.ext_getElem? fun i => ?_
  by_cases hi : i < vs.length
  · have hs : i < acc.size := by simpa [h1] using hi
    have := h2 i acc[i] (Array.getElem?_eq_getElem hs)
    rw [List.getElem?_reverse hi, Array.getElem?_toList, Array.getElem?_eq_getElem hs]
    simpa using this.symm
  · rw [List.getElem?_eq_none (by simp [h1]; omega), List.getElem?_eq_none (by simp; omega)]

theorem list_of_rev {Q : Value → Shared → Prop} {g : Heap} {L it l : Addr} {vs : List Value} {xs : List Int} {m : Str → Option Value} {news : Led} (hh : A.handled = none) (hl : g.IsList l vs.toArray) (hi : IntsAre vs xs) (F : Fr g L s.heap m) (N : News g L s.heap ((it, revObj l ((vs.length : Int) - 1)) :: news)) (hoff : ∀ q ∈ news, q.1 ≠ it) (hlen : vs.length ≤ sizeLine)
    (h : ∀ r rv n h' tk', IntsAre rv xs.reverse → Fr g L h' m → News g L h' ((r, listOf (List.toArray rv) n) :: news) → (∀ q ∈ news, q.1 ≠ r) → Q (.ref r) { s with heap := h', toks := tk' }) :
    wpAny (model prog w) A (call (.type "list") [.ref it]) Q E s := by
  have hIx := N _ (List.mem_cons_self ..)
  obtain ⟨lo, hlo, hlc⟩ := id hl
  have hlI : l ≠ it := fun e => by rw [e, hIx.2.2] at hlo; cases hlo
  have hls : s.heap.IsList l vs.toArray := hl.at fun o e => F.keep l o e
  refine call_list_rev hh (items := vs.toArray) ⟨_, hIx.1, rfl, by simp [revObj]⟩ hls hlI (by simpa using hlen) fun h' tk acc' c' hk hS' hacc => ?_
  have e := items_rev hacc
  have e' : acc' = vs.reverse.toArray := by rw [← e]
  subst e'
  have fresh : g.get? s.heap.objs.size = none := by
    cases e : g.get? s.heap.objs.size with
    | none => rfl
    | some o => exact absurd (Heap.lt_size (F.keep _ o e)) (Nat.lt_irrefl _)
  have hLI : L ≠ it := fun e => hIx.2.1 e.symm
  refine h _ vs.reverse c' h' tk hi.reverse ⟨F.ns.at' fun o e => hk _ o hLI e, fun b o e => hk b o (fun q => by rw [q, hIx.2.2] at e; cases e) (F.keep b o e), F.above⟩ (fun q hq => ?_) fun q hq => Nat.ne_of_lt (Heap.lt_size (N q (List.mem_cons_of_mem _ hq)).1)
  rcases List.mem_cons.mp hq with rfl | hq
  · exact ⟨hS', Ne.symm (Nat.ne_of_lt F.ns.lt), fresh⟩
  · have z := N q (List.mem_cons_of_mem _ hq)
    exact ⟨hk _ _ (hoff q hq) z.1, z.2⟩
end
end NNRev
section NNc4
local macro_rules | `(tactic| walk_at "call type:list") => `(tactic| (k_here; (with_reducible show wpAny _ _ (call (Value.type _) [Value.ref _]) _ _ _); refine halt_of ?_))
open PySem PySem.W PyProof.Rows PySem.Calls PySem.Spec

theorem c_zreversed (w : World) (p : Addr) (xs : List Int) : Ct w 130 2 [.ref p] (fun h => LA h p xs ∧ xs.length < 900) (RetL (trim xs.reverse)) := by
  w_top off
  unfold Ct
  k_fill
  intro dp un gd cn cs a ccd cl outer A₀ base h₀ L m mg mb mean s Q E B F X T hk hp hd hu hret
  k_dflt refine' ro_enter ?k1 ?k2 ?k3 ?k5 ?kA ?kF ?kK ?k6 ?k7 ?k8 ?k9 ?kB ?kR ?_ ?c2 ?c3 ?c4 ?c5
  (case kA => exact rfl)
  (case kF => exact rfl)
  (case kK => assumption)
  (case k1 => k_asm)
  (case k2 => k_asm)
  (case k3 => k_asm)
  (case k5 => k_asm)
  (case k6 => k_is)
  (case k7 => k_is)
  (case k8 => ktr_room)
  (case k9 => k_dflt exact BindsTo.of_eq rfl)
  (case c5 => k_dflt decide)
  (case kB => k_dflt exact locs rfl)
  (case c2 => exact rfl)
  (case c3 => exact rfl)
  (case c4 => exact rfl)
  (case kR => assumption)
  intro g' L' h' F' N' B' X' T' kG'
  (try dsimp only)
  obtain ⟨h1, h3⟩ := hp
  have h1 := h1.keeps kG'
  obtain ⟨vs, hL, hI⟩ := h1
  (try k_fold)
  k_steps
  all_goals (try dsimp only)
  refine of_halt ?_
  k_dflt (refine list_of_rev rfl hL hI (by k_asm) (by k_asm) (by intro q hq; cases hq) (by rw [hI.length, sizeLine_eq]; omega) ?_)
  intro r rv n h9 tk9 hi9 F9 N9 l9
  (try dsimp only)
  (try k_fold)
  k_steps
  all_goals (try dsimp only)
  refine of_halt ?_
  k_dflt refine' use_L (c_ztrim w _ xs.reverse) ?k1 ?k2 ?k3 ?k4 ?kK ?kN ?kp ?kd ?ku ?_
  (case k1 => k_asm)
  (case k2 => k_asm)
  (case k3 => k_asm)
  (case k4 => k_asm)
  (case kK => first | exact rfl | assumption)
  (case kN => k_asm)
  (case kp => exact ⟨la_led (by k_asm) (by k_mem) hi9, by simp; omega⟩)
  (case kd => ktr_room)
  (case ku => ktr_units)
  intro r2 rv2 n2 h8 tk8 hi8 F8 N8 l8 k8
  (try dsimp only)
  (try k_fold)
  k_steps
  all_goals (try dsimp only)
  exact end_list (by k_asm) (by k_asm) (by k_mem) hi8 rfl
end NNc4
local macro_rules | `(tactic| walk_at "nn pad") => `(tactic| fail)
local macro_rules | `(tactic| walk_at "nn pad") => `(tactic| fail)
section NNEnum
open PySem PySem.W PyProof.Rows PySem.Calls PySem.Spec
def EnumEnd {σ : Type} (h₀ : Heap) (L : Addr) (Ld : σ → Led) (ps : σ → List (Str × Value)) (tmp : List Str) (m₀ : Str → Option Value) (P : σ → Prop) (own : Led) (s₁ s₂ : Shared) : Prop :=
  ∃ (c : σ) (h' : Heap) (tk : Nat) (m' : Str → Option Value) (news' : Led), s₂ = { s₁ with heap := h', toks := tk } ∧ Fr h₀ L h' m' ∧ News h₀ L h' news' ∧ (∀ q ∈ Ld c, q ∈ news') ∧ (∀ q ∈ own, q ∈ news') ∧ P c ∧
    (∀ p ∈ ps c, m' p.1 = some p.2) ∧ (∀ z, (∀ p ∈ ps c, z ≠ p.1) → tmp.contains z = false → m' z = m₀ z)
def EnumPost {σ : Type} (h₀ : Heap) (L : Addr) (Ld : σ → Led) (ps : σ → List (Str × Value)) (tmp : List Str) (m₀ : Str → Option Value) (P : σ → Prop) (own : Led) (s₁ : Shared) (Q : Flow → Shared → Prop) (f : Flow) (s₂ : Shared) : Prop :=
  match f with
  | .ret v => Q (.ret v) s₂
  | .brk => Q .next s₂
  | _ => EnumEnd h₀ L Ld ps tmp m₀ P own s₁ s₂
theorem enum_end {σ : Type} {h₀ h' : Heap} {L : Addr} {Ld : σ → Led} {ps : σ → List (Str × Value)} {tmp : List Str} {m₀ m' : Str → Option Value} {P : σ → Prop} {own : Led} {s₁ : Shared} {tk : Nat} {news' : Led} (c : σ)
    (F : Fr h₀ L h' m') (N : News h₀ L h' news') (hs : ∀ q ∈ Ld c, q ∈ news') (ho : ∀ q ∈ own, q ∈ news') (hP : P c)
    (hk : ∀ p ∈ ps c, m' p.1 = some p.2) (hr : ∀ z, (∀ p ∈ ps c, z ≠ p.1) → tmp.contains z = false → m' z = m₀ z) :
    EnumEnd h₀ L Ld ps tmp m₀ P own s₁ { s₁ with heap := h', toks := tk } := ⟨c, h', tk, m', news', rfl, F, N, hs, ho, hP, hk, hr⟩

theorem for_enum {σ : Type} {prog : Program} {w : World} {A : Around} {E : Value → Shared → Prop} {s : Shared} {env : Env} {h₀ : Heap} {L : Addr} {xi xc : Str} {body : List Stmt} {Q : Flow → Shared → Prop} {xv : Value} {xs : List Int} {m₀ : Str → Option Value} {news : Led}
    (S : PairSrcL prog w A E h₀ L ItemKind.int xs xv s m₀ news) (hL : env.locals = L)
    (Ld : σ → Led) (ps : σ → List (Str × Value)) (tmp : List Str) (P : Nat → σ → Prop) (c₀ : σ)
    (h0 : Ld c₀ = news) (hadr : ∀ c, (Ld c).map (·.1) = news.map (·.1)) (hk : ∀ p ∈ ps c₀, m₀ p.1 = some p.2) (hp : P 0 c₀)
    (turn : ∀ (c : σ) (i : Nat) (n : Int) (t t' : Tok) (u : Str → Option Value) h tk own, xs[i]? = some n → P i c → OwnOff own ((Ld c).map (·.1)) →
      Fr h₀ L h (fun y => if y = xc then some (.int n t') else if y = xi then some (.int i t) else mk (ps c) tmp u m₀ y) → News h₀ L h (Ld c ++ own) →
      wpAny (model prog w) A (execs body env) (EnumPost h₀ L Ld ps tmp m₀ (P (i + 1)) own { s with heap := h, toks := tk } Q) E { s with heap := h, toks := tk })
    (done : ∀ (c : σ) (u : Str → Option Value) h tk, P xs.length c → Fr h₀ L h (mk (ps c) tmp u m₀) → News h₀ L h (Ld c) → Q .next { s with heap := h, toks := tk }) :
    wpAny (model prog w) A (pyIter xv) (fun it s₂ => PairAt3 prog w A h₀ env xi xc body Q E it s₂) E s := by
  subst hL
  refine S.at env rfl xi xc body Q (fun i m nx => ∃ c : σ, nx = Ld c ∧ P i c ∧ (∀ p ∈ ps c, m p.1 = some p.2) ∧ (∀ z, (∀ p ∈ ps c, z ≠ p.1) → tmp.contains z = false → m z = m₀ z)) ⟨c₀, h0.symm, hp, hk, fun _ _ _ => rfl⟩ ?_ ?_
  · rintro i n t v m₁ news₁ s₁ own ⟨hh', tk', rfl⟩ hx hv ⟨c, rfl, hPc, h1, h2⟩ hmap hown F₁ N₁
    obtain ⟨t', rfl⟩ := ItemKind.int_is hv
    have hoff : OwnOff own ((Ld c).map (·.1)) := fun p hp b hb => by
      rw [hadr c] at hb
      obtain ⟨q, hq, rfl⟩ := List.mem_map.mp hb
      exact hown p hp q hq
    have em : m₁ = mk (ps c) tmp m₁ m₀ := by
      funext y
      refine (kstB_eq h1 fun hn => ?_).symm
      show (if tmp.contains y = true then m₁ y else m₀ y) = m₁ y
      cases h3 : tmp.contains y with
      | true => simp
      | false => simp only [Bool.false_eq_true, if_false]; exact (h2 y hn h3).symm
    rw [em] at F₁
    have N₂ : News h₀ env.locals hh' (Ld c ++ own) := fun p hp => N₁ p ((List.mem_append.mp hp).elim (fun h => List.mem_append.mpr (.inr h)) fun h => List.mem_append.mpr (.inl h))
    refine wpAny_mono (turn c i n t t' m₁ hh' tk' own hx hPc hoff F₁ N₂) (fun f s₂ p => ?_) fun _ _ e => e
    have fin : EnumEnd h₀ env.locals Ld ps tmp m₀ (P (i + 1)) own { s with heap := hh', toks := tk' } s₂ → LoopStep2 h₀ env.locals own (Ld c) (fun m nx => ∃ c : σ, nx = Ld c ∧ P (i + 1) c ∧ (∀ p ∈ ps c, m p.1 = some p.2) ∧ (∀ z, (∀ p ∈ ps c, z ≠ p.1) → tmp.contains z = false → m z = m₀ z)) { s with heap := hh', toks := tk' } .next s₂ := by
      rintro ⟨c', h', tk, m', news', e, F', N', hsub, hown', hP', k1, k2⟩
      exact ⟨rfl, h', tk, m', Ld c', e, F', fun p hp => N' p ((List.mem_append.mp hp).elim (hown' p) (hsub p)), (hadr c').trans (hadr c).symm, c', rfl, hP', k1, k2⟩
    cases f with
    | ret v => exact p
    | brk => exact p
    | next => exact fin p
    | cont => exact fin p
  · rintro h' tk m' news' F' N' _ ⟨c, rfl, hP', k1, k2⟩
    exact done c m' h' tk hP' (ksw_fr k1 k2 F') N'

def EL (P : List Int → Prop) (c : List Value × Nat × List Int) : Prop := IntsAre c.1 c.2.2 ∧ P c.2.2
def LdL (D : Addr) (rest : Led) (c : List Value × Nat × List Int) : Led := (D, listOf (List.toArray c.1) c.2.1) :: rest
def NoPs (_ : List Value × Nat × List Int) : List (Str × Value) := []

theorem for_enumL {prog : Program} {w : World} {A : Around} {E : Value → Shared → Prop} {s : Shared} {env : Env} {h₀ : Heap} {L D : Addr} {xi xc : Str} {body : List Stmt} {Q : Flow → Shared → Prop} {xv : Value} {xs : List Int} {m₀ : Str → Option Value} {rest : Led} {vf : List Value} {nf : Nat} {fs : List Int}
    (S : PairSrcL prog w A E h₀ L ItemKind.int xs xv s m₀ ((D, listOf (List.toArray vf) nf) :: rest)) (hL : env.locals = L) (hf : IntsAre vf fs) (hrest : ∀ q ∈ rest, q.1 ≠ D) (tmp : List Str) (P : Nat → List Int → Prop) (hp : P 0 fs)
    (turn : ∀ (i : Nat) (n : Int) (t t' : Tok) (u : Str → Option Value) h tk own (va : List Value) (k : Nat) (as : List Int), xs[i]? = some n → IntsAre va as → P i as → (∀ q ∈ rest ++ own, q.1 ≠ D) →
      Fr h₀ L h (fun y => if y = xc then some (.int n t') else if y = xi then some (.int i t) else mk [] tmp u m₀ y) → News h₀ L h ((D, listOf (List.toArray va) k) :: (rest ++ own)) →
      wpAny (model prog w) A (execs body env) (EnumPost h₀ L (LdL D rest) NoPs tmp m₀ (EL (P (i + 1))) own { s with heap := h, toks := tk } Q) E { s with heap := h, toks := tk })
    (done : ∀ (va : List Value) (k : Nat) (as : List Int) (u : Str → Option Value) h tk, IntsAre va as → P xs.length as → Fr h₀ L h (mk [] tmp u m₀) → News h₀ L h ((D, listOf (List.toArray va) k) :: rest) → Q .next { s with heap := h, toks := tk }) :
    wpAny (model prog w) A (pyIter xv) (fun it s₂ => PairAt3 prog w A h₀ env xi xc body Q E it s₂) E s := by
  refine for_enum S hL (LdL D rest) NoPs tmp (fun i => EL (P i)) (vf, nf, fs) rfl (fun _ => rfl) (fun p hp => nomatch hp) ⟨hf, hp⟩ ?_ ?_
  · rintro ⟨va, k, as⟩ i n t t' u h tk own hx ⟨hi, hP⟩ hoff F N
    exact turn i n t t' u h tk own va k as hx hi hP (fun q hq => (List.mem_append.mp hq).elim (hrest q) fun h => hoff q h D (List.mem_cons_self ..)) F N
  · rintro ⟨va, k, as⟩ u h tk ⟨hi, hP⟩ F N
    exact done va k as u h tk hi hP F N
theorem enumL_end {h₀ h' : Heap} {L D : Addr} {rest own tl : Led} {tmp : List Str} {m₀ m' : Str → Option Value} {P : List Int → Prop} {s₁ : Shared} {tk : Nat} {va : List Value} {k : Nat} {as : List Int}
    (F : Fr h₀ L h' m') (N : News h₀ L h' ((D, listOf (List.toArray va) k) :: tl)) (hs : ∀ q ∈ rest ++ own, q ∈ tl) (hi : IntsAre va as) (hP : P as) (hr : ∀ z, tmp.contains z = false → m' z = m₀ z) :
    EnumEnd h₀ L (LdL D rest) NoPs tmp m₀ (EL P) own s₁ { s₁ with heap := h', toks := tk } :=
  enum_end (va, k, as) F N (fun q hq => by
    rcases List.mem_cons.mp hq with rfl | hq
    · exact List.mem_cons_self ..
    · exact List.mem_cons_of_mem _ (hs q (List.mem_append_left _ hq))) (fun q hq => List.mem_cons_of_mem _ (hs q (List.mem_append_right _ hq))) ⟨hi, hP⟩ (fun p hp => nomatch hp) (fun z _ h => hr z h)
end NNEnum
section NNMul
theorem cv_snoc : ∀ (xs : List Int) (x : Int) (bs : List Int) (k : Nat), cv (xs ++ [x]) bs k = cv xs bs k + (if xs.length ≤ k then x * bs.getD (k - xs.length) 0 else 0)
  | [], x, bs, k => by cases k <;> simp [cv]
  | y :: r, x, bs, 0 => by simp [cv]
  | y :: r, x, bs, j + 1 => by
    have ih := cv_snoc r x bs j
    simp only [List.cons_append, cv, ih, List.length_cons, Nat.add_le_add_iff_right]
    rw [show j + 1 - (r.length + 1) = j - r.length from by omega, ← Int.add_assoc]
theorem cv_take {xs : List Int} {i : Nat} {x : Int} (h : xs[i]? = some x) (bs : List Int) (k : Nat) : cv (xs.take (i + 1)) bs k = cv (xs.take i) bs k + (if i ≤ k then x * bs.getD (k - i) 0 else 0) := by
  have hi := (List.getElem?_eq_some_iff.mp h).1
  have e : xs.take (i + 1) = xs.take i ++ [x] := by simp [List.take_add_one, h]
  rw [e, cv_snoc, List.length_take, Nat.min_eq_left (by omega)]
def mulO (xs bs : List Int) (N i : Nat) : List Int := (List.range N).map (cv (xs.take i) bs)
def mulI (xs bs : List Int) (N i : Nat) (x : Int) (j : Nat) : List Int := (List.range N).map fun k => cv (xs.take i) bs k + (if i ≤ k ∧ k - i < j then x * bs.getD (k - i) 0 else 0)
theorem mul_start (xs bs : List Int) (N : Nat) : List.replicate N (0 : Int) = mulO xs bs N 0 := by
  refine List.ext_getElem? fun k => ?_
  simp only [mulO, List.getElem?_replicate, List.getElem?_map, List.take_zero]
  by_cases h : k < N
  · simp [h, cv]
  · simp [h]
theorem mulO_len (xs bs : List Int) (N i : Nat) : (mulO xs bs N i).length = N := by simp [mulO]
theorem mulI_len (xs bs : List Int) (N i : Nat) (x : Int) (j : Nat) : (mulI xs bs N i x j).length = N := by simp [mulI]
theorem mulI_zero (xs bs : List Int) (N i : Nat) (x : Int) : mulO xs bs N i = mulI xs bs N i x 0 := by simp [mulO, mulI]
theorem mulI_end {xs : List Int} {i : Nat} {x : Int} (h : xs[i]? = some x) (bs : List Int) (N : Nat) : mulI xs bs N i x bs.length = mulO xs bs N (i + 1) := by
  refine List.map_congr_left fun k _ => ?_
  rw [cv_take h]
  by_cases h1 : i ≤ k
  · by_cases h2 : k - i < bs.length
    · simp [h1, h2]
    · have : bs.getD (k - i) 0 = 0 := by rw [List.getD_eq_getElem?_getD, List.getElem?_eq_none (by omega)]; rfl
      simp [h1, h2]
  · simp [h1]
theorem mulO_skip {xs : List Int} {i : Nat} (h : xs[i]? = some 0) (bs : List Int) (N : Nat) : mulO xs bs N i = mulO xs bs N (i + 1) := by
  refine List.map_congr_left fun k _ => ?_
  rw [cv_take h]
  simp
theorem mulI_get (xs bs : List Int) (N i : Nat) (x : Int) (j : Nat) (h : i + j < N) : (mulI xs bs N i x j).getD (i + j) 0 = cv (xs.take i) bs (i + j) := by
  simp [mulI, List.getD_eq_getElem?_getD, h]
theorem mulI_set {xs bs : List Int} {N i : Nat} {x y : Int} {j : Nat} (hy : bs[j]? = some y) (h : i + j < N) : (mulI xs bs N i x j).set (i + j) ((mulI xs bs N i x j).getD (i + j) 0 + x * y) = mulI xs bs N i x (j + 1) := by
  rw [mulI_get _ _ _ _ _ _ h]
  refine List.ext_getElem? fun k => ?_
  rw [List.getElem?_set]
  by_cases hk : i + j = k
  · subst hk
    rw [if_pos rfl, mulI_len, if_pos h]
    simp [mulI, h, hy]
  · rw [if_neg hk]
    by_cases h3 : k < N
    · simp only [mulI, List.getElem?_map, List.getElem?_range h3, Option.map_some]
      congr 2
      by_cases h4 : i ≤ k ∧ k - i < j
      · rw [if_pos h4, if_pos ⟨h4.1, by omega⟩]
      · rw [if_neg h4, if_neg (by omega)]
    · simp [mulI, h3]
end NNMul
local macro_rules | `(tactic| walk_at "pyIter ref") => `(tactic| (k_here; with_reducible first | refine halt_loop ?_ | refine halt_pair ?_ | refine halt_turns ?_))
section NNc7
local macro_rules | `(tactic| mul_fits) => `(tactic| assumption)
local macro_rules | `(tactic| k_upd) => `(tactic| exact Upd.head (by with_reducible assumption))
open PySem PySem.W PyProof.Rows PySem.Calls PySem.Spec

theorem mul_ok {x y : Int} (h : x.natAbs < 2 ^ 60 ∨ y.natAbs < 2 ^ 60) : IntMulOk x y := by
  rcases h with h | h
  · exact IntMulOk.of_left (PySem.intBits_le_64 (by omega) (by omega))
  · exact IntMulOk.of_right (PySem.intBits_le_64 (by omega) (by omega))

theorem rep_ints (n : Nat) (t : Tok) : IntsAre (List.replicate n [Value.int 0 t]).flatten (List.replicate n (0 : Int)) := by
  induction n with
  | zero => exact .nil
  | succ n ih => simp only [List.replicate_succ, List.flatten_cons]; exact .cons 0 t ih

theorem c_zmul (w : World) (p : Addr) (xs : List Int) (q : Addr) (bs : List Int) : Ct w 78 1 [.ref p, .ref q] (fun h => LA h p xs ∧ LA h q bs ∧ xs.length < 400 ∧ bs.length < 400 ∧ ((∀ x ∈ xs, x.natAbs < 2 ^ 60) ∨ (∀ x ∈ bs, x.natAbs < 2 ^ 60))) (RetL (pmul xs bs)) := by
  w_top off
  unfold Ct
  k_fill
  intro dp un gd cn cs a ccd cl outer A₀ base h₀ L m mg mb mean s Q E B F X T hk hp hd hu hret
  k_dflt refine' ro_enter ?k1 ?k2 ?k3 ?k5 ?kA ?kF ?kK ?k6 ?k7 ?k8 ?k9 ?kB ?kR ?_ ?c2 ?c3 ?c4 ?c5
  (case kA => exact rfl)
  (case kF => exact rfl)
  (case kK => assumption)
  (case k1 => k_asm)
  (case k2 => k_asm)
  (case k3 => k_asm)
  (case k5 => k_asm)
  (case k6 => k_is)
  (case k7 => k_is)
  (case k8 => ktr_room)
  (case k9 => k_dflt exact BindsTo.of_eq rfl)
  (case c5 => k_dflt decide)
  (case kB => k_dflt exact locs rfl)
  (case c2 => exact rfl)
  (case c3 => exact rfl)
  (case c4 => exact rfl)
  (case kR => assumption)
  intro g' L' h' F' N' B' X' T' kG'
  (try dsimp only)
  obtain ⟨h1, h2, h3, h4, h5⟩ := hp
  have h1 := h1.keeps kG'
  have h2 := h2.keeps kG'
  obtain ⟨vs, hL, hI⟩ := h1
  obtain ⟨vs2, hL2, hI2⟩ := h2
  (try k_fold)
  k_steps
  all_goals (try dsimp only)
  · refine end_list (vs := []) (by k_asm) (by k_asm) (by k_mem) .nil ?_
    have e : xs = [] := List.eq_nil_of_length_eq_zero (by omega)
    simp [pmul, e]
  · refine end_list (vs := []) (by k_asm) (by k_asm) (by k_mem) .nil ?_
    have e : bs = [] := List.eq_nil_of_length_eq_zero (by omega)
    simp [pmul, e]
  · refine of_halt ?_
    have hx0 : xs ≠ [] := by intro e; subst e; simp_all
    have hb0 : bs ≠ [] := by intro e; subst e; simp_all
    have hx1 := List.length_pos_iff.mpr hx0
    have hb1 := List.length_pos_iff.mpr hb0
    have hN : ((xs.length : Int) + bs.length - 1).toNat = xs.length + bs.length - 1 := by omega
    k_dflt refine' for_enumL (by k_asm) rfl (rep_ints _ _) (List.forall_mem_singleton.mpr (Nat.ne_of_lt (by k_asm))) [Str.ofString "one", Str.ofString "left", Str.ofString "other", Str.ofString "right"] (fun i as => as = mulO xs bs (xs.length + bs.length - 1) i) ?hp ?turn ?done
    case hp => rw [hN]; exact mul_start xs bs _
    case done =>
      intro va k as u h tk hi hP F9 N9
      (try dsimp only)
      (try k_fold)
      k_steps
      all_goals (try dsimp only)
      refine end_list (by k_asm) (by k_asm) (by k_mem) hi ?_
      rw [hP]
      simp [pmul, hx0, hb0, mulO]
    case turn =>
      intro i x t t' u h tk own va k as hx hi hP hoff F9 N9
      have hi9 := (List.getElem?_eq_some_iff.mp hx).1
      have hl9 : as.length = xs.length + bs.length - 1 := by rw [hP, mulO_len]
      (try dsimp only)
      (try k_fold)
      k_steps
      all_goals (try dsimp only)
      · refine of_halt ?_
        k_dflt refine' for_enumL (by k_asm) rfl hi hoff [Str.ofString "other", Str.ofString "right"] (fun j as => as = mulI xs bs (xs.length + bs.length - 1) i x j) ?hp ?turn ?done
        case hp => rw [hP]; exact mulI_zero ..
        case turn =>
          intro j y t2 t3 u2 h2 tk2 own2 va2 k2 as2 hy hi2 hP2 hoff2 F8 N8
          have hj9 := (List.getElem?_eq_some_iff.mp hy).1
          have hl8 : as2.length = xs.length + bs.length - 1 := by rw [hP2, mulI_len]
          have hm9 : IntMulOk x y := mul_ok <| h5.imp (fun h => h x (List.mem_of_getElem? hx)) (fun h => h y (List.mem_of_getElem? hy))
          (try dsimp only)
          (try k_fold)
          k_steps
          all_goals (try dsimp only)
          k_dflt exact enumL_end (by k_asm) (by k_asm) (fun q hq => hq) (by k_asm) (by rw [hP2, show ((i : Int) + (j : Int)).toNat = i + j by omega]; exact mulI_set hy (by omega)) (by intro z9 b9; simp only [List.contains_cons, List.contains_nil, Bool.or_false, Bool.or_eq_false_iff, beq_eq_false_iff_ne, ne_eq] at b9; simp [mk, kstB, b9])
        case done =>
          intro va2 k2 as2 u2 h2 tk2 hi2 hP2 F8 N8
          (try dsimp only)
          (try k_fold)
          k_steps
          all_goals (try dsimp only)
          k_dflt exact enumL_end (by k_asm) (by k_asm) (fun q hq => hq) hi2 (by rw [hP2]; exact mulI_end hx bs _) (by intro z9 b9; simp only [List.contains_cons, List.contains_nil, Bool.or_false, Bool.or_eq_false_iff, beq_eq_false_iff_ne, ne_eq] at b9; simp [mk, kstB, b9])
      · k_dflt exact enumL_end (by k_asm) (by k_asm) (fun q hq => hq) hi (by rw [hP]; exact mulO_skip (by rw [hx, (show x = 0 by k_asm)]) bs _) (by intro z9 b9; simp only [List.contains_cons, List.contains_nil, Bool.or_false, Bool.or_eq_false_iff, beq_eq_false_iff_ne, ne_eq] at b9; simp [mk, kstB, b9])
end NNc7
section NNRange
open PySem PySem.W PyProof.Rows PySem.Calls PySem.Spec
section
variable {prog : Program} {w : World} {A : Around} {E : Value → Shared → Prop} {s : Shared} {env : Env} {h₀ : Heap} {L D : Addr} {x : Str} {body : List Stmt} {Q : Flow → Shared → Prop} {m₀ : Str → Option Value} {rest : Led} {vf : List Value} {nf : Nat} {fs : List Int}

theorem enum_inv {P : List Int → Prop} {Pk : List Int → (List Value × Nat × List Int) → Prop} {pre : List Int} {own : Led} {tmp : List Str} {s₁ s₂ : Shared} (hP : ∀ c, P c.2.2 → Pk pre c)
    (h : EnumEnd h₀ L (LdL D rest) NoPs tmp m₀ (EL P) own s₁ s₂) : InvEndN h₀ L (KstS (LdL D rest) NoPs (fun c => IntsAre c.1 c.2.2) x tmp m₀ Pk pre) own (D :: rest.map (·.1)) s₁ s₂ := by
  obtain ⟨c, h', tk, m', news', rfl, F, N, hs, ho, ⟨hi, hp⟩, _, hr⟩ := h
  exact InvEndN.intro F N ⟨c, rfl, hi, (fun p hp => by cases hp), fun z _ a b => hr z a b, hP c hp⟩ rfl hs ho
theorem enum_invP {P : List Int → Prop} {Pk : List Int → (List Value × Nat × List Int) → Prop} {pre : List Int} {own : Led} {tmp : List Str} {s₁ s₂ : Shared} {f : Flow} (hP : ∀ c, P c.2.2 → Pk pre c)
    (h : EnumPost h₀ L (LdL D rest) NoPs tmp m₀ (EL P) own s₁ Q f s₂) : InvPostN h₀ L (KstS (LdL D rest) NoPs (fun c => IntsAre c.1 c.2.2) x tmp m₀ Pk pre) own (D :: rest.map (·.1)) s₁ Q f s₂ := by
  cases f with
  | ret v => exact h
  | brk => exact h
  | next => exact enum_inv hP h
  | cont => exact enum_inv hP h
theorem mk_out {tmp : List Str} {u : Str → Option Value} (hx : tmp.contains x = true) : (fun y => if y = x then u y else mk [] tmp u m₀ y) = mk [] tmp u m₀ := by
  funext y
  by_cases h : y = x
  · subst h
    rw [if_pos rfl]
    show _ = if tmp.contains y = true then u y else m₀ y
    rw [if_pos hx]
  · rw [if_neg h]
theorem off_all {own : Led} (hrest : ∀ q ∈ rest, q.1 ≠ D) (hoff : OwnOff own (D :: rest.map (·.1))) : ∀ q ∈ rest ++ own, q.1 ≠ D :=
  fun q hq => (List.mem_append.mp hq).elim (hrest q) fun h => hoff q h D (List.mem_cons_self ..)

theorem for_rangeL {r : Addr} {a₀ b₀ : Int} {t₀ u₀ v₀ : Tok} {n : Nat} (hL : env.locals = L) (hh : A.handled = none) (hr : IsRange s.heap r a₀ b₀ 1 t₀ u₀ v₀) (hsmall : Builtin.Range.small a₀ b₀ 1 = true) (hn : Builtin.Range.rangeSize a₀ b₀ 1 = (n : Int))
    (F : Fr h₀ L s.heap m₀) (N : News h₀ L s.heap ((D, listOf (List.toArray vf) nf) :: rest)) (hf : IntsAre vf fs) (hrest : ∀ q ∈ rest, q.1 ≠ D) (tmp : List Str) (hx : tmp.contains x = true) (P : Nat → List Int → Prop) (hp : P 0 fs)
    (turn : ∀ (i : Nat) (k : Int) (t : Tok) (u : Str → Option Value) h tk own (va : List Value) (kk : Nat) (as : List Int), k = a₀ + (i : Int) → i < n → IntsAre va as → P i as → (∀ q ∈ rest ++ own, q.1 ≠ D) →
      Fr h₀ L h (fun y => if y = x then some (.int k t) else mk [] tmp u m₀ y) → News h₀ L h ((D, listOf (List.toArray va) kk) :: (rest ++ own)) →
      wpAny (model prog w) A (execs body env) (EnumPost h₀ L (LdL D rest) NoPs tmp m₀ (EL (P (i + 1))) own { s with heap := h, toks := tk } Q) E { s with heap := h, toks := tk })
    (done : ∀ (va : List Value) (k : Nat) (as : List Int) (u : Str → Option Value) h tk, IntsAre va as → P n as → Fr h₀ L h (mk [] tmp u m₀) → News h₀ L h ((D, listOf (List.toArray va) k) :: rest) → Q .next { s with heap := h, toks := tk }) :
    wpAny (model prog w) A (pyIter (.ref r)) (fun it s₂ => LoopAtV prog w A h₀ env x body Q E it s₂) E s := by
  subst hL
  refine kst_range (LdL D rest) NoPs (fun c => IntsAre c.1 c.2.2) tmp (fun pre c => P pre.length c.2.2) (vf, nf, fs) hh hr hsmall hn F N hf (fun p hp => nomatch hp) hp ?_ ?_
  · intro c pre k t u h tk own hk hlt hoff hi hP F₁ N₁
    refine wpAny_mono (turn pre.length k t u h tk own c.1 c.2.1 c.2.2 hk hlt hi hP (off_all hrest hoff) F₁ N₁) (fun f s₂ p => enum_invP (fun c' hc' => ?_) p) fun _ _ e => e
    simpa using hc'
  · intro c u h tk hi hP F₁ N₁
    rw [show (fun y => if y = x then u y else kstB (fun z => if tmp.contains z then u z else m₀ z) (NoPs c) y) = mk [] tmp u m₀ from mk_out hx] at F₁
    exact done c.1 c.2.1 c.2.2 u h tk hi (by simpa [rangeKs_length] using hP) F₁ N₁

theorem for_rangeDL {r : Addr} {a₀ b₀ : Int} {t₀ u₀ v₀ : Tok} {n : Nat} (hL : env.locals = L) (hh : A.handled = none) (hr : IsRange s.heap r a₀ b₀ (-1) t₀ u₀ v₀) (hsmall : Builtin.Range.small a₀ b₀ (-1) = true) (hn : Builtin.Range.rangeSize a₀ b₀ (-1) = (n : Int))
    (F : Fr h₀ L s.heap m₀) (N : News h₀ L s.heap ((D, listOf (List.toArray vf) nf) :: rest)) (hf : IntsAre vf fs) (hrest : ∀ q ∈ rest, q.1 ≠ D) (tmp : List Str) (hx : tmp.contains x = true) (P : Nat → List Int → Prop) (hp : P 0 fs)
    (turn : ∀ (i : Nat) (k : Int) (t : Tok) (u : Str → Option Value) h tk own (va : List Value) (kk : Nat) (as : List Int), k = a₀ - (i : Int) → i < n → IntsAre va as → P i as → (∀ q ∈ rest ++ own, q.1 ≠ D) →
      Fr h₀ L h (fun y => if y = x then some (.int k t) else mk [] tmp u m₀ y) → News h₀ L h ((D, listOf (List.toArray va) kk) :: (rest ++ own)) →
      wpAny (model prog w) A (execs body env) (EnumPost h₀ L (LdL D rest) NoPs tmp m₀ (EL (P (i + 1))) own { s with heap := h, toks := tk } Q) E { s with heap := h, toks := tk })
    (done : ∀ (va : List Value) (k : Nat) (as : List Int) (u : Str → Option Value) h tk, IntsAre va as → P n as → Fr h₀ L h (mk [] tmp u m₀) → News h₀ L h ((D, listOf (List.toArray va) k) :: rest) → Q .next { s with heap := h, toks := tk }) :
    wpAny (model prog w) A (pyIter (.ref r)) (fun it s₂ => LoopAtV prog w A h₀ env x body Q E it s₂) E s := by
  subst hL
  refine kst_rangeD (LdL D rest) NoPs (fun c => IntsAre c.1 c.2.2) tmp (fun pre c => P pre.length c.2.2) (vf, nf, fs) hh hr hsmall hn F N hf (fun p hp => nomatch hp) hp ?_ ?_
  · intro c pre k t u h tk own hk hlt hoff hi hP F₁ N₁
    refine wpAny_mono (turn pre.length k t u h tk own c.1 c.2.1 c.2.2 hk hlt hi hP (off_all hrest hoff) F₁ N₁) (fun f s₂ p => enum_invP (fun c' hc' => ?_) p) fun _ _ e => e
    simpa using hc'
  · intro c u h tk hi hP F₁ N₁
    rw [show (fun y => if y = x then u y else kstB (fun z => if tmp.contains z then u z else m₀ z) (NoPs c) y) = mk [] tmp u m₀ from mk_out hx] at F₁
    exact done c.1 c.2.1 c.2.2 u h tk hi (by simpa [downKs_length] using hP) F₁ N₁
end
end NNRange
section NNShift
theorem sweep_len (n : Int) : ∀ xs : List Int, (sweep n xs).length = xs.length
  | [] => rfl
  | x :: r => by simp [sweep, sweep_len n r]
def shO (n : Int) (xs : List Int) : Nat → List Int
  | 0 => xs
  | i + 1 => (shO n xs i).take i ++ sweep n ((shO n xs i).drop i)
def shI (n : Int) (A : List Int) (j : Nat) : List Int := A.take (A.length - 1 - j) ++ sweep n (A.drop (A.length - 1 - j))
theorem shO_len (n : Int) (xs : List Int) : ∀ i, (shO n xs i).length = xs.length
  | 0 => rfl
  | i + 1 => by
    have ih := shO_len n xs i
    simp only [shO, List.length_append, List.length_take, sweep_len, List.length_drop, ih]
    omega
theorem shI_len (n : Int) (A : List Int) (j : Nat) : (shI n A j).length = A.length := by
  simp only [shI, List.length_append, List.length_take, sweep_len, List.length_drop]
  omega
theorem shI_zero (n : Int) {A : List Int} (h : A ≠ []) : shI n A 0 = A := by
  obtain ⟨ys, y, rfl⟩ : ∃ ys y, A = ys ++ [y] := ⟨A.dropLast, A.getLast h, (List.dropLast_concat_getLast h).symm⟩
  simp [shI, sweep]
theorem shI_step (n : Int) {A : List Int} {j : Nat} (h : j + 1 < A.length) :
    (shI n A j).set (A.length - 2 - j) ((shI n A j).getD (A.length - 2 - j) 0 + n * (shI n A j).getD (A.length - 2 - j + 1) 0) = shI n A (j + 1) := by
  have e1 : A.length - 1 - j = A.length - 2 - j + 1 := by omega
  have e2 : A.length - 1 - (j + 1) = A.length - 2 - j := by omega
  have hlt : A.length - 2 - j < A.length := by omega
  unfold shI
  rw [e1, e2]
  generalize ha : A.length - 2 - j = a at *
  have hd : A.drop a = A[a] :: A.drop (a + 1) := List.drop_eq_getElem_cons hlt
  have ht : A.take (a + 1) = A.take a ++ [A[a]] := by rw [List.take_add_one, List.getElem?_eq_getElem hlt]; rfl
  have htl : (A.take a).length = a := by rw [List.length_take]; omega
  rw [hd, ht, sweep]
  have g1 : (A.take a ++ [A[a]] ++ sweep n (A.drop (a + 1))).getD a 0 = A[a] := by
    rw [List.append_assoc, List.getD_eq_getElem?_getD, List.getElem?_append_right (by omega), htl, Nat.sub_self]
    rfl
  have g2 : (A.take a ++ [A[a]] ++ sweep n (A.drop (a + 1))).getD (a + 1) 0 = (sweep n (A.drop (a + 1))).headD 0 := by
    rw [List.append_assoc, List.getD_eq_getElem?_getD, List.getElem?_append_right (by omega), htl, show a + 1 - a = 1 from by omega]
    cases sweep n (A.drop (a + 1)) <;> rfl
  rw [g1, g2, List.append_assoc, List.set_append, if_neg (by omega), htl, Nat.sub_self]
  rfl
theorem shI_end (n : Int) (xs : List Int) {i : Nat} (h : i < xs.length) : shI n (shO n xs i) (xs.length - 1 - i) = shO n xs (i + 1) := by
  have e : xs.length - 1 - (xs.length - 1 - i) = i := by omega
  unfold shI
  rw [shO_len, e]
  rfl
theorem shO_tail (n : Int) {xs : List Int} {y : Int} {r : List Int} (h : sweep n xs = y :: r) : ∀ i, shO n xs (i + 1) = y :: shO n r i
  | 0 => by simp [shO, h]
  | i + 1 => by
    have ih := shO_tail n h i
    rw [shO, ih]
    simp [shO]
theorem shO_shiftF (n : Int) : ∀ (k : Nat) (xs : List Int), shO n xs k = shiftF n k xs
  | 0, xs => rfl
  | k + 1, xs => by
    cases h : sweep n xs with
    | nil =>
      have e : xs = [] := by
        have := sweep_len n xs
        rw [h] at this
        exact List.eq_nil_of_length_eq_zero this.symm
      subst e
      have := shO_len n [] (k + 1)
      rw [shiftF, h]
      exact List.eq_nil_of_length_eq_zero this
    | cons y r =>
      rw [shO_tail n h k, shiftF, h, shO_shiftF n k r]
end NNShift
section NNc8
local macro_rules | `(tactic| k_upd) => `(tactic| exact Upd.head (by with_reducible assumption))
open PySem PySem.W PyProof.Rows PySem.Calls PySem.Spec

theorem c_zshift (w : World) (p : Addr) (xs : List Int) (n : Int) (t : Tok) : Ct w 123 1 [.ref p, .int n t] (fun h => LA h p xs ∧ xs.length < 400 ∧ n.natAbs < 2 ^ 60) (RetL (pshift xs n)) := by
  w_top off
  unfold Ct
  k_fill
  intro dp un gd cn cs a ccd cl outer A₀ base h₀ L m mg mb mean s Q E B F X T hk hp hd hu hret
  k_dflt refine' ro_enter ?k1 ?k2 ?k3 ?k5 ?kA ?kF ?kK ?k6 ?k7 ?k8 ?k9 ?kB ?kR ?_ ?c2 ?c3 ?c4 ?c5
  (case kA => exact rfl)
  (case kF => exact rfl)
  (case kK => assumption)
  (case k1 => k_asm)
  (case k2 => k_asm)
  (case k3 => k_asm)
  (case k5 => k_asm)
  (case k6 => k_is)
  (case k7 => k_is)
  (case k8 => ktr_room)
  (case k9 => k_dflt exact BindsTo.of_eq rfl)
  (case c5 => k_dflt decide)
  (case kB => k_dflt exact locs rfl)
  (case c2 => exact rfl)
  (case c3 => exact rfl)
  (case c4 => exact rfl)
  (case kR => assumption)
  intro g' L' h' F' N' B' X' T' kG'
  (try dsimp only)
  obtain ⟨h1, h3, h4⟩ := hp
  have h1 := h1.keeps kG'
  obtain ⟨vs, hL, hI⟩ := h1
  (try k_fold)
  k_steps
  all_goals (try dsimp only)
  refine of_halt ?_
  have hn9 : ((xs.length : Int) - 1 - 0).toNat = xs.length - 1 := by omega
  k_dflt refine' for_rangeL rfl rfl (by k_asm) (small_one (by omega) (by omega) (by omega) (by omega)) (rangeSize_nat _ _) (by k_asm) (by k_asm) hI (fun q hq => by cases hq) [Str.ofString "low", Str.ofString "at"] rfl (fun i as => as = shO n xs i) ?hp ?turn ?done
  case hp => rfl
  case done =>
    intro va k as u h tk hi hP F9 N9
    rw [hn9] at hP
    (try dsimp only)
    (try k_fold)
    k_steps
    all_goals (try dsimp only)
    exact end_list (by k_asm) (by k_asm) (by k_mem) hi (by rw [hP, shO_shiftF]; rfl)
  case turn =>
    intro i k t2 u h tk own va kk as hk hi9 hi hP hoff F9 N9
    have hl9 : as.length = xs.length := by rw [hP, shO_len]
    have hi8 : i < xs.length - 1 := by omega
    (try dsimp only)
    (try k_fold)
    k_steps
    all_goals (try dsimp only)
    refine of_halt ?_
    have hne : as ≠ [] := by intro e; subst e; simp at hl9; omega
    k_dflt refine' for_rangeDL rfl rfl (by k_asm) (small_down (by omega) (by omega) (by omega) (by omega)) (rangeSize_downNat _ _) (by k_asm) (by k_asm) hi hoff [Str.ofString "at"] rfl (fun j bs => bs = shI n as j) ?hp ?turn ?done
    case hp => exact (shI_zero n hne).symm
    case done =>
      intro va2 k2 as2 u2 h2 tk2 hi2 hP2 F8 N8
      (try dsimp only)
      (try k_fold)
      k_steps
      all_goals (try dsimp only)
      k_dflt exact enumL_end (by k_asm) (by k_asm) (fun q hq => hq) hi2 (by rw [hP2, hP, show ((xs.length : Int) - 2 - (k - 1)).toNat = xs.length - 1 - i by omega]; exact shI_end n xs (by omega)) (by intro z9 b9; simp only [List.contains_cons, List.contains_nil, Bool.or_false, Bool.or_eq_false_iff, beq_eq_false_iff_ne, ne_eq] at b9; simp [mk, kstB, b9])
    case turn =>
      intro j k3 t3 u2 h2 tk2 own2 va2 kk2 as2 hk3 hj9 hi2 hP2 hoff2 F8 N8
      have hb1 := bndL h4
      have hb2 := bndR h4
      have hl8 : as2.length = xs.length := by rw [hP2, shI_len, hl9]
      have hj8 : j + 1 < as.length := by omega
      (try dsimp only)
      (try k_fold)
      k_steps
      all_goals (try dsimp only)
      k_dflt exact enumL_end (by k_asm) (by k_asm) (fun q hq => hq) (by k_asm) (by rw [show (k3 + 1).toNat = as.length - 2 - j + 1 by omega, show k3.toNat = as.length - 2 - j by omega, hP2]; exact shI_step n hj8) (by intro z9 b9; simp only [List.contains_cons, List.contains_nil, Bool.or_false, Bool.or_eq_false_iff, beq_eq_false_iff_ne, ne_eq] at b9; simp [mk, kstB, b9])
end NNc8
section NNRevF
open PySem PySem.W PyProof.Rows PySem.Calls PySem.Spec
structure FSt where
  r : Addr
  rv : List Value
  n : Nat
  f : List Int
def FLed (c : FSt) : Led := [(c.r, listOf (List.toArray c.rv) c.n)]
def FPs (name : Str) (c : FSt) : List (Str × Value) := [(name, .ref c.r)]
def FP (P : List Int → Prop) (c : FSt) : Prop := IntsAre c.rv c.f ∧ P c.f

theorem for_revF {prog : Program} {w : World} {A : Around} {E : Value → Shared → Prop} {s : Shared} {env : Env} {h₀ : Heap} {L : Addr} {x : Str} {body : List Stmt} {Q : Flow → Shared → Prop} {l I D : Addr} {vls : List Value} {xs : List Int} {m₀ : Str → Option Value} {rest : Led} {vs : List Value} {nf : Nat} {fs : List Int}
    (hL : env.locals = L) (hl : h₀.IsList l vls.toArray) (hi : IntsAre vls xs) (F : Fr h₀ L s.heap m₀) (N : News h₀ L s.heap ((I, revObj l ((vls.length : Int) - 1)) :: (D, listOf (List.toArray vs) nf) :: rest)) (hDI : D ≠ I)
    (hf : IntsAre vs fs) (name : Str) (hk : m₀ name = some (.ref D)) (tmp : List Str) (P : Nat → List Int → Prop) (hp : P 0 fs)
    (turn : ∀ (i : Nat) (n : Int) t (u : Str → Option Value) h tk oI r rv k f, i < xs.length → xs[xs.length - 1 - i]? = some n → IntsAre rv f → P i f → r ≠ I →
      Fr h₀ L h (fun y => if y = x then some (.int n t) else mk [(name, .ref r)] tmp u m₀ y) → News h₀ L h [(I, oI), (r, listOf (List.toArray rv) k)] →
      wpAny (model prog w) A (execs body env) (RevPost h₀ L FLed (FPs name) tmp m₀ (FP (P (i + 1))) I oI { s with heap := h, toks := tk } Q) E { s with heap := h, toks := tk })
    (done : ∀ r rv k f (u : Str → Option Value) h tk, IntsAre rv f → P xs.length f → Fr h₀ L h (mk [(name, .ref r)] tmp u m₀) → News h₀ L h [(r, listOf (List.toArray rv) k)] → Q .next { s with heap := h, toks := tk })
    (hh : A.handled = none := by rfl) :
    wpAny (model prog w) A (pyIter (.ref I)) (fun it s₂ => LoopAtV prog w A h₀ env x body Q E it s₂) E s := by
  subst hL
  refine for_rev FLed (FPs name) tmp (fun i => FP (P i)) ⟨D, vs, nf, fs⟩ hh hl hi F N (List.mem_cons_self ..) (List.forall_mem_singleton.mpr (List.mem_cons_of_mem _ (List.mem_cons_self ..))) (List.forall_mem_singleton.mpr hDI) (List.forall_mem_singleton.mpr hk) ⟨hf, hp⟩ ?_ ?_
  · rintro ⟨r, rv, k, f⟩ i n t u h tk oI hi hx ⟨a, b⟩ hoff F N
    exact turn i n t u h tk oI r rv k f hi hx a b (hoff _ (List.mem_cons_self ..)) F N
  · rintro ⟨r, rv, k, f⟩ u h tk ⟨a, b⟩ F N
    exact done r rv k f u h tk a b F N

theorem revF_end {h₀ h' : Heap} {L I r : Addr} {name : Str} {tmp : List Str} {m₀ m' : Str → Option Value} {P : List Int → Prop} {oI : Obj} {s₁ : Shared} {tk : Nat} {news' : Led} {rv : List Value} {k : Nat} {f : List Int}
    (F : Fr h₀ L h' m') (N : News h₀ L h' news') (hm : (r, listOf (List.toArray rv) k) ∈ news') (hI : (I, oI) ∈ news') (hne : r ≠ I) (hi : IntsAre rv f) (hP : P f)
    (hk : m' name = some (.ref r)) (hr : ∀ z, (∀ p ∈ [(name, Value.ref r)], z ≠ p.1) → tmp.contains z = false → m' z = m₀ z) :
    RevEnd h₀ L FLed (FPs name) tmp m₀ (FP P) I oI s₁ { s₁ with heap := h', toks := tk } :=
  rev_end ⟨r, rv, k, f⟩ F N (List.forall_mem_singleton.mpr hm) hI (List.forall_mem_singleton.mpr hne) ⟨hi, hP⟩ (List.forall_mem_singleton.mpr hk) hr
end NNRevF
section NNc6
open PySem PySem.W PyProof.Rows PySem.Calls PySem.Spec

theorem at_turn {xs : List Int} {i : Nat} {n x a : Int} (hi : i < xs.length) (hx : xs[xs.length - 1 - i]? = some x) (hP : a = pe (xs.drop (xs.length - i)) n) : a * n + x = pe (xs.drop (xs.length - (i + 1))) n := by
  have e : xs.drop (xs.length - (i + 1)) = x :: xs.drop (xs.length - i) := by
    have h1 : xs.length - (i + 1) < xs.length := by omega
    rw [List.drop_eq_getElem_cons h1]
    have h2 : xs[xs.length - (i + 1)] = x := by
      have : xs.length - 1 - i = xs.length - (i + 1) := by omega
      rw [this, List.getElem?_eq_getElem h1] at hx
      exact Option.some.inj hx
    have h3 : xs.length - (i + 1) + 1 = xs.length - i := by omega
    rw [h2, h3]
  rw [e, pe, hP, Int.mul_comm, Int.add_comm]

theorem c_zat (w : World) (p : Addr) (xs : List Int) (n : Int) (t : Tok) : Ct w 116 1 [.ref p, .int n t] (fun h => LA h p xs ∧ xs.length < 900 ∧ n.natAbs < 2 ^ 60) (RetI (pe xs n)) := by
  w_top off
  unfold Ct
  k_fill
  intro dp un gd cn cs a ccd cl outer A₀ base h₀ L m mg mb mean s Q E B F X T hk hp hd hu hret
  k_dflt refine' ro_enter ?k1 ?k2 ?k3 ?k5 ?kA ?kF ?kK ?k6 ?k7 ?k8 ?k9 ?kB ?kR ?_ ?c2 ?c3 ?c4 ?c5
  (case kA => exact rfl)
  (case kF => exact rfl)
  (case kK => assumption)
  (case k1 => k_asm)
  (case k2 => k_asm)
  (case k3 => k_asm)
  (case k5 => k_asm)
  (case k6 => k_is)
  (case k7 => k_is)
  (case k8 => ktr_room)
  (case k9 => k_dflt exact BindsTo.of_eq rfl)
  (case c5 => k_dflt decide)
  (case kB => k_dflt exact locs rfl)
  (case c2 => exact rfl)
  (case c3 => exact rfl)
  (case c4 => exact rfl)
  (case kR => assumption)
  intro g' L' h' F' N' B' X' T' kG'
  (try dsimp only)
  obtain ⟨h1, h3, h4⟩ := hp
  have h1 := h1.keeps kG'
  obtain ⟨vs, hL, hI⟩ := h1
  (try k_fold)
  k_steps
  all_goals (try dsimp only)
  refine of_halt ?_
  k_dflt refine' for_rev (σ := Int × Tok) (fun _ => []) (fun c => [(Str.ofString "found", .int c.1 c.2)]) [Str.ofString "number"] (fun i c => c.1 = pe (xs.drop (xs.length - i)) n) (0, ?t0) rfl hL hI (by k_asm) (by k_asm) (List.mem_cons_self ..) (fun q hq => by cases hq) (fun q hq => by cases hq) ?hk ?hp ?turn ?done
  case hk => exact (List.forall_mem_singleton.mpr (by with_unfolding_all rfl))
  case hp => simp [pe]
  case turn =>
    intro c i n2 t2 u h tk oI hi hx hP hoff F9 N9
    (try dsimp only)
    (try k_fold)
    k_steps
    k_dflt exact rev_end (c.1 * n + n2, _) (by k_asm) (by k_asm) (fun q hq => by cases hq) (List.mem_cons_self ..) (fun q hq => by cases hq) (at_turn hi hx hP) (List.forall_mem_singleton.mpr (by with_unfolding_all rfl)) (by intro z9 a9 b9; simp only [List.forall_mem_cons, List.not_mem_nil, false_implies, implies_true, and_true, ne_eq] at a9; simp only [List.contains_cons, List.contains_nil, Bool.or_false, Bool.or_eq_false_iff, beq_eq_false_iff_ne, ne_eq] at b9; simp [mk, kstB, a9, b9])
  case done =>
    intro c u h tk hP F9 N9
    (try dsimp only)
    (try k_fold)
    k_steps
    (try dsimp only)
    exact end_int (by k_asm) (by rw [hP, Nat.sub_self]; rfl)
end NNc6
section NNGcd
theorem gcdf_nonneg : ∀ (xs : List Int) (a : Int), 0 ≤ a → 0 ≤ xs.foldl (fun g x => (Int.gcd g x : Int)) a
  | [], a, h => h
  | x :: r, a, _ => gcdf_nonneg r _ (Int.natCast_nonneg _)
theorem gcdf_dvd : ∀ (xs : List Int) (a : Int), xs.foldl (fun g x => (Int.gcd g x : Int)) a ∣ a ∧ ∀ x ∈ xs, xs.foldl (fun g x => (Int.gcd g x : Int)) a ∣ x
  | [], a => ⟨Int.dvd_refl a, fun x h => by cases h⟩
  | y :: r, a => by
    obtain ⟨h1, h2⟩ := gcdf_dvd r (Int.gcd a y : Int)
    refine ⟨Int.dvd_trans h1 (Int.gcd_dvd_left ..), fun x hx => ?_⟩
    rcases List.mem_cons.mp hx with rfl | hx
    · exact Int.dvd_trans h1 (Int.gcd_dvd_right ..)
    · exact h2 x hx
theorem gcdf_great : ∀ (xs : List Int) (a k : Int), k ∣ a → (∀ x ∈ xs, k ∣ x) → k ∣ xs.foldl (fun g x => (Int.gcd g x : Int)) a
  | [], a, k, h, _ => h
  | y :: r, a, k, h, h2 => gcdf_great r _ k (Int.dvd_coe_gcd h (h2 y (List.mem_cons_self ..))) fun x hx => h2 x (List.mem_cons_of_mem _ hx)
theorem pgcd_nonneg (xs : List Int) : 0 ≤ pgcd xs := gcdf_nonneg xs 0 (Int.le_refl 0)
theorem pgcd_dvd {xs : List Int} {x : Int} (h : x ∈ xs) : pgcd xs ∣ x := (gcdf_dvd xs 0).2 x h
theorem pgcd_great {xs : List Int} {k : Int} (h : ∀ x ∈ xs, k ∣ x) : k ∣ pgcd xs := gcdf_great xs 0 k (Int.dvd_zero k) h
theorem pgcd_snoc (pre : List Int) (n : Int) : pgcd (pre ++ [n]) = (Int.gcd (pgcd pre) n : Int) := by simp [pgcd, List.foldl_append]
theorem pgcd_pos {xs : List Int} {x : Int} (h : x ∈ xs) (h0 : x ≠ 0) : 0 < pgcd xs := by
  rcases Int.lt_or_eq_of_le (pgcd_nonneg xs) with h1 | h1
  · exact h1
  · have := pgcd_dvd h
    rw [← h1] at this
    exact absurd (Int.zero_dvd.mp this) h0
theorem pgcd_le {xs : List Int} {x : Int} (h : x ∈ xs) (h0 : x ≠ 0) : pgcd xs ≤ x.natAbs := by
  have h2 : pgcd xs ∣ (x.natAbs : Int) := Int.dvd_natAbs.mpr (pgcd_dvd h)
  exact Int.le_of_dvd (by omega) h2
theorem last_mem {xs : List Int} (h : xs ≠ []) : xs.getLastD 0 ∈ xs := by
  rw [List.getLastD_eq_getLast?, List.getLast?_eq_some_getLast h]
  exact List.getLast_mem h
end NNGcd
section NNc11
open PySem PySem.W PyProof.Rows PySem.Calls PySem.Spec

def pcompR (xs bs : List Int) (i : Nat) : List Int := (xs.drop (xs.length - i)).reverse.foldl (fun f x => padd (pmul f bs) (trim [x])) []
theorem trim_len (xs : List Int) : (trim xs).length ≤ xs.length := by
  unfold trim
  have := (List.dropWhile_sublist (fun x : Int => x == 0) (l := xs.reverse)).length_le
  simpa using this
theorem padd_len (xs ys : List Int) : (padd xs ys).length ≤ max xs.length ys.length := by
  refine Nat.le_trans (trim_len _) ?_
  simp [rawAdd]
theorem pmul_len (xs ys : List Int) : (pmul xs ys).length ≤ xs.length + ys.length := by
  unfold pmul
  split
  · simp
  · simp <;> omega
theorem pcompR_step {xs : List Int} {i : Nat} {x : Int} (bs : List Int) (hi : i < xs.length) (hx : xs[xs.length - 1 - i]? = some x) : padd (pmul (pcompR xs bs i) bs) (trim [x]) = pcompR xs bs (i + 1) := by
  have e : xs.drop (xs.length - (i + 1)) = x :: xs.drop (xs.length - i) := by
    have h1 : xs.length - (i + 1) < xs.length := by omega
    rw [List.drop_eq_getElem_cons h1]
    have h2 : xs[xs.length - (i + 1)] = x := by
      have : xs.length - 1 - i = xs.length - (i + 1) := by omega
      rw [this, List.getElem?_eq_getElem h1] at hx
      exact Option.some.inj hx
    have h3 : xs.length - (i + 1) + 1 = xs.length - i := by omega
    rw [h2, h3]
  unfold pcompR
  rw [e, List.reverse_cons, List.foldl_append]
  rfl
theorem pcompR_len {xs bs : List Int} (hb : bs.length ≤ 10) : ∀ i, i ≤ xs.length → (pcompR xs bs i).length ≤ 1 + 10 * i
  | 0, _ => by simp [pcompR]
  | i + 1, h => by
    have ih := pcompR_len (xs := xs) hb i (by omega)
    obtain ⟨x, hx⟩ : ∃ x, xs[xs.length - 1 - i]? = some x := ⟨_, List.getElem?_eq_getElem (show xs.length - 1 - i < xs.length by omega)⟩
    rw [← pcompR_step (xs := xs) bs (show i < xs.length by omega) hx]
    have h1 := padd_len (pmul (pcompR xs bs i) bs) (trim [x])
    have h2 := pmul_len (pcompR xs bs i) bs
    have h3 := trim_len [x]
    simp only [List.length_singleton] at h3
    omega

theorem c_zcompose (w : World) (p : Addr) (xs : List Int) (q : Addr) (bs : List Int) : Ct w 137 3 [.ref p, .ref q] (fun h => LA h p xs ∧ LA h q bs ∧ xs.length ≤ 10 ∧ bs.length ≤ 10 ∧ (∀ x ∈ bs, x.natAbs < 2 ^ 60)) (RetL (pcomp xs bs)) := by
  w_top off
  unfold Ct
  k_fill
  intro dp un gd cn cs a ccd cl outer A₀ base h₀ L m mg mb mean s Q E B F X T hk hp hd hu hret
  k_dflt refine' ro_enter ?k1 ?k2 ?k3 ?k5 ?kA ?kF ?kK ?k6 ?k7 ?k8 ?k9 ?kB ?kR ?_ ?c2 ?c3 ?c4 ?c5
  (case kA => exact rfl)
  (case kF => exact rfl)
  (case kK => assumption)
  (case k1 => k_asm)
  (case k2 => k_asm)
  (case k3 => k_asm)
  (case k5 => k_asm)
  (case k6 => k_is)
  (case k7 => k_is)
  (case k8 => ktr_room)
  (case k9 => k_dflt exact BindsTo.of_eq rfl)
  (case c5 => k_dflt decide)
  (case kB => k_dflt exact locs rfl)
  (case c2 => exact rfl)
  (case c3 => exact rfl)
  (case c4 => exact rfl)
  (case kR => assumption)
  intro g' L' h' F' N' B' X' T' kG'
  (try dsimp only)
  obtain ⟨h1, h2, h3, h4, h5⟩ := hp
  have h1 := h1.keeps kG'
  have h2 := h2.keeps kG'
  obtain ⟨vs, hL, hI⟩ := h1
  obtain ⟨vs2, hL2, hI2⟩ := h2
  (try k_fold)
  k_steps
  all_goals (try dsimp only)
  refine of_halt ?_
  k_dflt refine' for_revF rfl hL hI (by k_asm) (by k_asm) (Nat.ne_of_lt (by k_asm)) (vs := []) .nil (Str.ofString "found") ?hk [Str.ofString "number"] (fun i f => f = pcompR xs bs i) ?hp ?turn ?done
  case hk => with_unfolding_all rfl
  case hp => simp [pcompR]
  case turn =>
    intro i n2 t2 u h tk oI r rv k f hi hx hi9 hP9 hne9 F9 N9
    have hl9 := pcompR_len (xs := xs) h4 i (by omega)
    rw [← hP9] at hl9
    (try dsimp only)
    (try k_fold)
    k_steps
    all_goals (try dsimp only)
    refine of_halt ?_
    k_dflt refine' use_L (c_zmul w r f _ bs) ?k1 ?k2 ?k3 ?k4 ?kK ?kN ?kp ?kd ?ku ?_
    (case k1 => k_asm)
    (case k2 => k_asm)
    (case k3 => k_asm)
    (case k4 => k_asm)
    (case kK => first | exact rfl | assumption)
    (case kN => k_asm)
    (case kp => exact ⟨la_led (by k_asm) (by k_mem) hi9, la_base (by k_asm) hL2 hI2, by omega, by omega, .inr h5⟩)
    (case kd => ktr_room)
    (case ku => ktr_units)
    intro r2 rv2 k2 h8 tk8 hi8 F8 N8 l8 k8
    (try dsimp only)
    (try k_fold)
    k_steps
    all_goals (try dsimp only)
    refine of_halt ?_
    k_dflt refine' use_L (c_ztrim w _ [n2]) ?k1 ?k2 ?k3 ?k4 ?kK ?kN ?kp ?kd ?ku ?_
    (case k1 => k_asm)
    (case k2 => k_asm)
    (case k3 => k_asm)
    (case k4 => k_asm)
    (case kK => first | exact rfl | assumption)
    (case kN => k_asm)
    (case kp => exact ⟨la_led (vs := [Value.int n2 t2]) (by k_asm) (by k_mem) (.cons n2 t2 .nil), by simp⟩)
    (case kd => ktr_room)
    (case ku => ktr_units)
    intro r3 rv3 k3 h7 tk7 hi7 F7 N7 l7 k7
    (try dsimp only)
    (try k_fold)
    k_steps
    all_goals (try dsimp only)
    refine of_halt ?_
    k_dflt refine' use_L (c_zadd w r2 (pmul f bs) r3 (trim [n2])) ?k1 ?k2 ?k3 ?k4 ?kK ?kN ?kp ?kd ?ku ?_
    (case k1 => k_asm)
    (case k2 => k_asm)
    (case k3 => k_asm)
    (case k4 => k_asm)
    (case kK => first | exact rfl | assumption)
    (case kN => k_asm)
    (case kp => exact ⟨la_led (by k_asm) (by k_mem) hi8, la_led (by k_asm) (by k_mem) hi7, by have := pmul_len f bs; omega, by have := trim_len [n2]; simp only [List.length_singleton] at this; omega⟩)
    (case kd => ktr_room)
    (case ku => ktr_units)
    intro r4 rv4 k4 h6 tk6 hi6 F6 N6 l6 k6
    (try dsimp only)
    (try k_fold)
    k_steps
    all_goals (try dsimp only)
    (try (k_unfold; (try dsimp only)))
    (try (k_unfold; (try dsimp only)))
    k_dflt exact revF_end (by k_asm) (by k_asm) (by k_mem) (by k_mem) (fun e => l6 (_, oI) (by k_mem) e.symm) hi6 (by rw [hP9]; exact pcompR_step bs hi hx) (by with_unfolding_all rfl) (by intro z9 a9 b9; simp only [List.forall_mem_cons, List.not_mem_nil, false_implies, implies_true, and_true, ne_eq] at a9; simp only [List.contains_cons, List.contains_nil, Bool.or_false, Bool.or_eq_false_iff, beq_eq_false_iff_ne, ne_eq] at b9; simp [mk, kstB, a9, b9])
  case done =>
    intro r rv k f u h tk hi9 hP9 F9 N9
    (try dsimp only)
    (try k_fold)
    k_steps
    (try dsimp only)
    exact end_list (by k_asm) (by k_asm) (by k_mem) hi9 (by rw [hP9]; simp [pcompR, pcomp])
end NNc11
section NNc12
open PySem PySem.W PyProof.Rows PySem.Calls PySem.Spec

theorem pmul_one (xs : List Int) : pmul [1] xs = xs := by
  by_cases h : xs = []
  · simp [pmul, h]
  · unfold pmul
    rw [if_neg (by simp [h])]
    refine List.ext_getElem? fun k => ?_
    simp only [List.length_singleton]
    by_cases hk : k < xs.length
    · rw [List.getElem?_map, List.getElem?_range (by omega), List.getElem?_eq_getElem hk]
      cases k <;> simp [cv, List.getD_eq_getElem?_getD, hk]
    · rw [List.getElem?_eq_none (by simp; omega), List.getElem?_eq_none (by omega)]
theorem one_small : ∀ x ∈ ([1] : List Int), x.natAbs < 2 ^ 60 := by decide

def ppow (xs : List Int) (k : Int) : List Int := if k = 0 then [1] else if k = 1 then pmul [1] xs else if k = 2 then pmul [1] (pmul xs xs) else pmul (pmul [1] xs) (pmul xs xs)

theorem c_zpower0 (w : World) (p : Addr) (xs : List Int) (t : Tok) : Ct w 85 2 [.ref p, .int 0 t] (fun h => LA h p xs ∧ xs.length ≤ 10 ∧ (∀ x ∈ xs, x.natAbs < 2 ^ 60)) (RetL ([1])) := by
  w_top off
  unfold Ct
  k_fill
  intro dp un gd cn cs a ccd cl outer A₀ base h₀ L m mg mb mean s Q E B F X T hk hp hd hu hret
  k_dflt refine' ro_enter ?k1 ?k2 ?k3 ?k5 ?kA ?kF ?kK ?k6 ?k7 ?k8 ?k9 ?kB ?kR ?_ ?c2 ?c3 ?c4 ?c5
  (case kA => exact rfl)
  (case kF => exact rfl)
  (case kK => assumption)
  (case k1 => k_asm)
  (case k2 => k_asm)
  (case k3 => k_asm)
  (case k5 => k_asm)
  (case k6 => k_is)
  (case k7 => k_is)
  (case k8 => ktr_room)
  (case k9 => k_dflt exact BindsTo.of_eq rfl)
  (case c5 => k_dflt decide)
  (case kB => k_dflt exact locs rfl)
  (case c2 => exact rfl)
  (case c3 => exact rfl)
  (case c4 => exact rfl)
  (case kR => assumption)
  intro g' L' h' F' N' B' X' T' kG'
  (try dsimp only)
  obtain ⟨h1, h2, h5⟩ := hp
  have h1 := h1.keeps kG'
  obtain ⟨vs, hL, hI⟩ := h1
  (try k_fold)
  k_steps
  all_goals (try dsimp only)
  exact end_list (vs := [_]) (by k_asm) (by k_asm) (by k_mem) (.cons 1 _ .nil) rfl
theorem c_zpower1 (w : World) (p : Addr) (xs : List Int) (t : Tok) : Ct w 85 2 [.ref p, .int 1 t] (fun h => LA h p xs ∧ xs.length ≤ 10 ∧ (∀ x ∈ xs, x.natAbs < 2 ^ 60)) (RetL (pmul [1] xs)) := by
  w_top off
  unfold Ct
  k_fill
  intro dp un gd cn cs a ccd cl outer A₀ base h₀ L m mg mb mean s Q E B F X T hk hp hd hu hret
  k_dflt refine' ro_enter ?k1 ?k2 ?k3 ?k5 ?kA ?kF ?kK ?k6 ?k7 ?k8 ?k9 ?kB ?kR ?_ ?c2 ?c3 ?c4 ?c5
  (case kA => exact rfl)
  (case kF => exact rfl)
  (case kK => assumption)
  (case k1 => k_asm)
  (case k2 => k_asm)
  (case k3 => k_asm)
  (case k5 => k_asm)
  (case k6 => k_is)
  (case k7 => k_is)
  (case k8 => ktr_room)
  (case k9 => k_dflt exact BindsTo.of_eq rfl)
  (case c5 => k_dflt decide)
  (case kB => k_dflt exact locs rfl)
  (case c2 => exact rfl)
  (case c3 => exact rfl)
  (case c4 => exact rfl)
  (case kR => assumption)
  intro g' L' h' F' N' B' X' T' kG'
  (try dsimp only)
  obtain ⟨h1, h2, h5⟩ := hp
  have h1 := h1.keeps kG'
  obtain ⟨vs, hL, hI⟩ := h1
  (try k_fold)
  k_steps
  all_goals (try dsimp only)
  refine of_halt ?_
  k_dflt refine' use_L (c_zmul w _ [1] _ xs) ?k1 ?k2 ?k3 ?k4 ?kK ?kN ?kp ?kd ?ku ?_
  (case k1 => k_asm)
  (case k2 => k_asm)
  (case k3 => k_asm)
  (case k4 => k_asm)
  (case kK => first | exact rfl | assumption)
  (case kN => k_asm)
  (case kp => exact ⟨la_led (by k_asm) (by k_mem) (.cons 1 _ .nil), la_led (by k_asm) (by k_mem) hI, by simp, by omega, .inl one_small⟩)
  (case kd => ktr_room)
  (case ku => ktr_units)
  intro r1 rv1 n1 h9 tk9 hi9 F9 N9 l9 k9
  (try dsimp only)
  (try k_fold)
  k_steps
  all_goals (try dsimp only)
  exact end_list (by k_asm) (by k_asm) (by k_mem) hi9 rfl
theorem c_zpower2 (w : World) (p : Addr) (xs : List Int) (t : Tok) : Ct w 85 2 [.ref p, .int 2 t] (fun h => LA h p xs ∧ xs.length ≤ 10 ∧ (∀ x ∈ xs, x.natAbs < 2 ^ 60)) (RetL (pmul [1] (pmul xs xs))) := by
  w_top off
  unfold Ct
  k_fill
  intro dp un gd cn cs a ccd cl outer A₀ base h₀ L m mg mb mean s Q E B F X T hk hp hd hu hret
  k_dflt refine' ro_enter ?k1 ?k2 ?k3 ?k5 ?kA ?kF ?kK ?k6 ?k7 ?k8 ?k9 ?kB ?kR ?_ ?c2 ?c3 ?c4 ?c5
  (case kA => exact rfl)
  (case kF => exact rfl)
  (case kK => assumption)
  (case k1 => k_asm)
  (case k2 => k_asm)
  (case k3 => k_asm)
  (case k5 => k_asm)
  (case k6 => k_is)
  (case k7 => k_is)
  (case k8 => ktr_room)
  (case k9 => k_dflt exact BindsTo.of_eq rfl)
  (case c5 => k_dflt decide)
  (case kB => k_dflt exact locs rfl)
  (case c2 => exact rfl)
  (case c3 => exact rfl)
  (case c4 => exact rfl)
  (case kR => assumption)
  intro g' L' h' F' N' B' X' T' kG'
  (try dsimp only)
  obtain ⟨h1, h2, h5⟩ := hp
  have h1 := h1.keeps kG'
  obtain ⟨vs, hL, hI⟩ := h1
  (try k_fold)
  k_steps
  all_goals (try dsimp only)
  refine of_halt ?_
  k_dflt refine' use_L (c_zmul w _ xs _ xs) ?k1 ?k2 ?k3 ?k4 ?kK ?kN ?kp ?kd ?ku ?_
  (case k1 => k_asm)
  (case k2 => k_asm)
  (case k3 => k_asm)
  (case k4 => k_asm)
  (case kK => first | exact rfl | assumption)
  (case kN => k_asm)
  (case kp => exact ⟨la_led (by k_asm) (by k_mem) hI, la_led (by k_asm) (by k_mem) hI, by omega, by omega, .inl h5⟩)
  (case kd => ktr_room)
  (case ku => ktr_units)
  intro r1 rv1 n1 h9 tk9 hi9 F9 N9 l9 k9
  (try dsimp only)
  (try k_fold)
  k_steps
  all_goals (try dsimp only)
  refine of_halt ?_
  k_dflt refine' use_L (c_zmul w _ [1] _ (pmul xs xs)) ?k1 ?k2 ?k3 ?k4 ?kK ?kN ?kp ?kd ?ku ?_
  (case k1 => k_asm)
  (case k2 => k_asm)
  (case k3 => k_asm)
  (case k4 => k_asm)
  (case kK => first | exact rfl | assumption)
  (case kN => k_asm)
  (case kp => exact ⟨la_led (by k_asm) (by k_mem) (.cons 1 _ .nil), la_led (by k_asm) (by k_mem) hi9, by simp, by have := pmul_len xs xs; omega, .inl one_small⟩)
  (case kd => ktr_room)
  (case ku => ktr_units)
  intro r2 rv2 n2 h8 tk8 hi8 F8 N8 l8 k8
  (try dsimp only)
  (try k_fold)
  k_steps
  all_goals (try dsimp only)
  exact end_list (by k_asm) (by k_asm) (by k_mem) hi8 rfl
theorem c_zpower3 (w : World) (p : Addr) (xs : List Int) (t : Tok) : Ct w 85 2 [.ref p, .int 3 t] (fun h => LA h p xs ∧ xs.length ≤ 10 ∧ (∀ x ∈ xs, x.natAbs < 2 ^ 60)) (RetL (pmul (pmul [1] xs) (pmul xs xs))) := by
  w_top off
  unfold Ct
  k_fill
  intro dp un gd cn cs a ccd cl outer A₀ base h₀ L m mg mb mean s Q E B F X T hk hp hd hu hret
  k_dflt refine' ro_enter ?k1 ?k2 ?k3 ?k5 ?kA ?kF ?kK ?k6 ?k7 ?k8 ?k9 ?kB ?kR ?_ ?c2 ?c3 ?c4 ?c5
  (case kA => exact rfl)
  (case kF => exact rfl)
  (case kK => assumption)
  (case k1 => k_asm)
  (case k2 => k_asm)
  (case k3 => k_asm)
  (case k5 => k_asm)
  (case k6 => k_is)
  (case k7 => k_is)
  (case k8 => ktr_room)
  (case k9 => k_dflt exact BindsTo.of_eq rfl)
  (case c5 => k_dflt decide)
  (case kB => k_dflt exact locs rfl)
  (case c2 => exact rfl)
  (case c3 => exact rfl)
  (case c4 => exact rfl)
  (case kR => assumption)
  intro g' L' h' F' N' B' X' T' kG'
  (try dsimp only)
  obtain ⟨h1, h2, h5⟩ := hp
  have h1 := h1.keeps kG'
  obtain ⟨vs, hL, hI⟩ := h1
  (try k_fold)
  k_steps
  all_goals (try dsimp only)
  refine of_halt ?_
  k_dflt refine' use_L (c_zmul w _ [1] _ xs) ?k1 ?k2 ?k3 ?k4 ?kK ?kN ?kp ?kd ?ku ?_
  (case k1 => k_asm)
  (case k2 => k_asm)
  (case k3 => k_asm)
  (case k4 => k_asm)
  (case kK => first | exact rfl | assumption)
  (case kN => k_asm)
  (case kp => exact ⟨la_led (by k_asm) (by k_mem) (.cons 1 _ .nil), la_led (by k_asm) (by k_mem) hI, by simp, by omega, .inl one_small⟩)
  (case kd => ktr_room)
  (case ku => ktr_units)
  intro r1 rv1 n1 h9 tk9 hi9 F9 N9 l9 k9
  (try dsimp only)
  (try k_fold)
  k_steps
  all_goals (try dsimp only)
  refine of_halt ?_
  k_dflt refine' use_L (c_zmul w _ xs _ xs) ?k1 ?k2 ?k3 ?k4 ?kK ?kN ?kp ?kd ?ku ?_
  (case k1 => k_asm)
  (case k2 => k_asm)
  (case k3 => k_asm)
  (case k4 => k_asm)
  (case kK => first | exact rfl | assumption)
  (case kN => k_asm)
  (case kp => exact ⟨la_led (by k_asm) (by k_mem) hI, la_led (by k_asm) (by k_mem) hI, by omega, by omega, .inl h5⟩)
  (case kd => ktr_room)
  (case ku => ktr_units)
  intro r2 rv2 n2 h8 tk8 hi8 F8 N8 l8 k8
  (try dsimp only)
  (try k_fold)
  k_steps
  all_goals (try dsimp only)
  refine of_halt ?_
  k_dflt refine' use_L (c_zmul w _ (pmul [1] xs) _ (pmul xs xs)) ?k1 ?k2 ?k3 ?k4 ?kK ?kN ?kp ?kd ?ku ?_
  (case k1 => k_asm)
  (case k2 => k_asm)
  (case k3 => k_asm)
  (case k4 => k_asm)
  (case kK => first | exact rfl | assumption)
  (case kN => k_asm)
  (case kp => exact ⟨la_led (by k_asm) (by k_mem) hi9, la_led (by k_asm) (by k_mem) hi8, by have := pmul_len [1] xs; simp only [List.length_singleton] at this; omega, by have := pmul_len xs xs; omega, .inl (by rw [pmul_one]; exact h5)⟩)
  (case kd => ktr_room)
  (case ku => ktr_units)
  intro r3 rv3 n3 h7 tk7 hi7 F7 N7 l7 k7
  (try dsimp only)
  (try k_fold)
  k_steps
  all_goals (try dsimp only)
  exact end_list (by k_asm) (by k_asm) (by k_mem) hi7 rfl
theorem c_zpower (w : World) (p : Addr) (xs : List Int) (k : Int) (t : Tok) (h0 : 0 ≤ k) (h3 : k ≤ 3) : Ct w 85 2 [.ref p, .int k t] (fun h => LA h p xs ∧ xs.length ≤ 10 ∧ (∀ x ∈ xs, x.natAbs < 2 ^ 60)) (RetL (ppow xs k)) := by
  rcases (by omega : k = 0 ∨ k = 1 ∨ k = 2 ∨ k = 3) with rfl | rfl | rfl | rfl
  · exact c_zpower0 w p xs t
  · exact c_zpower1 w p xs t
  · exact c_zpower2 w p xs t
  · exact c_zpower3 w p xs t
end NNc12
section NNBare
open PySem PySem.W PyProof.Rows PySem.Calls PySem.Spec
section
variable {prog : Program} {w : World} {A : Around} {E : Value → Shared → Prop} {s : Shared}
theorem ne_nil {a b : Addr} {xs : List Value} {ns : List Int} {Q : Value → Shared → Prop} (ha : s.heap.IsList a xs.toArray) (hb : s.heap.IsList b (List.toArray [])) (hi : IntsAre xs ns) (hu : A.units + 64 < cLine) (h : Q (.bool (decide (0 < ns.length))) s) :
    wpAny (model prog w) A (compareOp .NotEq (.ref a) (.ref b)) Q E s := by
  refine ke_ne_ints ha hb hi .nil hu ?_
  have e : (!decide (ns = [])) = decide (0 < ns.length) := by cases ns <;> simp
  rw [e]; exact h
theorem eq_nil {a b : Addr} {xs : List Value} {ns : List Int} {Q : Value → Shared → Prop} (ha : s.heap.IsList a xs.toArray) (hb : s.heap.IsList b (List.toArray [])) (hi : IntsAre xs ns) (hu : A.units + 64 < cLine) (h : Q (.bool (decide (ns.length = 0))) s) :
    wpAny (model prog w) A (compareOp .Eq (.ref a) (.ref b)) Q E s := by
  refine ke_eq_ints ha hb hi .nil hu ?_
  have e : (decide (ns = [])) = decide (ns.length = 0) := by cases ns <;> simp
  rw [e]; exact h
end
/-- a fresh list of the ints ys comes back, or the argument p itself -/
def RetA (p : Addr) (xs ys : List Int) (r : Value) (tl : Led) : Prop := RetL ys r tl ∨ (r = .ref p ∧ tl = [] ∧ ys = xs)
theorem end_arg {g h' : Heap} {s : Shared} {L' p : Addr} {m' : Str → Option Value} {xs ys : List Int} {tk' : Nat} (F : Fr g L' h' m') (e : ys = xs) : EndRo g s (RetA p xs ys) (.ref p) { s with heap := h', toks := tk' } :=
  ⟨L', m', [], h', tk', by rfl, F, News.nil, .inr ⟨by rfl, by rfl, e⟩⟩
theorem end_listA {g h' : Heap} {s : Shared} {L' a p : Addr} {m' : Str → Option Value} {news : Led} {vs : List Value} {n : Nat} {xs ys zs : List Int} {tk' : Nat} (F : Fr g L' h' m') (N : News g L' h' news) (hm : (a, listOf vs.toArray n) ∈ news) (hi : IntsAre vs zs) (e : zs = ys) :
    EndRo g s (RetA p xs ys) (.ref a) { s with heap := h', toks := tk' } :=
  ⟨L', m', [(a, listOf vs.toArray n)], h', tk', by rfl, F, fun p hp => by rw [List.mem_singleton.mp hp]; exact N _ hm, .inl ⟨a, vs, n, by rfl, by rfl, e ▸ hi⟩⟩
section
variable {w : World} {f : Addr} {need : Nat} {vs : List Value} {pre : Heap → Prop} {dp un : Nat} {gd : Option (List Code)} {cn : Str} {cs : Scope} {a : Addr} {ccd : Value} {cl : List (Str × Addr)} {outer : List Env} {A₀ : Around} {base h₀ : Heap} {L : Addr} {m mg mb : Str → Option Value} {mean : ExcName → Option Value} {s : Shared} {Q E : Value → Shared → Prop} {news : Led}
theorem use_A {p : Addr} {va : List Value} {na : Nat} {xs ys : List Int} (C : Ct w f need vs pre (RetA p xs ys)) (B : Below A₀ base outer h₀) (F : Fr h₀ L s.heap m) (X : (nn_hd.heap_39 w.params).In h₀) (T : Top nn_hd.view_39 (looseW nn_hd.view_39 []) mean mg mb h₀) (hk : cs.kind = .function) (N : News h₀ L s.heap news)
    (hm : (p, listOf (List.toArray va) na) ∈ news) (hi : IntsAre va xs) (hp : pre s.heap)
    (hd : dp + need < recursionLimit) (hu : un + 8 * need < cLine)
    (h : ∀ r rv n h' tk', IntsAre rv ys → Fr h₀ L h' m → News h₀ L h' ((r, listOf (List.toArray rv) n) :: news) → (∀ q ∈ news, q.1 ≠ p → q.1 ≠ r) → Keeps s.heap h' → Q (.ref r) { s with heap := h', toks := tk' }) :
    wpAny (model (RowW.prog (OpenRow.toRowW (OpenLaw.row Challenge.rw_nn0251_01))) w) (ktrTop dp un gd cn cs L a ccd cl outer) (call (.ref f) vs) Q E s := by
  refine C _ _ _ _ _ _ _ _ _ _ _ _ _ _ _ _ _ s Q E B F X T hk hp hd hu ?_
  rintro r tl h' tk' k nw (⟨r', rv, n, rfl, rfl, hi'⟩ | ⟨rfl, rfl, rfl⟩)
  · obtain ⟨e1, e2⟩ := nw _ (List.mem_singleton.mpr rfl)
    refine h r' rv n h' tk' hi' (F.keeps k) (fun q hq => ?_) (fun q hq _ e => ?_) k
    rcases List.mem_cons.mp hq with rfl | hq
    · refine ⟨e1, fun e => ?_, ?_⟩
      · obtain ⟨oL, _, _, hL, _⟩ := F.ns
        dsimp only at e e2
        rw [← e, e2] at hL; cases hL
      · cases e : h₀.get? r' with
        | none => rfl
        | some o => have := F.keep _ _ e; dsimp only at e2; rw [e2] at this; cases this
    · exact ⟨k _ _ (N q hq).1, (N q hq).2⟩
    · have := (N q hq).1
      dsimp only at e2
      rw [e, e2] at this; cases this
  · refine h p va na h' tk' hi (F.keeps k) (fun q hq => ?_) (fun q _ hp => hp) k
    rcases List.mem_cons.mp hq with rfl | hq
    · exact ⟨k _ _ (N _ hm).1, (N _ hm).2⟩
    · exact ⟨k _ _ (N q hq).1, (N q hq).2⟩
end
end NNBare
section NNTurns
open PySem PySem.W PyProof.Rows PySem.Calls PySem.Spec
theorem turns_range {σ : Type} {prog : Program} {w : World} {A : Around} {E : Value → Shared → Prop} {s : Shared} {env : Env} {h₀ : Heap} {L : Addr} {x : Str} {px : Pos} {body : List Stmt} {Q : Flow → Shared → Prop} {m₀ : Str → Option Value} {r : Addr} {a₀ b₀ : Int} {t₀ u₀ v₀ : Tok} {n : Nat}
    (Ld : σ → Led) (tmp : List Str) (P : Nat → σ → Prop) (c₀ : σ) (hL : env.locals = L) (hh : A.handled = none) (hr : IsRange s.heap r a₀ b₀ 1 t₀ u₀ v₀) (hsmall : Builtin.Range.small a₀ b₀ 1 = true) (hn : Builtin.Range.rangeSize a₀ b₀ 1 = (n : Int))
    (F : Fr h₀ L s.heap m₀) (N : News h₀ L s.heap (Ld c₀)) (hadr : ∀ c, (Ld c).map (·.1) = (Ld c₀).map (·.1)) (hp : P 0 c₀)
    (turn : ∀ (c : σ) (i : Nat) (k : Int) (t : Tok) (u : Str → Option Value) h tk own, k = a₀ + (i : Int) → i < n → P i c → OwnOff own ((Ld c).map (·.1)) →
      Fr h₀ L h (mk [] tmp u m₀) → News h₀ L h (Ld c ++ own) →
      wpAny (model prog w) A (assign (.Name x px) env (.int k t)) (fun _ s₃ => wpAny (model prog w) A (execs body env) (EnumPost h₀ L Ld (fun _ => []) tmp m₀ (P (i + 1)) own { s with heap := h, toks := tk } Q) E s₃) E { s with heap := h, toks := tk })
    (done : ∀ (c : σ) (u : Str → Option Value) h tk, P n c → Fr h₀ L h (mk [] tmp u m₀) → News h₀ L h (Ld c) → Q .next { s with heap := h, toks := tk }) :
    wpAny (model prog w) A (pyIter (.ref r)) (fun it s₂ => TurnsAt prog w A h₀ env (.Name x px) body Q E it s₂) E s := by
  subst hL
  refine wpAny_pyIter_range hr hsmall ?_
  have W : Walks prog w A s.heap.objs.size [s.heap.objs.size] [s.heap.objs.size] n (fun i v => i < n ∧ ∃ t, v = .int (a₀ + i * 1) t)
      (fun i h => IsRangeIter h s.heap.objs.size (a₀ + (i : Nat) * 1) ((n : Int) - (i : Nat)) 1) := (Walks.range hh _ a₀ 1 n).bound
  have em : ∀ m₁ : Str → Option Value, (∀ z, tmp.contains z = false → m₁ z = m₀ z) → m₁ = mk [] tmp m₁ m₀ := by
    intro m₁ h2
    funext y
    refine (kstB_eq (fun p hp => by cases hp) fun _ => ?_).symm
    show (if tmp.contains y = true then m₁ y else m₀ y) = m₁ y
    cases h3 : tmp.contains y with
    | true => simp
    | false => simp only [Bool.false_eq_true, if_false]; exact (h2 y h3).symm
  refine ⟨s.heap.objs.size, _, _, n, _, _, _, m₀, Ld c₀, fun i m nx => ∃ c : σ, nx = Ld c ∧ P i c ∧ (∀ z, tmp.contains z = false → m z = m₀ z), rfl, KTurns.ofWalks W (fun _ _ _ _ _ _ hq => wpAny_pure hq), ?_, ?_, ?_, ?_, F.push _, (fun p hp => ⟨Heap.get?_push_of_some _ (N p hp).1, (N p hp).2⟩), ⟨c₀, rfl, hp, fun _ _ => rfl⟩, ?_, ?_⟩
  · intro hm
    exact absurd F.ns.lt ((List.mem_singleton.mp hm) ▸ Nat.lt_irrefl _)
  · intro b hb
    rw [List.mem_singleton.mp hb]
    exact next_is_new F
  · intro p hp hI
    exact absurd (Heap.lt_size (N p hp).1) ((List.mem_singleton.mp hI) ▸ Nat.lt_irrefl _)
  · show IsRangeIter _ _ _ _ _
    rw [hn]; simpa using Heap.get?_push_size _ rfl
  · rintro i v m₁ news₁ h₁ tk₁ own hin ⟨_, t, rfl⟩ ⟨c, rfl, hPc, h2⟩ hofs hown hget hall hst F₁ N₁
    have e1 : a₀ + (i : Int) * 1 = a₀ + (i : Int) := by omega
    rw [e1]
    rw [em m₁ h2] at F₁
    have hoff : OwnOff own ((Ld c).map (·.1)) := fun p hp b hb => by
      have h3 := hown p hp
      rw [List.mem_singleton.mp h3]
      rw [hadr c] at hb
      obtain ⟨q, hq, rfl⟩ := List.mem_map.mp hb
      exact Ne.symm (Nat.ne_of_lt (Heap.lt_size (N q hq).1))
    have N₂ : News h₀ env.locals h₁ (Ld c ++ own) := fun p hp => N₁ p ((List.mem_append.mp hp).elim (fun h => List.mem_append.mpr (.inr h)) fun h => List.mem_append.mpr (.inl h))
    refine wpAny_mono (turn c i _ t m₁ h₁ tk₁ own rfl hin hPc hoff F₁ N₂) (fun _ s₃ hs₃ => wpAny_mono hs₃ (fun f s₂ p => ?_) fun _ _ e => e) fun _ _ e => e
    have fin : EnumEnd h₀ env.locals Ld (fun _ => []) tmp m₀ (P (i + 1)) own { s with heap := h₁, toks := tk₁ } s₂ → LoopStepU h₀ env.locals [s.heap.objs.size] own (fun m nx => ∃ c : σ, nx = Ld c ∧ P (i + 1) c ∧ (∀ z, tmp.contains z = false → m z = m₀ z)) { s with heap := h₁, toks := tk₁ } .next s₂ := by
      rintro ⟨c', h', tk, m', news', e, F', N', hsub, hown', hP', _, k2⟩
      refine ⟨rfl, h', tk, m', Ld c', e, F', fun p hp => N' p ((List.mem_append.mp hp).elim (hown' p) (hsub p)), fun q hq hm => ?_, c', rfl, hP', fun z hz => k2 z (fun p hp => by cases hp) hz⟩
      have h4 : q.1 ∈ (Ld c').map (·.1) := List.mem_map.mpr ⟨q, hq, rfl⟩
      rw [hadr c'] at h4
      obtain ⟨q', hq', e'⟩ := List.mem_map.mp h4
      have h5 := Heap.lt_size (N q' hq').1
      rw [e', List.mem_singleton.mp hm] at h5
      exact absurd h5 (Nat.lt_irrefl _)
    cases f with
    | ret v => exact .ret p
    | brk => exact .brk p
    | next => exact .next (fin p)
    | cont => exact .cont (fin p)
  · rintro h' tk m' news' F' N' _ ⟨c, rfl, hP', k2⟩
    rw [em m' k2] at F'
    exact done c m' h' tk hP' F' N'
structure TSt where
  va : List Value
  k : Nat
  as : List Int
  oc : Obj
def TLd (D C : Addr) (rest : Led) (c : TSt) : Led := (D, listOf (List.toArray c.va) c.k) :: (C, c.oc) :: rest
def TP (P : List Int → Prop) (c : TSt) : Prop := IntsAre c.va c.as ∧ P c.as ∧ ∃ v, c.oc.data = .cell v
def TPs (_ : TSt) : List (Str × Value) := []

theorem turns_rangeF {prog : Program} {w : World} {A : Around} {E : Value → Shared → Prop} {s : Shared} {env : Env} {h₀ : Heap} {L D C : Addr} {x : Str} {px : Pos} {body : List Stmt} {Q : Flow → Shared → Prop} {m₀ : Str → Option Value} {r : Addr} {a₀ b₀ : Int} {t₀ u₀ v₀ : Tok} {n : Nat} {all rest : Led} {va0 : List Value} {n0 : Nat} {as0 : List Int} {oc : Obj} {v0 : Option Value}
    (hL : env.locals = L) (hh : A.handled = none) (hr : IsRange s.heap r a₀ b₀ 1 t₀ u₀ v₀) (hsmall : Builtin.Range.small a₀ b₀ 1 = true) (hn : Builtin.Range.rangeSize a₀ b₀ 1 = (n : Int))
    (F : Fr h₀ L s.heap m₀) (N : News h₀ L s.heap all) (hm : (D, listOf (List.toArray va0) n0) ∈ all) (hi : IntsAre va0 as0) (hC : (C, oc) ∈ all) (hd : oc.data = .cell v0) (hrest : ∀ q ∈ rest, q ∈ all) (tmp : List Str) (P : Nat → List Int → Prop) (hp : P 0 as0)
    (turn : ∀ (i : Nat) (k : Int) (t : Tok) (u : Str → Option Value) h tk own va kk as oc v, k = a₀ + (i : Int) → i < n → IntsAre va as → P i as → oc.data = .cell v → OwnOff own (D :: C :: rest.map (·.1)) →
      Fr h₀ L h (mk [] tmp u m₀) → News h₀ L h ((D, listOf (List.toArray va) kk) :: (C, oc) :: (rest ++ own)) →
      wpAny (model prog w) A (assign (.Name x px) env (.int k t)) (fun _ s₃ => wpAny (model prog w) A (execs body env) (EnumPost h₀ L (TLd D C rest) TPs tmp m₀ (TP (P (i + 1))) own { s with heap := h, toks := tk } Q) E s₃) E { s with heap := h, toks := tk })
    (done : ∀ va kk as oc (u : Str → Option Value) h tk, IntsAre va as → P n as → Fr h₀ L h (mk [] tmp u m₀) → News h₀ L h ((D, listOf (List.toArray va) kk) :: (C, oc) :: rest) → Q .next { s with heap := h, toks := tk }) :
    wpAny (model prog w) A (pyIter (.ref r)) (fun it s₂ => TurnsAt prog w A h₀ env (.Name x px) body Q E it s₂) E s := by
  refine turns_range (TLd D C rest) tmp (fun i => TP (P i)) ⟨va0, n0, as0, oc⟩ hL hh hr hsmall hn F (fun q hq => ?_) (fun _ => rfl) ⟨hi, hp, v0, hd⟩ ?_ ?_
  · rcases List.mem_cons.mp hq with rfl | hq
    · exact N _ hm
    rcases List.mem_cons.mp hq with rfl | hq
    · exact N _ hC
    exact N _ (hrest _ hq)
  · rintro ⟨va, kk, as, oc⟩ i k t u h tk own hk hlt ⟨a, b, v, c⟩ hoff F N
    exact turn i k t u h tk own va kk as oc v hk hlt a b c hoff F N
  · rintro ⟨va, kk, as, oc⟩ u h tk ⟨a, b, _⟩ F N
    exact done va kk as oc u h tk a b F N
theorem turnsF_end {h₀ h' : Heap} {L D C : Addr} {rest own news' : Led} {tmp : List Str} {m₀ m' : Str → Option Value} {P : List Int → Prop} {s₁ : Shared} {tk : Nat} {va : List Value} {k : Nat} {as : List Int} {oc : Obj} {v : Option Value}
    (F : Fr h₀ L h' m') (N : News h₀ L h' news') (hm : (D, listOf (List.toArray va) k) ∈ news') (hC : (C, oc) ∈ news') (hrest : ∀ q ∈ rest, q ∈ news') (ho : ∀ q ∈ own, q ∈ news') (hi : IntsAre va as) (hd : oc.data = .cell v) (hP : P as) (hr : ∀ z, tmp.contains z = false → m' z = m₀ z) :
    EnumEnd h₀ L (TLd D C rest) TPs tmp m₀ (TP P) own s₁ { s₁ with heap := h', toks := tk } :=
  enum_end ⟨va, k, as, oc⟩ F N (fun q hq => by
    rcases List.mem_cons.mp hq with rfl | hq
    · exact hm
    rcases List.mem_cons.mp hq with rfl | hq
    · exact hC
    exact hrest q hq) ho ⟨hi, hP, v, hd⟩ (fun p hp => by cases hp) (fun z _ h => hr z h)
abbrev rangeObj (a b c : Int) (t u v : Tok) : Obj := { cls := .type "range", dict := none, data := .fields #[.int a t, .int b u, .int c v], slots := #[] }
theorem range2_led {prog : Program} {w : World} {A : Around} {E : Value → Shared → Prop} {s : Shared} {h₀ : Heap} {L : Addr} {m : Str → Option Value} {Q : Value → Shared → Prop} {a b : Int} {t u : Tok} {news : Led} (F : Fr h₀ L s.heap m) (N : News h₀ L s.heap news)
    (h : ∀ D h' tk v₁, Fr h₀ L h' m → News h₀ L h' ((D, rangeObj a b 1 t u v₁) :: news) → (∀ p ∈ news, p.1 < D) → Q (.ref D) { s with heap := h', toks := tk }) :
    wpAny (model prog w) A (call (.type "range") [.int a t, .int b u]) Q E s :=
  call_range_2 (h _ _ _ _ (F.push _) (News.push F N _) fun p hp => Heap.lt_size (N p hp).1)
theorem ixA {k k' lo hi : Int} (h2 : k' < lo + ((hi - lo).toNat : Int)) (h : hi ≤ k + 1) (h1 : lo ≤ k') : 0 ≤ k - k' := by omega
theorem ixB {n k' lo hi : Int} (h2 : k' < lo + ((hi - lo).toNat : Int)) (h : hi ≤ n) (h1 : lo ≤ k') : k' < n := by omega
theorem ixC {n : Nat} {k' lo hi : Int} (h2 : k' < lo + ((hi - lo).toNat : Int)) (h : hi ≤ (n : Int)) (h1 : lo ≤ k') (hn : n ≤ 10) : k' < 2 ^ 63 := by omega
end NNTurns
local macro_rules | `(tactic| walk_at "compareOp NotEq ref ref") => `(tactic| (k_here; (with_reducible show wpAny _ _ (compareOp CmpOp.NotEq (Value.ref _) (Value.ref _)) _ _ _); k_dflt (refine' ne_nil ?ka ?kb ?ki ?ku ?_; (case ka => kmk_list); (case kb => kmk_list); (case ki => first | assumption | exact .nil); (case ku => ktr_units); k_whole)))
local macro_rules | `(tactic| walk_at "exec For Name Call cons nil") => `(tactic| (k_here; (rename Fr _ _ _ _ => lF'); (with_unfolding_all refine' For_turns lF' ?_; k_whole)))
section NNc14
local macro_rules | `(tactic| walk_at "call type:range") => `(tactic| (k_here; (with_reducible show wpAny _ _ (call (Value.type _) [Value.int _ _, Value.int _ _]) _ _ _); refine halt_of ?_))
local macro_rules | `(tactic| size_fits) => `(tactic| assumption)
local macro_rules | `(tactic| omega) => `(tactic| first | omega -splitDisjunctions | with_reducible exact ixA (by assumption) (by assumption) (by assumption) | with_reducible exact ixB (by assumption) (by assumption) (by assumption) | with_reducible exact ixC (by assumption) (by assumption) (by assumption) (by assumption))
open PySem PySem.W PyProof.Rows PySem.Calls PySem.Spec

theorem get_ok {xs : List Int} {n : Nat} {b : Int} (h : ∀ x ∈ xs, x.natAbs < 2 ^ 60) : IntMulOk (xs.getD n 0) b := by
  have h2 : (xs.getD n 0).natAbs < 2 ^ 60 := by
    rw [List.getD_eq_getElem?_getD]
    cases e : xs[n]? with
    | none => decide
    | some x => exact h x (List.mem_of_getElem? e)
  exact IntMulOk.of_left (PySem.intBits_le_64 (by omega) (by omega))
local macro_rules | `(tactic| mul_fits) => `(tactic| exact get_ok (by assumption))

theorem cv_zero {bs : List Int} : ∀ (xs : List Int) (k : Nat), xs.length + bs.length ≤ k + 1 → cv xs bs k = 0
  | [], _, _ => rfl
  | x :: r, k, h => by
    simp only [List.length_cons] at h
    have e : bs.getD k 0 = 0 := by rw [List.getD_eq_getElem?_getD, List.getElem?_eq_none (by omega)]; rfl
    cases k with
    | zero => rw [cv, e, Int.mul_zero]; rfl
    | succ j =>
      have h2 : r.length + bs.length ≤ j + 1 := by omega
      have ih := cv_zero r j h2
      rw [cv, e, Int.mul_zero, ih]; rfl
theorem cv_full (bs : List Int) : ∀ (xs : List Int) (k : Nat), cv (xs.take (k + 1)) bs k = cv xs bs k
  | [], _ => by simp
  | x :: r, 0 => by simp [cv]
  | x :: r, j + 1 => by rw [List.take_succ_cons, cv, cv, cv_full bs r j]
theorem cv_sum {xs bs : List Int} {k lo : Nat} : ∀ n, lo + n ≤ xs.length → lo + n ≤ k + 1 → cv (xs.take (lo + n)) bs k = cv (xs.take lo) bs k + ((List.range n).map fun j => xs.getD (lo + j) 0 * bs.getD (k - (lo + j)) 0).sum
  | 0, _, _ => by simp
  | n + 1, h1, h2 => by
    have hx : xs[lo + n]? = some xs[lo + n] := List.getElem?_eq_getElem (by omega)
    rw [← Nat.add_assoc, cv_take hx, cv_sum n (by omega) (by omega), List.range_succ, List.map_append, List.sum_append, if_pos (by omega)]
    have e : xs.getD (lo + n) 0 = xs[lo + n] := by rw [List.getD_eq_getElem?_getD, hx]; rfl
    simp only [List.map_cons, List.map_nil, List.sum_cons, List.sum_nil, e]
    omega
theorem times_step {xs bs as : List Int} {i : Nat} {k lo hi : Int} (hx : 0 < xs.length) (e1 : lo = ((i + 1 - bs.length : Nat) : Int)) (e2 : hi = ((min xs.length (i + 1) : Nat) : Int)) (e3 : k = i) (e4 : i < xs.length + bs.length - 1) (e5 : as = (List.range i).map (cv xs bs)) :
    as ++ [(List.map (fun k' : Int => xs.getD k'.toNat 0 * bs.getD (k - k').toNat 0) (rangeKs lo (hi - lo).toNat)).sum] = List.map (cv xs bs) (List.range (i + 1)) := by
  subst e1 e2 e3 e5
  rw [List.range_succ, List.map_append, List.map_singleton]
  congr 2
  unfold rangeKs
  rw [List.map_map]
  have h1 : (((min xs.length (i + 1) : Nat) : Int) - ((i + 1 - bs.length : Nat) : Int)).toNat = min xs.length (i + 1) - (i + 1 - bs.length) := by omega
  rw [h1]
  have h2 := cv_sum (xs := xs) (bs := bs) (k := i) (lo := i + 1 - bs.length) (min xs.length (i + 1) - (i + 1 - bs.length)) (by omega) (by omega)
  have h3 : i + 1 - bs.length + (min xs.length (i + 1) - (i + 1 - bs.length)) = min xs.length (i + 1) := by omega
  have h4 : cv (xs.take (i + 1 - bs.length)) bs i = 0 := by
    by_cases h : bs.length ≤ i + 1
    · exact cv_zero _ _ (by rw [List.length_take]; omega)
    · rw [show i + 1 - bs.length = 0 by omega]; rfl
  have h5 : xs.take (min xs.length (i + 1)) = xs.take (i + 1) := by
    by_cases h : i + 1 ≤ xs.length
    · rw [Nat.min_eq_right h]
    · rw [Nat.min_eq_left (by omega), List.take_of_length_le (by omega), List.take_of_length_le (by omega)]
  rw [h3, h4, h5, cv_full, Int.zero_add] at h2
  rw [h2]
  congr 1
  refine List.map_congr_left fun j _ => ?_
  simp only [Function.comp]
  rw [show (((i + 1 - bs.length : Nat) : Int) + (j : Int)).toNat = i + 1 - bs.length + j by omega, show ((i : Int) - (((i + 1 - bs.length : Nat) : Int) + (j : Int))).toNat = i - (i + 1 - bs.length + j) by omega]

theorem times_nil {xs bs : List Int} (h : xs.length = 0 ∨ bs.length = 0) : pmul xs bs = [] := by
  unfold pmul
  rw [if_pos (h.imp List.eq_nil_of_length_eq_zero List.eq_nil_of_length_eq_zero)]

theorem ia_push {va : List Value} {as : List Int} {x : Int} {t : Tok} (h : IntsAre va as) : IntsAre (va.toArray.toList.concat (Value.int x t)) (as ++ [x]) := by
  rw [List.concat_eq_append]
  exact h.append (.cons x t .nil)

theorem c_times (w : World) (p : Addr) (xs : List Int) (q : Addr) (bs : List Int) : Ct w 171 10 [.ref p, .ref q] (fun h => LA h p xs ∧ LA h q bs ∧ xs.length ≤ 10 ∧ bs.length ≤ 10 ∧ (∀ x ∈ xs, x.natAbs < 2 ^ 60)) (RetL (pmul xs bs)) := by
  w_top off
  unfold Ct
  k_fill
  intro dp un gd cn cs a ccd cl outer A₀ base h₀ L m mg mb mean s Q E B F X T hk hp hd hu hret
  k_dflt refine' ro_enterC ?k1 ?k2 ?k3 ?k5 ?kA ?kF ?kK ?k6 ?k7 ?k8 ?k9 ?kB ?kD ?kR ?_ ?c2 ?c3 ?c4
  (case kA => exact rfl)
  (case kF => exact rfl)
  (case kK => assumption)
  (case k1 => k_asm)
  (case k2 => k_asm)
  (case k3 => k_asm)
  (case k5 => k_asm)
  (case k6 => k_is)
  (case k7 => k_is)
  (case k8 => ktr_room)
  (case k9 => k_dflt exact BindsTo.of_eq rfl)
  (case kB => k_dflt exact rfl)
  (case kD => decide +kernel)
  (case c2 => exact rfl)
  (case c3 => exact rfl)
  (case c4 => exact rfl)
  (case kR => assumption)
  intro g' L' h' tk' cells' F' N' Y' B' X' T' kG'
  obtain ⟨o1', o2', o3', hE', d1', d2', d3'⟩ := CellsAre.three Y'
  subst hE'
  clear Y'
  (try simp only [List.nil_append, List.cons_append] at N')
  replace F' : Fr g' L' h' (fun _ => none) := F'
  replace d1' : o1'.data = .cell (none) := d1'
  replace d2' : o2'.data = .cell (some (.ref q)) := d2'
  replace d3' : o3'.data = .cell (some (.ref p)) := d3'
  (try dsimp only)
  obtain ⟨h1, h2, h3, h4, h5⟩ := hp
  have h1 := h1.keeps kG'
  have h2 := h2.keeps kG'
  obtain ⟨vs, hL, hI⟩ := h1
  obtain ⟨vs2, hL2, hI2⟩ := h2
  (try k_fold)
  k_steps
  all_goals (try dsimp only)
  · refine of_halt ?_
    have hx0 : xs ≠ [] := by intro e; subst e; simp_all
    have hb0 : bs ≠ [] := by intro e; subst e; simp_all
    have hN : ((xs.length : Int) + bs.length - 1 - 0).toNat = xs.length + bs.length - 1 := by omega
    k_dflt refine' turns_rangeF (L := L') (C := L' + 1 + 1 + 1) (rest := [(L' + 1 + 1, _), (L' + 1, _)]) rfl rfl (by k_asm) (small_one (by omega) (by omega) (by omega) (by omega)) (rangeSize_nat _ _) (by k_asm) (by k_asm) (va0 := []) (by k_mem) .nil (by k_mem) (by k_asm) (List.forall_mem_cons.mpr ⟨by k_mem, List.forall_mem_singleton.mpr (by k_mem)⟩) [Str.ofString "lows"] (fun i as => as = (List.range i).map (cv xs bs)) ?hp ?turn ?done
    case hp => rfl
    case done =>
      intro va kk as oc u h tk hi hP F9 N9
      (try dsimp only)
      (try k_fold)
      k_steps
      all_goals (try dsimp only)
      exact end_list (by k_asm) (by k_asm) (by k_mem) hi (by rw [hP, hN]; simp [pmul, hx0, hb0])
    case turn =>
      intro i k t2 u h tk own va kk as oc v hk hi9 hi hP hd9 hoff F9 N9
      (try simp only [List.nil_append, List.cons_append, List.map_cons, List.map_nil] at hoff N9)
      (try dsimp only)
      (try k_fold)
      k_steps
      all_goals (try dsimp only)
      refine of_halt ?_
      have hv9 : va.toArray.size ≤ sizeLine := by
        have := hi.length
        rw [sizeLine_eq]; simp [this, hP]; omega
      have hb9 : 0 < bs.length := List.length_pos_iff.mpr hb0
      have hx9 : 0 < xs.length := List.length_pos_iff.mpr hx0
      have hlo : (if k - (bs.length : Int) + 1 > 0 then k - (bs.length : Int) + 1 else 0) = ((i + 1 - bs.length : Nat) : Int) := by split <;> omega
      have hhi : (if (xs.length : Int) - 1 < k then (xs.length : Int) - 1 else k) + 1 = ((min xs.length (i + 1) : Nat) : Int) := by split <;> omega
      generalize (if k - (bs.length : Int) + 1 > 0 then k - (bs.length : Int) + 1 else 0) = lo at hlo ⊢
      generalize (if (xs.length : Int) - 1 < k then (xs.length : Int) - 1 else k) + 1 = hi' at hhi ⊢
      have g1 : 0 ≤ lo := by omega
      have g2 : k - (bs.length : Int) + 1 ≤ lo := by omega
      have g3 : hi' ≤ (xs.length : Int) := by omega
      have g4 : hi' ≤ k + 1 := by omega
      have g5 : lo ≤ k + 1 := by omega
      have g6 : 0 ≤ hi' := by omega
      have g7 : 0 ≤ k := by omega
      have g8 : k < 20 := by omega
      have q1 : Stop (lo = ((i + 1 - bs.length : Nat) : Int) ∧ hi' = ((min xs.length (i + 1) : Nat) : Int) ∧ k = i ∧ i < xs.length + bs.length - 1 ∧ as = (List.range i).map (cv xs bs)) := ⟨hlo, hhi, by omega, by omega, hP⟩
      clear hlo hhi hi9 hk hP
      k_dflt refine' range2_led ?F9a ?N9a ?_
      case F9a => k_asm
      case N9a => k_asm
      intro D9 h9 tk9 v9 F8 N8 l8
      k_lt l8
      (try k_sweep)
      (try dsimp only)
      k_steps
      (rename News _ _ _ _ => NN9)
      have hR9 := (NN9 (_, rangeObj _ _ _ _ _ _) (by k_mem)).1
      k_steps
      all_goals (try dsimp only)
      all_goals (try k_unfold)
      k_dflt (refine turnsF_end (C := L' + 1 + 1 + 1) (rest := [(L' + 1 + 1, o2'), (L' + 1, o3')]) (by k_asm) (by k_asm) (by k_mem) (by k_mem) (List.forall_mem_cons.mpr ⟨by k_mem, List.forall_mem_singleton.mpr (by k_mem)⟩) (fun q hq => by first | exact hq | exact List.mem_cons_of_mem _ hq | (simp [hq])) (by exact ia_push hi) (by k_asm) ?_ ?_)
      · obtain ⟨e1, e2, e3, e4, e5⟩ := q1
        exact times_step hx9 e1 e2 e3 e4 e5
      · exact (by intro z9 b9; simp only [List.contains_cons, List.contains_nil, Bool.or_false, Bool.or_eq_false_iff, beq_eq_false_iff_ne, ne_eq] at b9; simp [mk, kstB, b9])
  · refine of_halt ?_
    k_dflt refine' turns_rangeF (L := L') (C := L' + 1 + 1 + 1) (n := 0) (rest := []) rfl rfl (by k_asm) (by decide) (by decide) (by k_asm) (by k_asm) (va0 := []) (by k_mem) .nil (by k_mem) (by k_asm) (List.forall_mem_nil _) [Str.ofString "lows"] (fun i as => as = []) ?hp ?turn ?done
    case hp => rfl
    case turn => intro i k t2 u h tk own va kk as oc v hk hi9; exact absurd hi9 (Nat.not_lt_zero _)
    case done =>
      intro va kk as oc u h tk hi hP F9 N9
      (try dsimp only)
      (try k_fold)
      k_steps
      all_goals (try dsimp only)
      exact end_list (by k_asm) (by k_asm) (by k_mem) hi (by rw [hP, times_nil (by omega)])
  · refine of_halt ?_
    k_dflt refine' turns_rangeF (L := L') (C := L' + 1 + 1 + 1) (n := 0) (rest := []) rfl rfl (by k_asm) (by decide) (by decide) (by k_asm) (by k_asm) (va0 := []) (by k_mem) .nil (by k_mem) (by k_asm) (List.forall_mem_nil _) [Str.ofString "lows"] (fun i as => as = []) ?hp ?turn ?done
    case hp => rfl
    case turn => intro i k t2 u h tk own va kk as oc v hk hi9; exact absurd hi9 (Nat.not_lt_zero _)
    case done =>
      intro va kk as oc u h tk hi hP F9 N9
      (try dsimp only)
      (try k_fold)
      k_steps
      all_goals (try dsimp only)
      exact end_list (by k_asm) (by k_asm) (by k_mem) hi (by rw [hP, times_nil (by omega)])
end NNc14
local macro_rules | `(tactic| walk_at "nn pad") => `(tactic| fail)
local macro_rules | `(tactic| walk_at "nn pad") => `(tactic| fail)
section NNBox
open PySem PySem.W PyProof.Rows PySem.Calls PySem.Spec
def KeepsBut (D : Addr) (h h' : Heap) : Prop := ∀ b o, b ≠ D → h.get? b = some o → h'.get? b = some o
abbrev boxObj (S : Addr) (i z : Int) (t1 t2 : Tok) (n : Nat) : Obj := listOf (List.toArray [.ref S, .int i t1, .int z t2]) n
def BoxOk (i z : Int) : Prop := 0 ≤ i ∧ i ≤ 40 ∧ 0 ≤ z ∧ z < 4294967296
/-- what the end of a callee that turns the box says -/
def EndBx (g : Heap) (s : Shared) (D S : Addr) (Post : Value → Led → Prop) (v : Value) (s' : Shared) : Prop :=
  ∃ L' m' tl h' tk' i' z' t1' t2' n', s' = { s with heap := h', toks := tk' } ∧ Fr g L' h' m' ∧ News g L' h' ((D, boxObj S i' z' t1' t2' n') :: tl) ∧ (∀ p ∈ tl, p.1 ≠ D) ∧ BoxOk i' z' ∧ Post v tl
def CtB (w : World) (f : Addr) (need : Nat) (vs : List Value) (D S : Addr) (ns : List Int) (Post : Value → Led → Prop) : Prop :=
  ∀ (dp un : Nat) (gd : Option (List Code)) (cn : Str) (cs : Scope) (a : Addr) (ccd : Value) (cl : List (Str × Addr)) (outer : List Env) (A₀ : Around) (base h₀ : Heap) (L : Addr) (m mg mb : Str → Option Value) (mean : ExcName → Option Value) (s : Shared) (Q E : Value → Shared → Prop) (i z : Int) (t1 t2 : Tok) (n : Nat),
    Below A₀ base outer h₀ → Fr h₀ L s.heap m → (nn_hd.heap_39 w.params).In h₀ → Top nn_hd.view_39 (looseW nn_hd.view_39 []) mean mg mb h₀ → cs.kind = .function → News h₀ L s.heap [(D, boxObj S i z t1 t2 n)] → S ≠ D → LA s.heap S ns → ns.length ≤ 40 → BoxOk i z →
    dp + need < recursionLimit → un + 8 * need < cLine →
    (∀ r tl h' tk' i' z' t1' t2' n', KeepsBut D s.heap h' → h'.get? D = some (boxObj S i' z' t1' t2' n') → BoxOk i' z' → NewIn s.heap h' tl → Post r tl → Q r { s with heap := h', toks := tk' }) →
    wpAny (model (RowW.prog (OpenRow.toRowW (OpenLaw.row Challenge.rw_nn0251_01))) w) (ktrTop dp un gd cn cs L a ccd cl outer) (call (.ref f) vs) Q E s

theorem bx_end {s : Shared} {g h' : Heap} {D S L' : Addr} {tk' : Nat} {i' z' : Int} {t1' t2' : Tok} {n' : Nat} {m' : Str → Option Value} {Post : Value → Led → Prop} {r : Value} {tl : Led} {Q : Value → Shared → Prop}
    (hret : ∀ r tl h' tk' i' z' t1' t2' n', KeepsBut D s.heap h' → h'.get? D = some (boxObj S i' z' t1' t2' n') → BoxOk i' z' → NewIn s.heap h' tl → Post r tl → Q r { s with heap := h', toks := tk' })
    (kG : KeepsBut D s.heap g) (F2 : Fr g L' h' m') (N2 : News g L' h' ((D, boxObj S i' z' t1' t2' n') :: tl)) (hne : ∀ p ∈ tl, p.1 ≠ D) (hb : BoxOk i' z') (P2 : Post r tl) : Q r { s with heap := h', toks := tk' } := by
  refine hret r tl h' tk' i' z' t1' t2' n' (fun b o hb e => F2.keep _ _ (kG b o hb e)) (N2 _ (List.mem_cons_self ..)).1 hb (fun q hq => ?_) P2
  have z := N2 q (List.mem_cons_of_mem _ hq)
  refine ⟨z.1, ?_⟩
  cases e : s.heap.get? q.1 with
  | none => rfl
  | some o => have := kG _ _ (hne q hq) e; rw [z.2.2] at this; cases this

theorem bx_enter {prog : Program} {w : World} {A₀ A : Around} {base h₀ : Heap} {outer : List Env} {L : Addr} {m : Str → Option Value} {env : Env} {s : Shared} {K : Frag} {p : Program} {loose : List Str} {mean : ExcName → Option Value} {mg mb : Str → Option Value} {Q E : Value → Shared → Prop} {Post : Value → Led → Prop}
    {name qual : Str} {params : Arguments} {body : List Stmt} {scope : Scope} {dV kV doc pm cdv ct oc : Value} {an od : Option Addr} {osl : Array (Option Value)} {f : Addr} {vs : List Value} {binds : List (Str × Value)} {D S : Addr} {o : Obj}
    (B : Below A₀ base outer h₀) (F : Fr h₀ L s.heap m) (X₀ : K.In h₀) (T : Top p loose mean mg mb h₀) (N : News h₀ L s.heap [(D, o)]) (hA : A.frames = some (env :: outer)) (hf : env.frame = some L) (hke : env.scope.kind = .function)
    (ho : K.lookup f = some ⟨oc, od, .func (fnOf name qual params body scope dV kV doc pm an cdv ct), osl⟩) (hcd : codeIn K cdv qual = true) (hroom : A.depth < recursionLimit)
    (hbind : BindsTo s (fnOf name qual params body scope dV kV doc pm an cdv ct) ⟨vs, []⟩ binds) (hloc : ∀ y ∈ binds, scope.names.lookup y.1 = some .local)
    (hret : ∀ r tl h' tk' i' z' t1' t2' n', KeepsBut D s.heap h' → h'.get? D = some (boxObj S i' z' t1' t2' n') → BoxOk i' z' → NewIn s.heap h' tl → Post r tl → Q r { s with heap := h', toks := tk' })
    (h : ∀ g L' h₁, Fr g L' h₁ (fun y => binds.reverse.lookup y) → News g L' h₁ [(D, o)] → Below A base (env :: outer) g → K.In g → Top p loose mean mg mb g → KeepsBut D s.heap g →
      wpAny (model prog w) (A.deeper (envOf qual scope L' f cdv)) (execs body (envOf qual scope L' f cdv))
        (fun fl s' => EndBx g s D S Post (match fl with | .ret v => v | _ => .none) s')
        (fun _ _ => False)
        { s with heap := h₁, toks := s.toks + binds.length })
    (hco : scope.isCoroutine = false) (hgen : scope.isGenerator = false) (hk : scope.kind = .function)
    (hcell : ∀ x ∈ scope.names, x.2 ≠ .cell) : wpAny (model prog w) A (call (.ref f) vs) Q E s := by
  refine wpAny_call ?_
  refine code_defG (news := [(D, o)]) B F X₀ N T hA hf hke ho hcd hroom hbind hloc ?_ hco hgen hk hcell
  intro g L' h₁ FG F' N' B' X' T' GS
  have kG : KeepsBut D s.heap g := fun b o hb e => GS b o e (by simpa using hb)
  refine wpAny_mono (h g L' h₁ F' N' B' X' T' kG) (fun fl s' z => ?_) (fun e s' z => z.elim)
  obtain ⟨L2, m2, tl, h', tk', i', z', t1', t2', n', rfl, F2, N2, hne, hb, P2⟩ := z
  exact ⟨L2, m2, (D, boxObj S i' z' t1' t2' n') :: tl, F2, N2, fun _ _ => bx_end hret kG F2 N2 hne hb P2⟩

/-- an int below a bound comes back -/
def RetLt (k : Int) (r : Value) (tl : Led) : Prop := tl = [] ∧ ∃ x t, r = .int x t ∧ 0 ≤ x ∧ x < k
theorem end_lt {g h' : Heap} {s : Shared} {D S L' : Addr} {m' : Str → Option Value} {k x : Int} {t : Tok} {tk' : Nat} {i' z' : Int} {t1' t2' : Tok} {n' : Nat} (F : Fr g L' h' m') (N : News g L' h' [(D, boxObj S i' z' t1' t2' n')]) (hb : BoxOk i' z') (h0 : 0 ≤ x) (h1 : x < k) :
    EndBx g s D S (RetLt k) (.int x t) { s with heap := h', toks := tk' } :=
  ⟨L', m', [], h', tk', i', z', t1', t2', n', by rfl, F, N, (fun p hp => nomatch hp), hb, by rfl, x, t, by rfl, h0, h1⟩
end NNBox
section NNc15
open PySem PySem.W PyProof.Rows PySem.Calls PySem.Spec
theorem c_take (w : World) (D S : Addr) (ns : List Int) (k : Int) (t : Tok) (hk0 : 0 < k) (hk1 : k < 1000) : CtB w 156 1 [.ref D, .int k t] D S ns (RetLt k) := by
  w_top off
  unfold CtB
  k_fill
  intro dp un gd cn cs a ccd cl outer A₀ base h₀ L m mg mb mean s Q E i z t1 t2 n B F X T hk N hSD hLA hlen hbx hd hu hret
  k_dflt refine' bx_enter ?k1 ?k2 ?k3 ?k5 ?kN ?kA ?kF ?kK ?k6 ?k7 ?k8 ?k9 ?kB ?kR ?_ ?c2 ?c3 ?c4 ?c5
  (case kA => exact rfl)
  (case kF => exact rfl)
  (case kK => assumption)
  (case k1 => k_asm)
  (case k2 => k_asm)
  (case k3 => k_asm)
  (case k5 => k_asm)
  (case kN => k_asm)
  (case k6 => k_is)
  (case k7 => k_is)
  (case k8 => ktr_room)
  (case k9 => k_dflt exact BindsTo.of_eq rfl)
  (case c5 => k_dflt decide)
  (case kB => k_dflt exact locs rfl)
  (case c2 => exact rfl)
  (case c3 => exact rfl)
  (case c4 => exact rfl)
  (case kR => assumption)
  intro g' L' h' F' N' B' X' T' kG'
  (try dsimp only)
  obtain ⟨b1, b2, b3, b4⟩ := hbx
  obtain ⟨vs, ⟨oS, hoS, hoS2⟩, hI⟩ := hLA
  have hL : g'.IsList S vs.toArray := ⟨oS, kG' _ _ hSD hoS, hoS2⟩
  (try k_fold)
  k_steps
  all_goals (try dsimp only)
  · k_dflt exact end_lt (by k_asm) (by k_asm) ⟨by omega, by omega, Int.fmod_nonneg_of_pos _ (by decide), Int.fmod_lt_of_pos _ (by decide)⟩ (Int.fmod_nonneg_of_pos _ hk0) (Int.fmod_lt_of_pos _ hk0)
  · k_dflt exact end_lt (by k_asm) (by k_asm) ⟨by omega, by omega, Int.fmod_nonneg_of_pos _ (by decide), Int.fmod_lt_of_pos _ (by decide)⟩ (Int.fmod_nonneg_of_pos _ hk0) (Int.fmod_lt_of_pos _ hk0)
end NNc15
section NNRow
open PySem PySem.W PyProof.Rows PySem.Calls PySem.Spec
theorem bx_enterC {prog : Program} {w : World} {A₀ A : Around} {base h₀ : Heap} {outer : List Env} {L : Addr} {m : Str → Option Value} {env : Env} {s : Shared} {K : Frag} {p : Program} {loose : List Str} {mean : ExcName → Option Value} {mg mb : Str → Option Value} {Q E : Value → Shared → Prop} {Post : Value → Led → Prop}
    {name qual : Str} {params : Arguments} {body : List Stmt} {scope : Scope} {dV kV doc pm cdv ct oc : Value} {an od : Option Addr} {osl : Array (Option Value)} {f : Addr} {vs : List Value} {binds : List (Str × Value)} {D S : Addr} {o : Obj}
    (B : Below A₀ base outer h₀) (F : Fr h₀ L s.heap m) (X₀ : K.In h₀) (T : Top p loose mean mg mb h₀) (N : News h₀ L s.heap [(D, o)]) (hA : A.frames = some (env :: outer)) (hf : env.frame = some L) (hke : env.scope.kind = .function)
    (ho : K.lookup f = some ⟨oc, od, .func (fnOf name qual params body scope dV kV doc pm an cdv ct), osl⟩) (hcd : codeIn K cdv qual = true) (hroom : A.depth < recursionLimit)
    (hbind : BindsTo s (fnOf name qual params body scope dV kV doc pm an cdv ct) ⟨vs, []⟩ binds)
    (hkind : (binds.all fun y => scope.names.lookup y.1 == some .local || scope.names.lookup y.1 == some .cell) = true)
    (hnd : ((cellsFrom 0 scope.names []).map (·.1)).Nodup)
    (hret : ∀ r tl h' tk' i' z' t1' t2' n', KeepsBut D s.heap h' → h'.get? D = some (boxObj S i' z' t1' t2' n') → BoxOk i' z' → NewIn s.heap h' tl → Post r tl → Q r { s with heap := h', toks := tk' })
    (h : ∀ g L' h₁ tk cells, Fr g L' h₁ (bindL (envOfC qual scope L' f cdv).kindOf binds fun _ => none) → News g L' h₁ (cells ++ [(D, o)]) →
      CellsAre (bindC (envOfC qual scope L' f cdv).kindOf binds fun _ => none) (cellsFrom (L' + 1) scope.names []) cells → Below A base (env :: outer) g → K.In g → Top p loose mean mg mb g → KeepsBut D s.heap g → D < L' →
      wpAny (model prog w) (A.deeper (envOfC qual scope L' f cdv)) (execs body (envOfC qual scope L' f cdv))
        (fun fl s' => EndBx g s D S Post (match fl with | .ret v => v | _ => .none) s')
        (fun _ _ => False)
        { s with heap := h₁, toks := tk })
    (hco : scope.isCoroutine = false) (hgen : scope.isGenerator = false) (hk : scope.kind = .function) : wpAny (model prog w) A (call (.ref f) vs) Q E s := by
  obtain ⟨_, BG, st, _⟩ := groundX (R := fun _ _ => True) B F N hA hf hke
  refine wpAny_call (codeAny_call_function hroom ((X₀.keeps F.keep) _ _ ho) rfl hco hgen rfl (codeRec_of (X₀.keeps F.keep) hcd) (hbind _ _ _ _ ?_))
  refine wpAny_newFunctionEnv_cells hk (kindsX hkind _) fun env' he s' x => ?_
  subst he
  refine ⟨(T.nolimit.keeps F.keep).keeps x.toInCall.keep, codeAny_func ?_⟩
  obtain ⟨h₁, tk, rfl, _⟩ := x.done
  have hk₁ := x.toInCall.keep
  obtain ⟨cells, NC, Y⟩ := Cl.news (h₀ := s.heap) (Nat.le_refl _) fun n c hm => ⟨x.cell n c (lookup_of_mem_nodup (cellsFrom_names scope.names 0 (s.heap.objs.size + 1) [] [] rfl ▸ hnd) hm), x.above n c hm⟩
  have kG : KeepsBut D s.heap (hideAll s.heap ([(D, o)].map (·.1))) := fun b o hb e => hideAll_get _ e (by simpa using hb)
  refine wpAny_mono (h _ s.heap.objs.size h₁ tk cells ⟨x.toInCall.ns, fun b o e => hk₁ b o (of_hideAll _ e), Nat.le_of_eq (hideAll_size _ _)⟩ (fun p hp => ?_) Y BG (X₀.keeps st) (T.keeps st) kG (Heap.lt_size (N _ (List.mem_singleton.mpr rfl)).1)) (fun fl s' z => ?_) (fun e s' z => z.elim)
  · rcases List.mem_append.mp hp with hp | hp
    · refine ⟨(NC p hp).1, (NC p hp).2.1, ?_⟩
      cases q : (hideAll s.heap ([(D, o)].map (·.1))).get? p.1 with
      | none => rfl
      | some o => have := of_hideAll _ q; rw [(NC p hp).2.2] at this; cases this
    · exact ⟨hk₁ _ _ (N p hp).1, Nat.ne_of_lt (Heap.lt_size (N p hp).1), hideAll_none _ (List.mem_map_of_mem hp)⟩
  · obtain ⟨L2, m2, tl, h', tk', i', z', t1', t2', n', rfl, F2, N2, hne, hb, P2⟩ := z
    exact bx_end hret kG F2 N2 hne hb P2

section
variable {w : World} {f : Addr} {need : Nat} {vs : List Value} {dp un : Nat} {gd : Option (List Code)} {cn : Str} {cs : Scope} {a : Addr} {ccd : Value} {cl : List (Str × Addr)} {outer : List Env} {A₀ : Around} {base h₀ : Heap} {L D S : Addr} {m mg mb : Str → Option Value} {mean : ExcName → Option Value} {s : Shared} {Q E : Value → Shared → Prop} {news : Led} {g : Obj → Led} {ns : List Int} {i z : Int} {t1 t2 : Tok} {n : Nat}
theorem fr_box {h' : Heap} {news : Led} {o : Obj} (F : Fr h₀ L s.heap m) (N : News h₀ L s.heap news) (hm : (D, o) ∈ news) (k : KeepsBut D s.heap h') : Fr h₀ L h' m := by
  have z := N _ hm
  exact ⟨F.ns.at' fun o e => k _ _ (Ne.symm z.2.1) e, fun b o e => k b o (fun q => by rw [q] at e; rw [z.2.2] at e; cases e) (F.keep b o e), F.above⟩
theorem news_box {h' : Heap} {o o' : Obj} (N : News h₀ L s.heap news) (U : UpdF D o news g) (k : KeepsBut D s.heap h') (e : h'.get? D = some o') : News h₀ L h' (g o') := by
  obtain ⟨pre, post, rfl, hg, a, b⟩ := U.split
  rw [hg]
  have zD := N (D, o) (List.mem_append.mpr (.inr (.head _)))
  intro p hp
  rcases List.mem_append.mp hp with hp | hp
  · have z := N p (List.mem_append.mpr (.inl hp))
    exact ⟨k _ _ (a p hp) z.1, z.2⟩
  rcases List.mem_cons.mp hp with rfl | hp
  · exact ⟨e, zD.2⟩
  · have z := N p (List.mem_append.mpr (.inr (.tail _ hp)))
    exact ⟨k _ _ (b p hp) z.1, z.2⟩
theorem upd_mem {o : Obj} (U : UpdF D o news g) : (D, o) ∈ news := by
  obtain ⟨pre, post, rfl, hg, a, b⟩ := U.split
  exact List.mem_append.mpr (.inr (.head _))
theorem upd_get {o o' : Obj} (U : UpdF D o news g) {q : Addr × Obj} (hq : q ∈ g o') : q = (D, o') ∨ q ∈ news := by
  obtain ⟨pre, post, rfl, hg, a, b⟩ := U.split
  rw [hg] at hq
  rcases List.mem_append.mp hq with hq | hq
  · exact .inr (List.mem_append.mpr (.inl hq))
  rcases List.mem_cons.mp hq with rfl | hq
  · exact .inl rfl
  · exact .inr (List.mem_append.mpr (.inr (.tail _ hq)))

theorem use_Bx {Post : Value → Led → Prop} (C : CtB w f need vs D S ns Post) (B : Below A₀ base outer h₀) (F : Fr h₀ L s.heap m) (X : (nn_hd.heap_39 w.params).In h₀) (T : Top nn_hd.view_39 (looseW nn_hd.view_39 []) mean mg mb h₀) (hk : cs.kind = .function) (N : News h₀ L s.heap news)
    (U : UpdF D (boxObj S i z t1 t2 n) news g) (hSD : S ≠ D) (hLA : LA s.heap S ns) (hlen : ns.length ≤ 40) (hb : BoxOk i z) (hd : dp + need < recursionLimit) (hu : un + 8 * need < cLine)
    (h : ∀ r tl h' tk' i' z' t1' t2' n', BoxOk i' z' → Post r tl → Fr h₀ L h' m → News h₀ L h' (tl ++ g (boxObj S i' z' t1' t2' n')) → (∀ p ∈ tl, ∀ q ∈ g (boxObj S i' z' t1' t2' n'), q.1 ≠ p.1) → KeepsBut D s.heap h' → Q r { s with heap := h', toks := tk' }) :
    wpAny (model (RowW.prog (OpenRow.toRowW (OpenLaw.row Challenge.rw_nn0251_01))) w) (ktrTop dp un gd cn cs L a ccd cl outer) (call (.ref f) vs) Q E s := by
  have hm := upd_mem U
  refine C _ _ _ _ _ _ _ _ _ _ _ _ _ _ _ _ _ s Q E i z t1 t2 n B F X T hk (fun p hp => by rw [List.mem_singleton.mp hp]; exact N _ hm) hSD hLA hlen hb hd hu ?_
  intro r tl h' tk' i' z' t1' t2' n' k e hb' nw hp
  have N' := news_box N U k e
  have hnone : ∀ p ∈ tl, h₀.get? p.1 = none ∧ L ≠ p.1 := fun p hp => by
    have z := (nw p hp).2
    refine ⟨?_, fun q => ?_⟩
    · cases e : h₀.get? p.1 with
      | none => rfl
      | some o => have := F.keep _ _ e; rw [z] at this; cases this
    · obtain ⟨oL, _, _, hL, _⟩ := F.ns
      rw [q, z] at hL; cases hL
  refine h r tl h' tk' i' z' t1' t2' n' hb' hp (fr_box F N hm k) (fun q hq => ?_) (fun p hp q hq e2 => ?_) k
  · rcases List.mem_append.mp hq with hq | hq
    · exact ⟨(nw q hq).1, Ne.symm (hnone q hq).2, (hnone q hq).1⟩
    · exact N' q hq
  · rcases upd_get U hq with rfl | hq
    · have := (nw p hp).2
      rw [← e2] at this
      have zD := (N _ hm).1
      dsimp only at this zD
      rw [this] at zD; cases zD
    · have := (N q hq).1
      rw [e2, (nw p hp).2] at this; cases this

theorem use_take {k : Int} {t : Tok} (hk0 : 0 < k) (hk1 : k < 1000) (B : Below A₀ base outer h₀) (F : Fr h₀ L s.heap m) (X : (nn_hd.heap_39 w.params).In h₀) (T : Top nn_hd.view_39 (looseW nn_hd.view_39 []) mean mg mb h₀) (hk : cs.kind = .function) (N : News h₀ L s.heap news)
    (U : UpdF D (boxObj S i z t1 t2 n) news g) (hSD : S ≠ D) (hLA : LA s.heap S ns) (hlen : ns.length ≤ 40) (hb : BoxOk i z) (hd : dp + 1 < recursionLimit) (hu : un + 8 * 1 < cLine)
    (h : ∀ x tx h' tk' i' z' t1' t2' n', 0 ≤ x → x < k → BoxOk i' z' → Fr h₀ L h' m → News h₀ L h' (g (boxObj S i' z' t1' t2' n')) → KeepsBut D s.heap h' → Q (.int x tx) { s with heap := h', toks := tk' }) :
    wpAny (model (RowW.prog (OpenRow.toRowW (OpenLaw.row Challenge.rw_nn0251_01))) w) (ktrTop dp un gd cn cs L a ccd cl outer) (call (.ref 156) [.ref D, .int k t]) Q E s := by
  refine use_Bx (c_take w D S ns k t hk0 hk1) B F X T hk N U hSD hLA hlen hb hd hu ?_
  rintro r tl h' tk' i' z' t1' t2' n' hb' ⟨rfl, x, tx, rfl, h0, h1⟩ F' N' _ k
  exact h x tx h' tk' i' z' t1' t2' n' h0 h1 hb' F' N' k
end

structure BxS where
  i : Int
  z : Int
  t1 : Tok
  t2 : Tok
  n : Nat
theorem bx_rest {prog : Program} {w : World} {A : Around} {h₀ : Heap} {L D S : Addr} {m : Str → Option Value} {env : Env} {elt : Expr} {x : Str} {scope : Scope} {cl : List (Str × Addr)} {s : Shared} {Fin : List Value → Led → Prop} {n : Nat} {a : Int} (pre : Led) (Pf : Int → Prop) (c₀ : BxS) (h0 : BoxOk c₀.i c₀.z)
    (turn : ∀ (c : BxS) k t I oI C oC M m₂ ys h tk (E' : Value → Shared → Prop), BoxOk c.i c.z → LCg.NsObj oC m₂ → m₂ x = some (.int k t) → Fr h₀ L h m → News h₀ L h ((I, oI) :: (C, oC) :: (M, LCg.lst ys) :: (pre ++ [(D, boxObj S c.i c.z c.t1 c.t2 c.n)])) → LCg.Off3 I C M (pre ++ [(D, boxObj S c.i c.z c.t1 c.t2 c.n)]) → ((@Ne Nat I C) ∧ (@Ne Nat I M) ∧ (@Ne Nat C M)) →
      wpAny (model prog w) A (eval elt (compEnvC scope cl C env)) (LCg.CompEnd h₀ L m { s with heap := h, toks := tk } I oI C oC M (LCg.lst ys) (fun _ => True) (fun y news' => ∃ (c' : BxS) (r : Int) (t' : Tok), news' = pre ++ [(D, boxObj S c'.i c'.z c'.t1 c'.t2 c'.n)] ∧ BoxOk c'.i c'.z ∧ y = .int r t' ∧ Pf r)) E' { s with heap := h, toks := tk })
    (fin : ∀ (c : BxS) ys zs, BoxOk c.i c.z → IntsAre ys zs → zs.length = n → (∀ z ∈ zs, Pf z) → Fin ys (pre ++ [(D, boxObj S c.i c.z c.t1 c.t2 c.n)])) :
    LCg.CompRest prog w A h₀ L m env elt x scope cl s (fun _ => True) (fun i v => ∃ t, v = .int (a + (i : Int)) t) Fin n 0 [] (pre ++ [(D, boxObj S c₀.i c₀.z c₀.t1 c₀.t2 c₀.n)]) := by
  have key : ∀ (j i : Nat) (c : BxS) (ys : List Value) (zs : List Int), i + j = n → BoxOk c.i c.z → IntsAre ys zs → zs.length = i → (∀ z ∈ zs, Pf z) →
      LCg.CompRest prog w A h₀ L m env elt x scope cl s (fun _ => True) (fun i v => ∃ t, v = .int (a + (i : Int)) t) Fin j i ys (pre ++ [(D, boxObj S c.i c.z c.t1 c.t2 c.n)]) := by
    intro j
    induction j with
    | zero => exact fun i c ys zs hi hb hy hl hz => LCg.CompRest.zero (fin c ys zs hb hy (by omega) hz)
    | succ j ih =>
      intro i c ys zs hi hb hy hl hz
      refine LCg.CompRest.succ ?_
      rintro v I oI C oC M m₂ h tk E' ⟨t, rfl⟩ hC hx F N off ne
      refine wpAny_mono (turn c _ t I oI C oC M m₂ ys h tk E' hb hC hx F N off ne) (fun y s₂ hq => ?_) fun _ _ e => e
      obtain ⟨h', tk', nw, e, F', N', off', hS, c', r, t', rfl, hb', rfl, hr⟩ := hq
      refine ⟨h', tk', _, e, F', N', off', trivial, ?_⟩
      refine ih (i + 1) c' _ (zs ++ [r]) (by omega) hb' (IntsAre.append hy (.cons r t' .nil)) (by simp [hl]) (fun z hzm => ?_)
      rcases List.mem_append.mp hzm with hzm | hzm
      · exact hz z hzm
      · rw [List.mem_singleton.mp hzm]; exact hr
  exact key n 0 c₀ [] [] (by omega) h0 .nil rfl (fun z hz => by cases hz)
end NNRow
local macro_rules | `(tactic| walk_at "exec While Compare cons nil") => `(tactic| (k_here; refine halt_of ?_))
local macro_rules | `(tactic| walk_at "exec For Name Name cons nil") => `(tactic| (k_here; (rename Fr _ _ _ _ => lF'); (with_unfolding_all refine For_invVF lF' ?k1 ?k2 ?_; (case k1 => exact rfl); (case k2 => exact rfl); k_whole)))
section NNc9
open PySem PySem.W PyProof.Rows PySem.Calls PySem.Spec

def NoLed {σ : Type} (_ : σ) : Led := []

theorem gcd_step {a b : Int} (ha : 0 ≤ a) (hb : 0 ≤ b) : Int.gcd b (a.fmod b) = Int.gcd a b := by
  obtain ⟨m, rfl⟩ := Int.eq_ofNat_of_zero_le ha
  obtain ⟨n, rfl⟩ := Int.eq_ofNat_of_zero_le hb
  rw [Int.fmod_eq_emod_of_nonneg _ hb, ← Int.natCast_emod, Int.gcd_natCast_natCast, Int.gcd_natCast_natCast, Nat.gcd_comm m n, Nat.gcd_rec n m, Nat.gcd_comm]
theorem gcd_abs (x y : Int) : Int.gcd (if x < 0 then -x else x) (if y < 0 then -y else y) = Int.gcd x y := by
  split <;> split <;> simp
theorem gcd_fin {a b : Int} {g : Nat} (ha : 0 ≤ a) (hb : b = 0) (h : Int.gcd a b = g) : a = (g : Int) := by
  subst hb
  rw [Int.gcd_zero_right] at h
  omega

theorem gcd_mu {a b : Int} (h : 0 < b) : (a.fmod b).toNat < b.toNat := by
  have := Int.fmod_lt_of_pos a h
  omega

theorem c_gcd (w : World) (x : Int) (t : Tok) (y : Int) (t2 : Tok) : Ct w 21 1 [.int x t, .int y t2] (fun h => True) (RetI (Int.gcd x y)) := by
  w_top off
  unfold Ct
  k_fill
  intro dp un gd cn cs a ccd cl outer A₀ base h₀ L m mg mb mean s Q E B F X T hk hp hd hu hret
  k_dflt refine' ro_enter ?k1 ?k2 ?k3 ?k5 ?kA ?kF ?kK ?k6 ?k7 ?k8 ?k9 ?kB ?kR ?_ ?c2 ?c3 ?c4 ?c5
  (case kA => exact rfl)
  (case kF => exact rfl)
  (case kK => assumption)
  (case k1 => k_asm)
  (case k2 => k_asm)
  (case k3 => k_asm)
  (case k5 => k_asm)
  (case k6 => k_is)
  (case k7 => k_is)
  (case k8 => ktr_room)
  (case k9 => k_dflt exact BindsTo.of_eq rfl)
  (case c5 => k_dflt decide)
  (case kB => k_dflt exact locs rfl)
  (case c2 => exact rfl)
  (case c3 => exact rfl)
  (case c4 => exact rfl)
  (case kR => assumption)
  intro g' L' h' F' N' B' X' T' kG'
  (try dsimp only)
  clear hp
  (try k_fold)
  k_steps
  all_goals (try dsimp only)
  refine of_halt ?_
  k_dflt refine' ksw_while (σ := (Int × Tok) × (Int × Tok)) NoLed (fun c => [(Str.ofString "a", .int c.1.1 c.1.2), (Str.ofString "b", .int c.2.1 c.2.2)]) (fun _ => True) [] (fun c => 0 ≤ c.1.1 ∧ 0 ≤ c.2.1 ∧ Int.gcd c.1.1 c.2.1 = Int.gcd x y) (fun c => c.2.1.toNat) ((if x < 0 then -x else x, ?ta), (if y < 0 then -y else y, ?tb)) (by k_asm) News.nil trivial ?hk ?hp ?turn ?hE
  case hk => exact (List.forall_mem_cons.mpr ⟨by with_unfolding_all rfl, List.forall_mem_singleton.mpr (by with_unfolding_all rfl)⟩)
  case hp =>
    dsimp only
    refine ⟨?_, ?_, gcd_abs x y⟩ <;> split <;> omega
  case hE => passes_own
  case turn =>
    intro c u h tk _ hP F9 N9
    (try dsimp only)
    (try k_fold)
    k_steps
    all_goals (try dsimp only)
    · k_dflt exact ksw_end ((c.2.1, _), (c.1.1.fmod c.2.1, _)) (by k_asm) News.nil (fun q hq => by cases hq) trivial (List.forall_mem_cons.mpr ⟨by with_unfolding_all rfl, List.forall_mem_singleton.mpr (by with_unfolding_all rfl)⟩) (by intro z9 a9 b9; simp only [List.forall_mem_cons, List.not_mem_nil, false_implies, implies_true, and_true, ne_eq] at a9; simp only [List.contains_cons, List.contains_nil, Bool.or_false, Bool.or_eq_false_iff, beq_eq_false_iff_ne, ne_eq] at b9; simp [mk, kstB, a9, b9]) ⟨hP.2.1, Int.fmod_nonneg_of_pos _ (by omega), (gcd_step hP.1 hP.2.1).trans hP.2.2⟩ (gcd_mu (by omega))
    · k_unfold
      (try dsimp only)
      k_steps
      all_goals (try dsimp only)
      exact end_int (by k_asm) (gcd_fin hP.1 (by omega) hP.2.2)

theorem height_turn (pre : List Int) (n : Int) : pheight (pre ++ [n]) = max (pheight pre) (if n < 0 then -n else n) := by
  simp [pheight, List.foldl_append]

theorem height_max {a n : Int} {pre : List Int} (h : a = pheight pre) : (if (if n < 0 then -n else n) > a then if n < 0 then -n else n else a) = pheight (pre ++ [n]) := by
  rw [height_turn, ← h]
  split <;> split <;> omega

theorem c_zheight (w : World) (p : Addr) (xs : List Int) : Ct w 149 1 [.ref p] (fun h => LA h p xs ∧ xs.length < 900) (RetI (pheight xs)) := by
  w_top off
  unfold Ct
  k_fill
  intro dp un gd cn cs a ccd cl outer A₀ base h₀ L m mg mb mean s Q E B F X T hk hp hd hu hret
  k_dflt refine' ro_enter ?k1 ?k2 ?k3 ?k5 ?kA ?kF ?kK ?k6 ?k7 ?k8 ?k9 ?kB ?kR ?_ ?c2 ?c3 ?c4 ?c5
  (case kA => exact rfl)
  (case kF => exact rfl)
  (case kK => assumption)
  (case k1 => k_asm)
  (case k2 => k_asm)
  (case k3 => k_asm)
  (case k5 => k_asm)
  (case k6 => k_is)
  (case k7 => k_is)
  (case k8 => ktr_room)
  (case k9 => k_dflt exact BindsTo.of_eq rfl)
  (case c5 => k_dflt decide)
  (case kB => k_dflt exact locs rfl)
  (case c2 => exact rfl)
  (case c3 => exact rfl)
  (case c4 => exact rfl)
  (case kR => assumption)
  intro g' L' h' F' N' B' X' T' kG'
  (try dsimp only)
  obtain ⟨h1, h3⟩ := hp
  have h1 := h1.keeps kG'
  obtain ⟨vs, hL, hI⟩ := h1
  (try k_fold)
  k_steps
  all_goals (try dsimp only)
  refine of_halt ?_
  k_dflt refine' kst_list (σ := Int × Tok) NoLed (fun c => [(Str.ofString "found", .int c.1 c.2)]) (fun _ => True) [Str.ofString "number"] (fun pre c => c.1 = pheight pre) (0, ?t0) rfl (by k_asm) (by k_asm) (by k_asm) News.nil trivial ?hk ?hp ?turn ?done
  case hk => exact (List.forall_mem_singleton.mpr (by with_unfolding_all rfl))
  case hp => rfl
  case turn =>
    intro c pre post n t2 u h tk own hns hmem hoff _ hP F9 N9
    (try dsimp only)
    (try k_fold)
    k_steps
    all_goals (try dsimp only)
    k_dflt exact kst_end (if (if n < 0 then -n else n) > c.1 then if n < 0 then -n else n else c.1, _) (by k_asm) (by k_asm) (fun q hq => by cases hq) (fun q hq => by first | exact hq | (simp; exact hq)) rfl trivial (List.forall_mem_singleton.mpr (by with_unfolding_all rfl)) (by intro z9 c9 a9 b9; simp only [List.forall_mem_cons, List.not_mem_nil, false_implies, implies_true, and_true, ne_eq] at a9; simp [kstB, a9, b9, c9]) (height_max hP)
  case done =>
    intro c u h tk _ hP F9 N9
    (try dsimp only)
    (try k_fold)
    k_steps
    all_goals (try dsimp only)
    k_unfold
    (try dsimp only)
    k_steps
    all_goals (try dsimp only)
    exact end_int (by k_asm) hP
end NNc9
section NNc10
open PySem PySem.W PyProof.Rows PySem.Calls PySem.Spec

theorem c_gcd_all (w : World) (p : Addr) (xs : List Int) : Ct w 28 2 [.ref p] (fun h => LA h p xs ∧ xs.length < 900) (RetI (pgcd xs)) := by
  w_top off
  unfold Ct
  k_fill
  intro dp un gd cn cs a ccd cl outer A₀ base h₀ L m mg mb mean s Q E B F X T hk hp hd hu hret
  k_dflt refine' ro_enter ?k1 ?k2 ?k3 ?k5 ?kA ?kF ?kK ?k6 ?k7 ?k8 ?k9 ?kB ?kR ?_ ?c2 ?c3 ?c4 ?c5
  (case kA => exact rfl)
  (case kF => exact rfl)
  (case kK => assumption)
  (case k1 => k_asm)
  (case k2 => k_asm)
  (case k3 => k_asm)
  (case k5 => k_asm)
  (case k6 => k_is)
  (case k7 => k_is)
  (case k8 => ktr_room)
  (case k9 => k_dflt exact BindsTo.of_eq rfl)
  (case c5 => k_dflt decide)
  (case kB => k_dflt exact locs rfl)
  (case c2 => exact rfl)
  (case c3 => exact rfl)
  (case c4 => exact rfl)
  (case kR => assumption)
  intro g' L' h' F' N' B' X' T' kG'
  (try dsimp only)
  obtain ⟨h1, h3⟩ := hp
  have h1 := h1.keeps kG'
  obtain ⟨vs, hL, hI⟩ := h1
  (try k_fold)
  k_steps
  all_goals (try dsimp only)
  refine of_halt ?_
  k_dflt refine' kst_list (σ := Int × Tok) NoLed (fun c => [(Str.ofString "found", .int c.1 c.2)]) (fun _ => True) [Str.ofString "number"] (fun pre c => c.1 = pgcd pre) (0, ?t0) rfl (by k_asm) (by k_asm) (by k_asm) News.nil trivial ?hk ?hp ?turn ?done
  case hk => exact (List.forall_mem_singleton.mpr (by with_unfolding_all rfl))
  case hp => rfl
  case turn =>
    intro c pre post n t2 u h tk own hns hmem hoff _ hP F9 N9
    (try dsimp only)
    (try k_fold)
    k_steps
    all_goals (try dsimp only)
    refine of_halt ?_
    k_dflt refine' use_I (c_gcd w c.1 _ n _) ?k1 ?k2 ?k3 ?k4 ?kK ?kN ?kp ?kd ?ku ?_
    (case k1 => k_asm)
    (case k2 => k_asm)
    (case k3 => k_asm)
    (case k4 => k_asm)
    (case kK => first | exact rfl | assumption)
    (case kN => k_asm)
    (case kp => exact trivial)
    (case kd => ktr_room)
    (case ku => ktr_units)
    intro t9 h9 tk9 F9 N9 k9
    (try dsimp only)
    (try k_fold)
    k_steps
    all_goals (try dsimp only)
    (try (k_unfold; (try dsimp only)))
    (try (k_unfold; (try dsimp only)))
    (try dsimp only [InvPostN])
    k_dflt exact kst_end ((Int.gcd c.1 n : Int), _) (by k_asm) (by k_asm) (fun q hq => by cases hq) (fun q hq => by first | exact hq | (simp; exact hq)) rfl trivial (List.forall_mem_singleton.mpr (by with_unfolding_all rfl)) (by intro z9 c9 a9 b9; simp only [List.forall_mem_cons, List.not_mem_nil, false_implies, implies_true, and_true, ne_eq] at a9; simp [kstB, a9, b9, c9]) (by rw [pgcd_snoc, ← hP])
  case done =>
    intro c u h tk _ hP F9 N9
    (try dsimp only)
    (try k_fold)
    k_steps
    all_goals (try dsimp only)
    k_unfold
    (try dsimp only)
    k_steps
    all_goals (try dsimp only)
    exact end_int (by k_asm) hP

theorem c_zcontent (w : World) (p : Addr) (xs : List Int) : Ct w 92 3 [.ref p] (fun h => LA h p xs ∧ xs.length < 900) (RetI (pgcd xs)) := by
  w_top off
  unfold Ct
  k_fill
  intro dp un gd cn cs a ccd cl outer A₀ base h₀ L m mg mb mean s Q E B F X T hk hp hd hu hret
  k_dflt refine' ro_enter ?k1 ?k2 ?k3 ?k5 ?kA ?kF ?kK ?k6 ?k7 ?k8 ?k9 ?kB ?kR ?_ ?c2 ?c3 ?c4 ?c5
  (case kA => exact rfl)
  (case kF => exact rfl)
  (case kK => assumption)
  (case k1 => k_asm)
  (case k2 => k_asm)
  (case k3 => k_asm)
  (case k5 => k_asm)
  (case k6 => k_is)
  (case k7 => k_is)
  (case k8 => ktr_room)
  (case k9 => k_dflt exact BindsTo.of_eq rfl)
  (case c5 => k_dflt decide)
  (case kB => k_dflt exact locs rfl)
  (case c2 => exact rfl)
  (case c3 => exact rfl)
  (case c4 => exact rfl)
  (case kR => assumption)
  intro g' L' h' F' N' B' X' T' kG'
  (try dsimp only)
  obtain ⟨h1, h3⟩ := hp
  have h1 := h1.keeps kG'
  obtain ⟨vs, hL, hI⟩ := h1
  (try k_fold)
  k_steps
  all_goals (try dsimp only)
  refine of_halt ?_
  k_dflt refine' use_I (c_gcd_all w _ xs) ?k1 ?k2 ?k3 ?k4 ?kK ?kN ?kp ?kd ?ku ?_
  (case k1 => k_asm)
  (case k2 => k_asm)
  (case k3 => k_asm)
  (case k4 => k_asm)
  (case kK => first | exact rfl | assumption)
  (case kN => k_asm)
  (case kp => exact ⟨la_base (by k_asm) hL (by k_asm), h3⟩)
  (case kd => ktr_room)
  (case ku => ktr_units)
  intro t9 h9 tk9 F9 N9 k9
  (try dsimp only)
  (try k_fold)
  k_steps
  all_goals (try dsimp only)
  exact end_int (by k_asm) rfl

theorem prim_at {xs : List Int} (h : xs ≠ []) : xs.getD (-1 + (xs.length : Int)).toNat 0 = xs.getLastD 0 := lead_walk h
theorem prim_pos {xs : List Int} (h : xs ≠ []) (h2 : xs.getD (-1 + (xs.length : Int)).toNat 0 > 0) : pdiv xs (pgcd xs) = pprim xs := by
  rw [prim_at h] at h2
  unfold pprim
  rw [if_neg h, if_pos h2]
theorem prim_neg {xs : List Int} (h : xs ≠ []) (h2 : ¬ xs.getD (-1 + (xs.length : Int)).toNat 0 > 0) : pdiv xs (-pgcd xs) = pprim xs := by
  rw [prim_at h] at h2
  unfold pprim
  rw [if_neg h, if_neg h2]

theorem c_zprimitive (w : World) (p : Addr) (xs : List Int) : Ct w 104 4 [.ref p] (fun h => LA h p xs ∧ xs.length < 900 ∧ (xs ≠ [] → xs.getLastD 0 ≠ 0) ∧ (∀ x ∈ xs, x.natAbs < 1073741824)) (RetL (pprim xs)) := by
  w_top off
  unfold Ct
  k_fill
  intro dp un gd cn cs a ccd cl outer A₀ base h₀ L m mg mb mean s Q E B F X T hk hp hd hu hret
  k_dflt refine' ro_enter ?k1 ?k2 ?k3 ?k5 ?kA ?kF ?kK ?k6 ?k7 ?k8 ?k9 ?kB ?kR ?_ ?c2 ?c3 ?c4 ?c5
  (case kA => exact rfl)
  (case kF => exact rfl)
  (case kK => assumption)
  (case k1 => k_asm)
  (case k2 => k_asm)
  (case k3 => k_asm)
  (case k5 => k_asm)
  (case k6 => k_is)
  (case k7 => k_is)
  (case k8 => ktr_room)
  (case k9 => k_dflt exact BindsTo.of_eq rfl)
  (case c5 => k_dflt decide)
  (case kB => k_dflt exact locs rfl)
  (case c2 => exact rfl)
  (case c3 => exact rfl)
  (case c4 => exact rfl)
  (case kR => assumption)
  intro g' L' h' F' N' B' X' T' kG'
  (try dsimp only)
  obtain ⟨h1, h3, h4, h5⟩ := hp
  have h1 := h1.keeps kG'
  obtain ⟨vs, hL, hI⟩ := h1
  (try k_fold)
  k_steps
  all_goals (try dsimp only)
  · refine end_list (vs := []) (by k_asm) (by k_asm) (by k_mem) .nil ?_
    have e : xs = [] := List.eq_nil_of_length_eq_zero (by omega)
    simp [pprim, e]
  · have hx0 : xs ≠ [] := by intro e; subst e; simp_all
    have hx1 := h4 hx0
    have hx2 := last_mem hx0
    have hg1 := pgcd_pos hx2 hx1
    have hg2 := pgcd_le hx2 hx1
    have hg3 := h5 _ hx2
    refine of_halt ?_
    k_dflt refine' use_I (c_zcontent w _ xs) ?k1 ?k2 ?k3 ?k4 ?kK ?kN ?kp ?kd ?ku ?_
    (case k1 => k_asm)
    (case k2 => k_asm)
    (case k3 => k_asm)
    (case k4 => k_asm)
    (case kK => first | exact rfl | assumption)
    (case kN => k_asm)
    (case kp => exact ⟨la_base (by k_asm) hL (by k_asm), h3⟩)
    (case kd => ktr_room)
    (case ku => ktr_units)
    intro t9 h9 tk9 F9 N9 k9
    (try dsimp only)
    (try k_fold)
    k_steps
    all_goals (try dsimp only)
    · refine of_halt ?_
      k_dflt refine' use_L (c_zdivided w _ xs (pgcd xs) _) ?k1 ?k2 ?k3 ?k4 ?kK ?kN ?kp ?kd ?ku ?_
      (case k1 => k_asm)
      (case k2 => k_asm)
      (case k3 => k_asm)
      (case k4 => k_asm)
      (case kK => first | exact rfl | assumption)
      (case kN => k_asm)
      (case kp => exact ⟨la_base (by k_asm) hL (by k_asm), h3, by omega, by omega⟩)
      (case kd => ktr_room)
      (case ku => ktr_units)
      intro r rv n h8 tk8 hi8 F8 N8 l8 k8
      (try dsimp only)
      (try k_fold)
      k_steps
      all_goals (try dsimp only)
      exact end_list (by k_asm) (by k_asm) (by k_mem) hi8 (prim_pos hx0 (by k_asm))
    · refine of_halt ?_
      k_dflt refine' use_L (c_zdivided w _ xs (-pgcd xs) _) ?k1 ?k2 ?k3 ?k4 ?kK ?kN ?kp ?kd ?ku ?_
      (case k1 => k_asm)
      (case k2 => k_asm)
      (case k3 => k_asm)
      (case k4 => k_asm)
      (case kK => first | exact rfl | assumption)
      (case kN => k_asm)
      (case kp => exact ⟨la_base (by k_asm) hL (by k_asm), h3, by omega, by omega⟩)
      (case kd => ktr_room)
      (case ku => ktr_units)
      intro r rv n h8 tk8 hi8 F8 N8 l8 k8
      (try dsimp only)
      (try k_fold)
      k_steps
      all_goals (try dsimp only)
      exact end_list (by k_asm) (by k_asm) (by k_mem) hi8 (prim_neg hx0 (by k_asm))
end NNc10
local macro_rules | `(tactic| walk_at "exec While BoolOp cons nil") => `(tactic| (k_here; refine halt_of ?_))
section NNc13
open PySem PySem.W PyProof.Rows PySem.Calls PySem.Spec

structure BSt where
  r : Addr
  led : Led
  f : List Int
abbrev BSt.mkL (r : Addr) (rv : List Value) (n : Nat) (f : List Int) : BSt := ⟨r, [(r, listOf (List.toArray rv) n)], f⟩
def BP (p : Addr) (xs : List Int) (c : BSt) : Prop := trim c.f = trim xs ∧ c.f.length ≤ xs.length ∧ ((c.r = p ∧ c.led = [] ∧ c.f = xs) ∨ ∃ rv n, c.led = [(c.r, listOf (List.toArray rv) n)] ∧ IntsAre rv c.f)

theorem trim_stop {f : List Int} (h : 0 < f.length → f.getD (-1 + (f.length : Int)).toNat 0 ≠ 0) : trim f = f := by
  by_cases h0 : f = []
  · subst h0; rfl
  · have h1 := h (List.length_pos_iff.mpr h0)
    rw [lead_walk h0] at h1
    obtain ⟨ys, y, rfl⟩ : ∃ ys y, f = ys ++ [y] := ⟨f.dropLast, f.getLast h0, (List.dropLast_concat_getLast h0).symm⟩
    rw [List.getLastD_eq_getLast?, List.getLast?_concat] at h1
    exact trim_snoc h1
theorem trim_go {f : List Int} (h0 : 0 < f.length) (h : f.getD (-1 + (f.length : Int)).toNat 0 = 0) : trim (f.take (f.length - 1)) = trim f := by
  have h1 := List.length_pos_iff.mp h0
  rw [lead_walk h1] at h
  obtain ⟨ys, y, rfl⟩ : ∃ ys y, f = ys ++ [y] := ⟨f.dropLast, f.getLast h1, (List.dropLast_concat_getLast h1).symm⟩
  rw [List.getLastD_eq_getLast?, List.getLast?_concat] at h
  have e : y = 0 := h
  subst e
  simp [trim_snoc_zero]

theorem c_bare (w : World) (p : Addr) (xs : List Int) : Ct w 178 10 [.ref p] (fun h => LA h p xs ∧ xs.length < 900) (RetA p xs (trim xs)) := by
  w_top off
  unfold Ct
  k_fill
  intro dp un gd cn cs a ccd cl outer A₀ base h₀ L m mg mb mean s Q E B F X T hk hp hd hu hret
  k_dflt refine' ro_enter ?k1 ?k2 ?k3 ?k5 ?kA ?kF ?kK ?k6 ?k7 ?k8 ?k9 ?kB ?kR ?_ ?c2 ?c3 ?c4 ?c5
  (case kA => exact rfl)
  (case kF => exact rfl)
  (case kK => assumption)
  (case k1 => k_asm)
  (case k2 => k_asm)
  (case k3 => k_asm)
  (case k5 => k_asm)
  (case k6 => k_is)
  (case k7 => k_is)
  (case k8 => ktr_room)
  (case k9 => k_dflt exact BindsTo.of_eq rfl)
  (case c5 => k_dflt decide)
  (case kB => k_dflt exact locs rfl)
  (case c2 => exact rfl)
  (case c3 => exact rfl)
  (case c4 => exact rfl)
  (case kR => assumption)
  intro g' L' h' F' N' B' X' T' kG'
  (try dsimp only)
  obtain ⟨h1, h2⟩ := hp
  have h1 := h1.keeps kG'
  obtain ⟨vs, hL, hI⟩ := h1
  (try k_fold)
  k_steps
  all_goals (try dsimp only)
  refine of_halt ?_
  k_dflt refine' ksw_while BSt.led (fun c => [(Str.ofString "row", .ref c.r)]) (fun _ => True) [] (BP p xs) (fun c => c.f.length) ⟨p, [], xs⟩ (by k_asm) News.nil trivial ?hk ?hp ?turn ?hE
  case hk => exact (List.forall_mem_singleton.mpr (by with_unfolding_all rfl))
  case hp => exact ⟨rfl, Nat.le_refl _, .inl ⟨rfl, rfl, rfl⟩⟩
  case hE => passes_own
  case turn =>
    rintro ⟨r, led, f⟩ u h tk _ ⟨hP1, hP2, hP3⟩ F9 N9
    dsimp only at hP1 hP2 hP3 F9 N9
    rcases hP3 with ⟨rfl, rfl, rfl⟩ | ⟨rv, n, rfl, hi9⟩
    · (try dsimp only)
      (try k_fold)
      k_steps
      all_goals (try dsimp only)
      · k_dflt exact ksw_end (BSt.mkL _ _ _ (f.take (f.length - 1))) (by k_asm) (by k_asm) (List.forall_mem_singleton.mpr (by k_mem)) trivial (List.forall_mem_singleton.mpr (by with_unfolding_all rfl)) (by intro z9 a9 b9; simp only [List.forall_mem_cons, List.not_mem_nil, false_implies, implies_true, and_true, ne_eq] at a9; simp only [List.contains_cons, List.contains_nil, Bool.or_false, Bool.or_eq_false_iff, beq_eq_false_iff_ne, ne_eq] at b9; simp [mk, kstB, a9, b9]) ⟨(trim_go (by k_asm) (by k_asm)).trans hP1, by rw [List.length_take]; omega, .inr ⟨_, _, rfl, by k_asm⟩⟩ (by simp only [List.length_take]; omega)
      · exact end_arg (by k_asm) (trim_stop fun _ => by k_asm)
      · exact end_arg (by k_asm) (trim_stop fun h => absurd h (by k_asm))
    · (try dsimp only)
      (try k_fold)
      k_steps
      all_goals (try dsimp only)
      · k_dflt exact ksw_end (BSt.mkL _ _ _ (f.take (f.length - 1))) (by k_asm) (by k_asm) (List.forall_mem_singleton.mpr (by k_mem)) trivial (List.forall_mem_singleton.mpr (by with_unfolding_all rfl)) (by intro z9 a9 b9; simp only [List.forall_mem_cons, List.not_mem_nil, false_implies, implies_true, and_true, ne_eq] at a9; simp only [List.contains_cons, List.contains_nil, Bool.or_false, Bool.or_eq_false_iff, beq_eq_false_iff_ne, ne_eq] at b9; simp [mk, kstB, a9, b9]) ⟨(trim_go (by k_asm) (by k_asm)).trans hP1, by rw [List.length_take]; omega, .inr ⟨_, _, rfl, by k_asm⟩⟩ (by simp only [List.length_take]; omega)
      · exact end_listA (by k_asm) (by k_asm) (by k_mem) hi9 ((trim_stop fun _ => by k_asm).symm.trans hP1)
      · exact end_listA (by k_asm) (by k_asm) (by k_mem) hi9 ((trim_stop fun h => absurd h (by k_asm)).symm.trans hP1)
end NNc13
local macro_rules | `(tactic| walk_at "call type:enumerate") => `(tactic| (k_here; refine halt_of ?_))
local macro_rules | `(tactic| walk_at "eval ListComp") => `(tactic| (k_here; (with_reducible show wpAny _ _ (eval (Expr.ListComp _ [⟨Expr.Tuple _ _ _, _, _, 0⟩] _ _) _) _ _ _); k_dflt (refine en_comp (by k_asm) (by with_unfolding_all rfl) (by decide) (by rfl) (by decide) (by rfl) (by rfl) (by decide) ?_ (by intro _; with_unfolding_all rfl))))
section NNc5
open PySem PySem.W PyProof.Rows PySem.Calls PySem.Spec

theorem enMap_len (f : Nat → Int → Int) : ∀ (k : Nat) (xs : List Int), (enMap (fun _ _ => true) f k xs).length = xs.length
  | _, [] => rfl
  | k, x :: r => by simp [enMap, enMap_len f (k + 1) r]

theorem c_zderive (w : World) (p : Addr) (xs : List Int) : Ct w 109 1 [.ref p] (fun h => LA h p xs ∧ xs.length < 900) (RetL (pderive xs)) := by
  w_top off
  unfold Ct
  k_fill
  intro dp un gd cn cs a ccd cl outer A₀ base h₀ L m mg mb mean s Q E B F X T hk hp hd hu hret
  k_dflt refine' ro_enter ?k1 ?k2 ?k3 ?k5 ?kA ?kF ?kK ?k6 ?k7 ?k8 ?k9 ?kB ?kR ?_ ?c2 ?c3 ?c4 ?c5
  (case kA => exact rfl)
  (case kF => exact rfl)
  (case kK => assumption)
  (case k1 => k_asm)
  (case k2 => k_asm)
  (case k3 => k_asm)
  (case k5 => k_asm)
  (case k6 => k_is)
  (case k7 => k_is)
  (case k8 => ktr_room)
  (case k9 => k_dflt exact BindsTo.of_eq rfl)
  (case c5 => k_dflt decide)
  (case kB => k_dflt exact locs rfl)
  (case c2 => exact rfl)
  (case c3 => exact rfl)
  (case c4 => exact rfl)
  (case kR => assumption)
  intro g' L' h' F' N' B' X' T' kG'
  (try dsimp only)
  obtain ⟨h1, h3⟩ := hp
  have h1 := h1.keeps kG'
  obtain ⟨vs, hL, hI⟩ := h1
  (try k_fold)
  k_steps
  all_goals (try dsimp only)
  refine of_halt ?_
  k_dflt refine en_call (fun _ _ => true) (fun i x => x * i) rfl (by k_asm) (by k_asm) (.inl hL) hI (by rw [sizeLine_eq]; omega) ?_ ?_
  · intro i x t t' I oI J oJ C oC D oD m₂ h tk E' hx hC ha hb F9 N9
    have hi9 := (List.getElem?_eq_some_iff.mp hx).1
    refine wpAny_tests_nil ⟨rfl, ⟨_, _, rfl, F9, N9⟩, fun _ => ?_⟩
    k_steps
    exact ⟨_, _, rfl, by k_asm, by k_asm⟩
  · intro D h tk zs F9 N9 l9 hi9
    have hl9 := enMap_len (fun i x => x * (i : Int)) 0 xs
    generalize hds : enMap (fun _ _ => true) (fun i x => x * (i : Int)) 0 xs = ds at hi9 hl9
    (try dsimp only)
    (try k_fold)
    k_steps
    all_goals (try dsimp only)
    exact end_list (by k_asm) (by k_asm) (by k_mem) (by k_asm) (by unfold pderive; rw [hds])

def wsum (f : Nat → Int → Int) : Nat → List Int → Int
  | _, [] => 0
  | k, x :: r => f k x + wsum f (k + 1) r
theorem enMap_sum (f : Nat → Int → Int) : ∀ (k : Nat) (xs : List Int), (enMap (fun _ _ => true) f k xs).sum = wsum f k xs
  | _, [] => rfl
  | k, x :: r => by simp [enMap, wsum, enMap_sum f (k + 1) r]
theorem wsum_pe (n : Int) : ∀ (k : Nat) (xs : List Int), wsum (fun i x => x * n ^ i) k xs = n ^ k * pe xs n
  | _, [] => by simp [wsum, pe]
  | k, x :: r => by
    rw [wsum, wsum_pe n (k + 1) r, pe, Int.pow_succ, Int.mul_add, Int.mul_comm x, Int.mul_assoc]

theorem c_worth (w : World) (p : Addr) (xs : List Int) (n : Int) (t : Tok) : Ct w 166 1 [.ref p, .int n t] (fun h => LA h p xs ∧ xs.length < 900 ∧ n.natAbs < 2 ^ 60 ∧ ∀ x ∈ xs, x.natAbs < 2 ^ 60) (RetI (pe xs n)) := by
  w_top off
  unfold Ct
  k_fill
  intro dp un gd cn cs a ccd cl outer A₀ base h₀ L m mg mb mean s Q E B F X T hk hp hd hu hret
  k_dflt refine' ro_enterC ?k1 ?k2 ?k3 ?k5 ?kA ?kF ?kK ?k6 ?k7 ?k8 ?k9 ?kB ?kD ?kR ?_ ?c2 ?c3 ?c4
  (case kA => exact rfl)
  (case kF => exact rfl)
  (case kK => assumption)
  (case k1 => k_asm)
  (case k2 => k_asm)
  (case k3 => k_asm)
  (case k5 => k_asm)
  (case k6 => k_is)
  (case k7 => k_is)
  (case k8 => ktr_room)
  (case k9 => k_dflt exact BindsTo.of_eq rfl)
  (case kB => k_dflt exact rfl)
  (case kD => decide +kernel)
  (case c2 => exact rfl)
  (case c3 => exact rfl)
  (case c4 => exact rfl)
  (case kR => assumption)
  intro g' L' h' tk' cells' F' N' Y' B' X' T' kG'
  k_cells Y'
  (try simp only [List.nil_append, List.cons_append] at N')
  (try dsimp only)
  obtain ⟨h1, h3, h4, h5⟩ := hp
  have h1 := h1.keeps kG'
  obtain ⟨vs, hL, hI⟩ := h1
  (try k_fold)
  k_steps
  all_goals (try dsimp only)
  refine of_halt ?_
  k_dflt refine en_call (fun _ _ => true) (fun i x => x * n ^ i) rfl (by k_asm) (by k_asm) (.inl hL) hI (by rw [sizeLine_eq]; omega) ?_ ?_
  · intro i x t t' I oI J oJ C oC D oD m₂ h tk E' hx hC ha hb F9 N9
    have hi9 := (List.getElem?_eq_some_iff.mp hx).1
    have hb9 := h5 x (List.mem_of_getElem? hx)
    refine wpAny_tests_nil ⟨rfl, ⟨_, _, rfl, F9, N9⟩, fun _ => ?_⟩
    k_steps
    all_goals exact ⟨_, _, rfl, by k_asm, by k_asm⟩
  · intro D h tk zs F9 N9 l9 hi9
    have hl9 := enMap_len (fun i x => x * n ^ i) 0 xs
    have hs9 := enMap_sum (fun i x => x * n ^ i) 0 xs
    rw [wsum_pe] at hs9
    generalize hds : enMap (fun _ _ => true) (fun i x => x * n ^ i) 0 xs = ds at hi9 hl9 hs9
    (try dsimp only)
    (try k_fold)
    k_steps
    all_goals (try dsimp only)
    exact end_int (by k_asm) (by simpa using hs9)
end NNc5
local macro_rules | `(tactic| walk_at "CompSrc") => `(tactic| (k_here; refine stop_of ?_))
section NNc16
local macro_rules | `(tactic| walk_at "CompEnd") => `(tactic| (refine stop_of ?_))
open PySem PySem.W PyProof.Rows PySem.Calls PySem.Spec

def RetRow (most : Int) (r : Value) (tl : Led) : Prop := ∃ a vs n ys, r = .ref a ∧ tl = [(a, listOf (List.toArray vs) n)] ∧ IntsAre vs ys ∧ (ys.length : Int) ≤ most ∧ (∀ y ∈ ys, y.natAbs ≤ 9) ∧ trim ys = ys

theorem end_row {g h' : Heap} {s : Shared} {D S L' r : Addr} {m' : Str → Option Value} {k : Int} {tk' : Nat} {b : BxS} {news : Led} {rv : List Value} {n : Nat} {f : List Int} (F : Fr g L' h' m') (N : News g L' h' news) (h1 : (r, listOf (List.toArray rv) n) ∈ news) (h2 : (D, boxObj S b.i b.z b.t1 b.t2 b.n) ∈ news)
    (hne : @Ne Nat r D) (hb : BoxOk b.i b.z) (hi : IntsAre rv f) (hl : (f.length : Int) ≤ k) (hs : ∀ y ∈ f, y.natAbs ≤ 9) (ht : trim f = f) : EndBx g s D S (RetRow k) (.ref r) { s with heap := h', toks := tk' } :=
  ⟨L', m', [(r, listOf rv.toArray n)], h', tk', b.i, b.z, b.t1, b.t2, b.n, by rfl, F, List.forall_mem_cons.mpr ⟨N _ h2, List.forall_mem_singleton.mpr (N _ h1)⟩, List.forall_mem_singleton.mpr hne, hb, r, rv, n, f, by rfl, by rfl, hi, hl, hs, ht⟩

def RLed (D S : Addr) (b : BxS) (c : FSt) : Led := [(c.r, listOf (List.toArray c.rv) c.n), (D, boxObj S b.i b.z b.t1 b.t2 b.n)]
def RP (D : Addr) (k : Nat) (c : FSt) : Prop := IntsAre c.rv c.f ∧ c.f.length ≤ k ∧ (∀ y ∈ c.f, y.natAbs ≤ 9) ∧ c.r ≠ D

theorem c_row (w : World) (D S : Addr) (ns : List Int) (k : Int) (t t9 : Tok) (hk0 : 0 ≤ k) (hk1 : k ≤ 10) : CtB w 161 20 [.ref D, .int k t, .int 9 t9] D S ns (RetRow k) := by
  w_top off
  unfold CtB
  k_fill
  intro dp un gd cn cs a ccd cl outer A₀ base h₀ L m mg mb mean s Q E i z t1 t2 n B F X T hk N hSD hLA hlen hbx hd hu hret
  k_dflt refine' bx_enterC ?k1 ?k2 ?k3 ?k5 ?kN ?kA ?kF ?kK ?k6 ?k7 ?k8 ?k9 ?kB ?kD ?kR ?_ ?c2 ?c3 ?c4
  (case kA => exact rfl)
  (case kF => exact rfl)
  (case kK => assumption)
  (case k1 => k_asm)
  (case k2 => k_asm)
  (case k3 => k_asm)
  (case k5 => k_asm)
  (case kN => k_asm)
  (case k6 => k_is)
  (case k7 => k_is)
  (case k8 => ktr_room)
  (case k9 => k_dflt exact BindsTo.of_eq rfl)
  (case kB => k_dflt exact rfl)
  (case kD => decide +kernel)
  (case c2 => exact rfl)
  (case c3 => exact rfl)
  (case c4 => exact rfl)
  (case kR => assumption)
  intro g' L' h' tk' cells' F' N' Y' B' X' T' kG' lD'
  replace lD' : @LT.lt Nat _ D L' := lD'
  obtain ⟨o1', o2', hE', d1', d2'⟩ := CellsAre.two Y'
  subst hE'
  clear Y'
  (try simp only [List.nil_append, List.cons_append] at N')
  replace F' : Fr g' L' h' (fun y => if y = Str.ofString "most" then some (.int k t) else none) := F'
  replace d1' : o1'.data = .cell (some (.int 9 t9)) := d1'
  replace d2' : o2'.data = .cell (some (.ref D)) := d2'
  (try dsimp only)
  obtain ⟨vs, ⟨oS, hoS, hoS2⟩, hI⟩ := hLA
  have hL : g'.IsList S vs.toArray := ⟨oS, kG' _ _ hSD hoS, hoS2⟩
  (try k_fold)
  k_steps
  all_goals (try dsimp only)
  refine of_halt ?_
  k_dflt refine' use_take ?kh0 ?kh1 ?k1 ?k2 ?k3 ?k4 ?kK ?kN ?kU ?kSD ?kLA ?kln ?kbx ?kd ?ku ?_
  (case kh0 => omega)
  (case kh1 => omega)
  (case k1 => k_asm)
  (case k2 => k_asm)
  (case k3 => k_asm)
  (case k4 => k_asm)
  (case kK => first | exact rfl | assumption)
  (case kN => k_asm)
  (case kU => k_updF)
  (case kSD => assumption)
  (case kLA => exact la_base (by k_asm) hL hI)
  (case kln => assumption)
  (case kbx => assumption)
  (case kd => ktr_room)
  (case ku => ktr_units)
  intro x1 tx1 h1 tk1 i1 z1 t11 t21 n1 p1 q1 b1 F1 N1 k1
  (try dsimp only)
  (try k_fold)
  k_steps
  all_goals (try dsimp only)
  unfold Stop
  k_dflt refine LCg.CompSrc.range (n := x1.toNat) (news := [(L' + 1 + 1, o1'), (L' + 1, o2')] ++ [(D, boxObj S i1 z1 t11 t21 n1)]) (by rfl) (by k_asm) (by k_asm) (by assumption) (small_one (by omega) (by omega) (by omega) (by omega)) (by rw [rangeSize_nat]; omega) (by rw [sizeLine_eq]; omega) ?_
  intro g9
  k_dflt refine bx_rest (S := S) [(L' + 1 + 1, o1'), (L' + 1, o2')] (fun r => r.natAbs ≤ 9) ⟨i1, z1, t11, t21, n1⟩ b1 ?_ ?_
  · intro c k2 t2' I oI C oC M m₂ ys h2 tk2 E' hb2 hC hx F2 N2 off ne
    (try simp only [List.nil_append, List.cons_append] at N2 off)
    (try dsimp only)
    (try k_fold)
    k_steps
    all_goals (try dsimp only)
    (try simp only [LCg.Off3, and_true] at off)
    refine of_halt ?_
    k_dflt refine' use_take ?kh0 ?kh1 ?k1 ?k2 ?k3 ?k4 ?kK ?kN ?kU ?kSD ?kLA ?kln ?kbx ?kd ?ku ?_
    (case kh0 => omega)
    (case kh1 => omega)
    (case k1 => k_asm)
    (case k2 => k_asm)
    (case k3 => k_asm)
    (case k4 => k_asm)
    (case kK => first | exact rfl | assumption)
    (case kN => k_asm)
    (case kU => k_updF)
    (case kSD => assumption)
    (case kLA => exact la_base (by k_asm) hL hI)
    (case kln => assumption)
    (case kbx => assumption)
    (case kd => ktr_room)
    (case ku => ktr_units)
    intro x3 tx3 h3 tk3 i3 z3 t13 t23 n3 p3 q3 b3 F3 N3 k3
    (try dsimp only)
    (try k_fold)
    k_steps
    all_goals (try dsimp only)
    unfold Stop
    k_dflt refine LCg.CompEnd.intro (by k_asm) (by k_asm) ([(L' + 1 + 1, o1'), (L' + 1, o2')] ++ [(D, boxObj S i3 z3 t13 t23 n3)]) (fun p hp => by simpa only [List.nil_append, List.cons_append] using hp) (by simpa only [List.nil_append, List.cons_append, LCg.Off3, and_true] using off) ?_ ?_
    · exact True.intro
    exact ⟨⟨i3, z3, t13, t23, n3⟩, _, _, rfl, b3, rfl, by omega⟩
  · intro c ys zs hb2 hi2 hl2 hz2
    (try simp only [List.nil_append, List.cons_append])
    intro D2 h2 tk2 F2 N2 o2
    (try simp only [LCg.Off1, and_true] at o2)
    (try dsimp only)
    (try k_fold)
    k_steps
    all_goals (try dsimp only)
    refine of_halt ?_
    k_dflt refine' ksw_while (RLed D S c) (fun c => [(Str.ofString "row", .ref c.r)]) (fun _ => True) [] (RP D x1.toNat) (fun c => c.f.length) ⟨D2, ys, ys.length, zs⟩ (by k_asm) (List.forall_mem_cons.mpr ⟨?hn1, List.forall_mem_singleton.mpr ?hn2⟩) trivial ?hk ?hp ?turn ?hE
    case hn1 => (rename News _ _ _ _ => NN9); exact NN9 _ (by k_mem)
    case hn2 => (rename News _ _ _ _ => NN9); exact NN9 _ (by k_mem)
    case hk => exact (List.forall_mem_singleton.mpr (by with_unfolding_all rfl))
    case hp => exact ⟨hi2, hl2 ▸ Nat.le_refl _, hz2, fun e => o2.2.2 e.symm⟩
    case hE => passes_own
    case turn =>
      rintro ⟨r, rv, nr, f⟩ u h tk _ ⟨hP1, hP2, hP3, hP4⟩ F9 N9
      replace hP4 : @Ne Nat r D := hP4
      dsimp only [RLed] at N9
      dsimp only at hP1 hP2 hP3 F9
      (try dsimp only)
      (try k_fold)
      k_steps
      all_goals (try dsimp only)
      · k_dflt exact ksw_end (FSt.mk _ _ _ (f.take (f.length - 1))) (by k_asm) (by k_asm) (List.forall_mem_cons.mpr ⟨by k_mem, List.forall_mem_singleton.mpr (by k_mem)⟩) trivial (List.forall_mem_singleton.mpr (by with_unfolding_all rfl)) (by intro z9 a9 b9; simp only [List.forall_mem_cons, List.not_mem_nil, false_implies, implies_true, and_true, ne_eq] at a9; simp only [List.contains_cons, List.contains_nil, Bool.or_false, Bool.or_eq_false_iff, beq_eq_false_iff_ne, ne_eq] at b9; simp [mk, kstB, a9, b9]) ⟨by k_asm, by simp only [List.length_take]; omega, fun y hy => hP3 y (List.mem_of_mem_take hy), by k_ne⟩ (by simp only [List.length_take]; omega)
      · k_dflt exact end_row (by k_asm) (by k_asm) (by k_mem) (by k_mem) hP4 hb2 hP1 (by omega) hP3 (trim_stop fun _ => by k_asm)
      · k_dflt exact end_row (by k_asm) (by k_asm) (by k_mem) (by k_mem) hP4 hb2 hP1 (by omega) hP3 (trim_stop fun h => absurd h (by k_asm))
end NNc16
local macro_rules | `(tactic| walk_at "nn pad") => `(tactic| fail)
local macro_rules | `(tactic| walk_at "nn pad") => `(tactic| fail)
section NNPlain1
open PySem PySem.W
theorem trim_last {xs : List Int} (h : xs ≠ []) (ht : trim xs = xs) : xs.getLastD 0 ≠ 0 := by
  obtain ⟨ys, y, rfl⟩ : ∃ ys y, xs = ys ++ [y] := ⟨xs.dropLast, xs.getLast h, (List.dropLast_concat_getLast h).symm⟩
  intro e
  have e' : y = 0 := by simpa using e
  subst e'
  rw [trim_snoc_zero] at ht
  have h1 : (trim ys).length ≤ ys.length := by
    unfold trim
    have := (List.dropWhile_sublist (fun x : Int => x == 0) (l := ys.reverse)).length_le
    simpa using this
  rw [ht] at h1
  simp at h1
  omega
theorem fmod_dvd {x k : Int} (h : k ∣ x) : x.fmod k = 0 := Int.fmod_eq_zero_of_dvd h
theorem dvd_fmod {x k : Int} (h : x.fmod k = 0) : k ∣ x := Int.dvd_of_fmod_eq_zero h
theorem fdiv_neg_exact {x g : Int} (hg : 0 < g) (h : g ∣ x) : x.fdiv (-g) = x.fdiv g * -1 := by
  obtain ⟨q, rfl⟩ := h
  rw [Int.mul_fdiv_cancel_left _ (by omega), show g * q = (-g) * (-q) by rw [Int.neg_mul_neg], Int.mul_fdiv_cancel_left _ (by omega)]
  omega
theorem prim_is {xs : List Int} (h : xs ≠ []) (h0 : xs.getLastD 0 ≠ 0) : pprim xs = xs.map fun x => x.fdiv (pgcd xs) * (if xs.getLastD 0 > 0 then 1 else -1) := by
  have hg := pgcd_pos (last_mem h) h0
  unfold pprim pdiv
  rw [if_neg h]
  split
  · simp
  · exact List.map_congr_left fun x hx => fdiv_neg_exact hg (pgcd_dvd hx)
theorem hf_ge : ∀ (xs : List Int) (a : Int), a ≤ xs.foldl (fun a x => max a (if x < 0 then -x else x)) a ∧ ∀ x ∈ xs, (if x < 0 then -x else x) ≤ xs.foldl (fun a x => max a (if x < 0 then -x else x)) a
  | [], a => ⟨Int.le_refl a, fun x h => by cases h⟩
  | y :: r, a => by
    obtain ⟨h1, h2⟩ := hf_ge r (max a (if y < 0 then -y else y))
    refine ⟨by simp only [List.foldl_cons]; omega, fun x hx => ?_⟩
    simp only [List.foldl_cons]
    rcases List.mem_cons.mp hx with rfl | hx
    · omega
    · exact h2 x hx
theorem hf_mem : ∀ (xs : List Int) (a : Int), xs.foldl (fun a x => max a (if x < 0 then -x else x)) a ∈ a :: xs.map fun x => if x < 0 then -x else x
  | [], a => by simp
  | y :: r, a => by
    have h := hf_mem r (max a (if y < 0 then -y else y))
    simp only [List.foldl_cons, List.map_cons]
    rcases List.mem_cons.mp h with h | h
    · rw [h]
      by_cases h3 : a ≤ (if y < 0 then -y else y)
      · rw [Int.max_eq_right h3]; exact List.mem_cons_of_mem _ (List.mem_cons_self ..)
      · rw [Int.max_eq_left (by omega)]; exact List.mem_cons_self ..
    · exact List.mem_cons_of_mem _ (List.mem_cons_of_mem _ h)
theorem height_is {M : Int} {xs : List Int} (h1 : M ∈ [0] ++ xs.map (fun x => if x < 0 then -x else x)) (h2 : ∀ a ∈ [0] ++ xs.map (fun x => if x < 0 then -x else x), a ≤ M) : M = pheight xs := by
  have h3 := h2 _ (hf_mem xs 0)
  obtain ⟨h4, h5⟩ := hf_ge xs 0
  have h6 : M ≤ pheight xs := by
    rcases List.mem_cons.mp h1 with h | h
    · rw [h]; exact h4
    · obtain ⟨x, hx, rfl⟩ := List.mem_map.mp h
      exact h5 x hx
  have h7 : pheight xs ≤ M := h3
  omega

theorem pheight_le {xs : List Int} (h : ∀ x ∈ xs, x.natAbs ≤ 9) : 0 ≤ pheight xs ∧ pheight xs ≤ 9 := by
  refine ⟨(hf_ge xs 0).1, ?_⟩
  rcases List.mem_cons.mp (hf_mem xs 0) with e | e
  · have e' : pheight xs = 0 := e
    omega
  · obtain ⟨x, hx, e⟩ := List.mem_map.mp e
    have e' : (if x < 0 then -x else x) = pheight xs := e
    have := h x hx
    split at e' <;> omega

theorem mem_rk {k : Int} {n : Nat} (h1 : 1 ≤ k) (h2 : k ≤ n) : k ∈ rangeKs 1 n := by
  unfold rangeKs
  exact List.mem_map.mpr ⟨(k - 1).toNat, List.mem_range.mpr (by omega), by omega⟩
theorem content_is {xs ds : List Int} {M : Int} (hne : xs ≠ []) (h0 : xs.getLastD 0 ≠ 0) (hds : (rangeKs 1 (pheight xs).toNat).filter (fun k => decide (∀ x ∈ xs, x.fmod k = 0)) = ds) (h1 : M ∈ [0] ++ ds) (h2 : ∀ a ∈ [0] ++ ds, a ≤ M) : M = pgcd xs := by
  have hl := last_mem hne
  have g1 := pgcd_pos hl h0
  have g2 := pgcd_le hl h0
  have g3 := (hf_ge xs 0).2 _ hl
  have g4 : pgcd xs ≤ pheight xs := by
    have g3' : (if xs.getLastD 0 < 0 then -xs.getLastD 0 else xs.getLastD 0) ≤ pheight xs := g3
    split at g3' <;> omega
  have hm : pgcd xs ∈ ds := by
    rw [← hds]
    exact List.mem_filter.mpr ⟨mem_rk (by omega) (by omega), decide_eq_true fun x hx => fmod_dvd (pgcd_dvd hx)⟩
  have g5 := h2 _ (List.mem_append.mpr (.inr hm))
  rcases List.mem_append.mp h1 with h | h
  · have := List.mem_singleton.mp h
    omega
  · rw [← hds] at h
    have h3 := of_decide_eq_true (List.mem_filter.mp h).2
    have h4 : M ∣ pgcd xs := pgcd_great fun x hx => dvd_fmod (h3 x hx)
    have := Int.le_of_dvd g1 h4
    omega
end NNPlain1
section NNCell
open PySem PySem.W PyProof.Rows PySem.Calls PySem.Spec
section
variable {prog : Program} {w : World} {A : Around} {E : Value → Shared → Prop} {s : Shared} {h₀ : Heap} {L : Addr} {m : Str → Option Value} {env : Env}
abbrev cell0 : Obj := { cls := .type "cell", data := .cell none }
theorem newEnv_one {M : Model} {scope : Scope} {cl : List (Str × Addr)} {x : Str} {Q : Env → Shared → Prop} (hcs : ∀ n, cellsFrom n scope.names cl = (x, n) :: cl) (hpc : ∀ h : Heap, pushCells h scope.names = h.push cell0)
    (hQ : ∀ e : Env, ({ e with scope := relabel scope env } = compEnvC scope ((x, s.heap.objs.size + 1) :: cl) s.heap.objs.size env) → e.locals = s.heap.objs.size →
      Q e { s with heap := (s.heap.push { cls := .type "dict", data := .dict #[] }).push cell0 }) :
    wpAny M A (newFunctionEnv scope env.globals cl [] env.qual none .none (some env)) Q E s := by
  simp only [newFunctionEnv, Option.isSome_some, if_true]
  refine wpAny_bind (wpAny_alloc ?_)
  refine wpAny_bind (wpAny_layCells _ (fun name kind cells => by cases hkc : kind == NameKind.cell <;> simp [hkc]) _ _ _ _ ?_)
  simp only [List.forIn_nil]
  refine wpAny_bind (wpAny_pure (wpAny_pure ?_))
  rw [hcs, hpc, Heap.size_push]
  exact hQ _ rfl rfl

def CcTurn (prog : Program) (w : World) (A : Around) (h₀ : Heap) (L : Addr) (m : Str → Option Value) (env : Env) (ct : Expr) (x : Str) (scope : Scope) (cl : List (Str × Addr)) (news : Led) (a : Int) (n : Nat) (p : Int → Bool) (s : Shared) : Prop :=
  ∀ (i : Nat) (k : Int) (t : Tok) (I : Addr) (oI : Obj) (c : Addr) (oc : Obj) (C : Addr) (oC : Obj) (D : Addr) (oD : Obj) (h : Heap) (tk : Nat) (E' : Value → Shared → Prop),
    k = a + (i : Int) → i < n → oc.data = .cell (some (.int k t)) → Fr h₀ L h m → News h₀ L h ((I, oI) :: (c, oc) :: (C, oC) :: (D, oD) :: news) →
    wpAny (model prog w) A (isTrue ct (compEnvC scope ((x, c) :: cl) C env) (eval ct (compEnvC scope ((x, c) :: cl) C env)))
      (fun ok s₃ => ok = p k ∧ SameL h₀ L m ((I, oI) :: (c, oc) :: (C, oC) :: (D, oD) :: news) { s with heap := h, toks := tk } s₃) E' { s with heap := h, toks := tk }

def CcSrc (prog : Program) (w : World) (A : Around) (h₀ : Heap) (L : Addr) (m : Str → Option Value) (env : Env) (ct : Expr) (x : Str) (scope : Scope) (cl : List (Str × Addr)) (Q : Value → Shared → Prop) (xv : Value) (s₁ : Shared) : Prop :=
  ∃ (r : Addr) (a b : Int) (t u v : Tok) (n : Nat) (news : Led) (p : Int → Bool), xv = .ref r ∧ A.handled = none ∧ Fr h₀ L s₁.heap m ∧ News h₀ L s₁.heap news ∧ IsRange s₁.heap r a b 1 t u v ∧ Builtin.Range.small a b 1 = true ∧ Builtin.Range.rangeSize a b 1 = (n : Int) ∧ n ≤ sizeLine ∧
    CcTurn prog w A h₀ L m env ct x scope cl news a n p s₁ ∧ EnFin h₀ L m news ((rangeKs a n).filter p) s₁ Q

theorem rangeKs_snoc (a : Int) (i : Nat) : rangeKs a (i + 1) = rangeKs a i ++ [a + (i : Int)] := by
  unfold rangeKs
  rw [List.range_succ, List.map_append]; rfl

theorem cell_comp {ct iter : Expr} {x : Str} {px px2 : Pos} {scope : Scope} {cl : List (Str × Addr)} {pos : Pos} {Q : Value → Shared → Prop} (_F : Fr h₀ L s.heap m)
    (hclos : closureFor scope env = pure cl) (hcs : ∀ n, cellsFrom n scope.names cl = (x, n) :: cl) (hpc : ∀ h : Heap, pushCells h scope.names = h.push cell0) (hkind : scope.kind = .function)
    (hnames : ∀ y ∈ scope.names, y.2 = .local → scope.names.lookup y.1 = some .local) (hx : (relabel scope env).names.lookup x = some .cell) (hd : (x == ("__debug__" : Str)) = false)
    (h : wpAny (model prog w) A (eval iter env) (CcSrc prog w A h₀ L m env ct x scope cl Q) E s)
    (hs : ∀ x, foldedSetIterable iter env x = pure x) :
    wpAny (model prog w) A (eval (.ListComp (.Name x px2) [⟨.Name x px, iter, [ct], 0⟩] scope pos) env) Q E s := by
  rw [eval_ListComp]
  refine wpAny_comprehension_free (use := none) rfl hs hclos hkind hnames (wpAny_mono h (fun xv s₁ h₁ => ?_) fun _ _ e => e)
  obtain ⟨r, a, b, t, u, v, n, news, p, rfl, hh, F₁, N₁, hr, hsm, hn, hsz, turn, fin⟩ := h₁
  refine wpAny_pyIter_range hr hsm ?_
  generalize hs2 : ({ s₁ with heap := s₁.heap.push _ } : Shared) = s₂
  have hI2 : IsRangeIter s₂.heap s₁.heap.objs.size (a + (0 : Nat) * 1) ((n : Int) - (0 : Nat)) 1 := by
    subst hs2
    rw [hn]
    show (s₁.heap.push _).get? _ = some _
    simpa using Heap.get?_push_size _ rfl
  have hup2 : ∀ b o, s₁.heap.get? b = some o → s₂.heap.get? b = some o := fun b o e => by subst hs2; exact Heap.get?_push_of_some _ e
  have hsize2 : s₂.heap.objs.size = s₁.heap.objs.size + 1 := by subst hs2; exact Heap.size_push ..
  have hs2' : s₂ = { s₁ with heap := s₂.heap, toks := s₂.toks } := by subst hs2; rfl
  have htk2 : s₂.toks = s₁.toks := by subst hs2; rfl
  clear hs2
  refine wpAny_newObj_type (newEnv_one hcs hpc fun cenv hcenv hloc => ?_)
  dsimp only at hcenv hloc ⊢
  rw [hcenv, hloc]
  generalize hH1 : s₂.heap.push { cls := .type "list", dict := none, data := .seq ([] : List Value).toArray } = H1 at *
  have hC : H1.objs.size = s₁.heap.objs.size + 2 := by rw [← hH1, Heap.size_push, hsize2]
  generalize hCn : H1.objs.size = C at *
  generalize hIn : s₁.heap.objs.size = I at *
  generalize hDn : s₂.heap.objs.size = D at *
  generalize hcn : C + 1 = c at *
  have hup1 : ∀ b o, s₂.heap.get? b = some o → H1.get? b = some o := fun b o e => by rw [← hH1]; exact Heap.get?_push_of_some _ e
  have hacc1 : H1.get? D = some (LCg.lst []) := by rw [← hH1, ← hDn]; exact Heap.get?_push_size _ rfl
  have hup3 : ∀ b o, H1.get? b = some o → ((H1.push { cls := .type "dict", data := .dict #[] }).push cell0).get? b = some o := fun b o e => Heap.get?_push_of_some _ (Heap.get?_push_of_some _ e)
  have hns3 : ((H1.push { cls := .type "dict", data := .dict #[] }).push cell0).Ns C (fun _ => none) := by
    have := (Heap.Ns.new H1 (.type "dict")).at' fun o e => Heap.get?_push_of_some cell0 e
    rwa [hCn] at this
  have hcell3 : ((H1.push { cls := .type "dict", data := .dict #[] }).push cell0).get? c = some cell0 := by
    have e := Heap.get?_push_size (H1.push { cls := .type "dict", data := .dict #[] }) (o := cell0) rfl
    rwa [Heap.size_push, hCn, hcn] at e
  generalize hH3 : (H1.push { cls := .type "dict", data := .dict #[] }).push cell0 = H3 at *
  have fresh₀ : ∀ z, I ≤ z → h₀.get? z = none := fun z hz => by
    cases e : h₀.get? z with
    | none => rfl
    | some o => have := Heap.lt_size (F₁.keep z o e); rw [hIn] at this; exact absurd this (Nat.not_lt.mpr hz)
  have hI₀ := fresh₀ I (Nat.le_refl _)
  have hD₀ := fresh₀ D (by omega)
  have hC₀ := fresh₀ C (by omega)
  have hc₀ := fresh₀ c (by omega)
  have hLlt : @LT.lt Nat _ L I := by rw [← hIn]; exact F₁.ns.lt
  have hLI : @Ne Nat L I := by omega
  have hLD : @Ne Nat L D := by omega
  have hLC : @Ne Nat L C := by omega
  have hLc : @Ne Nat L c := by omega
  have offn : ∀ q ∈ news, q.1 ≠ I ∧ q.1 ≠ D ∧ q.1 ≠ C ∧ q.1 ≠ c := fun q hq => by
    have := Heap.lt_size (N₁ q hq).1
    rw [hIn] at this
    have h2 : @LT.lt Nat _ q.1 I := this
    refine ⟨?_, ?_, ?_, ?_⟩ <;> (intro e; have h3 : @Eq Nat q.1 _ := e; omega)
  have hID : I ≠ D := by omega
  have hIC : I ≠ C := by omega
  have hIc : I ≠ c := by omega
  have hDC : D ≠ C := by omega
  have hDc : D ≠ c := by omega
  have hCc : C ≠ c := by omega
  have up : ∀ b o, s₁.heap.get? b = some o → H3.get? b = some o := fun b o e => hup3 _ _ (hup1 _ _ (hup2 _ _ e))
  have W := LCg.range_walks (prog := prog) (w := w) (A := A) (I := I) hh a n
  have loop : ∀ s₃ : Shared, s₃ = { s₁ with heap := H3, toks := s₂.toks } →
      codeAny (model prog w) A (.compLoop (.ListComp (.Name x px2) [⟨.Name x px, iter, [ct], 0⟩] scope pos) 0 (.ref I) (.ref D) (compEnvC scope ((x, c) :: cl) C env))
        (compPost (model prog w) A E none Q (.ref D) C) s₃ := by
    rintro s₃ rfl
    refine codeAny_compLoop_tests
      (fun k s' => ∃ h' tk i ys m', s' = { s₁ with heap := h', toks := tk } ∧ i ≤ n ∧ k = n + 1 - i ∧ ys.length ≤ i ∧ IntsAre ys ((rangeKs a i).filter p) ∧ IsRangeIter h' I (a + (i : Nat) * 1) ((n : Int) - (i : Nat)) 1 ∧ Fr h₀ L h' m ∧ h'.Ns C m' ∧ (∃ v, h'.IsCell c v) ∧
        News h₀ L h' ((D, LCg.lst ys) :: news)) ?_ (n + 1)
      ⟨H3, _, 0, [], _, rfl, Nat.zero_le _, rfl, Nat.le_refl _, .nil, hup3 _ _ (hup1 _ _ hI2), F₁.keeps up, hns3, ⟨none, _, hcell3, rfl⟩, fun q hq => ?_⟩
    · rintro k s' ⟨h', tk, i, ys, m', rfl, hi', rfl, hyl, hys, hst, F', hn', ⟨v0, hc'⟩, N'⟩
      by_cases hlt : i < n
      · refine W.item i _ _ _ hlt hst fun v h₂ tk₂ hPv hst₂ hk₂ => ?_
        obtain ⟨tv, rfl⟩ := hPv
        have hc₂ : h₂.IsCell c v0 := by obtain ⟨o, e, hd'⟩ := hc'; exact ⟨o, hk₂ _ _ (by simpa using Ne.symm hIc) e, hd'⟩
        refine wpAny_assign_Name (wpAny_storeName_cell (by simp [compEnvC, relabel, hkind]) hx (by simp [compEnvC]) hc₂ fun h₃ hv₃ hs₃ => ?_)
        refine wpAny_tests_one ?_
        have up₃ : ∀ b o, b ≠ I → b ≠ c → h'.get? b = some o → h₃.get? b = some o := fun b o h1 h2 e => hs₃.extBut b o h2 (hk₂ b o (by simpa using h1) e)
        have hst₃ : IsRangeIter h₃ I (a + ((i + 1 : Nat) : Nat) * 1) ((n : Int) - ((i + 1 : Nat) : Nat)) 1 := hs₃.extBut I _ hIc hst₂
        obtain ⟨oC, heC, hoC⟩ := LCg.ns_obj (hn'.at' fun o e => up₃ _ o (Ne.symm hIC) hCc e)
        obtain ⟨oc, hec, hoc⟩ := hv₃
        have F₃ : Fr h₀ L h₃ m := ⟨F'.ns.at' fun o e => up₃ _ o hLI hLc e, fun b o e => up₃ b o (fun z => by rw [z, hI₀] at e; cases e) (fun z => by rw [z, hc₀] at e; cases e) (F'.keep b o e), F'.above⟩
        obtain ⟨oI, heI, hIall⟩ : ∃ oI : Obj, h₃.get? I = some oI ∧ ∀ h : Heap, h.get? I = some oI → IsRangeIter h I (a + ((i + 1 : Nat) : Nat) * 1) ((n : Int) - ((i + 1 : Nat) : Nat)) 1 := ⟨_, hst₃, fun _ q => q⟩
        have N₃ : News h₀ L h₃ ((I, oI) :: (c, oc) :: (C, oC) :: (D, LCg.lst ys) :: news) := fun q hq => by
          rcases List.mem_cons.mp hq with rfl | hq
          · exact ⟨heI, Ne.symm hLI, hI₀⟩
          rcases List.mem_cons.mp hq with rfl | hq
          · exact ⟨hec, Ne.symm hLc, hc₀⟩
          rcases List.mem_cons.mp hq with rfl | hq
          · exact ⟨heC, Ne.symm hLC, hC₀⟩
          have z := N' q hq
          refine ⟨up₃ _ _ ?_ ?_ z.1, z.2⟩
          · rcases List.mem_cons.mp hq with rfl | hq
            · exact Ne.symm hID
            · exact (offn q hq).1
          · rcases List.mem_cons.mp hq with rfl | hq
            · exact hDc
            · exact (offn q hq).2.2.2
        have efil : (rangeKs a (i + 1)).filter p = (rangeKs a i).filter p ++ (if p (a + (i : Int)) then [a + (i : Int)] else []) := by
          rw [rangeKs_snoc, List.filter_append]
          congr 1
          simp [List.filter_cons]
        refine wpAny_mono (turn i _ tv I oI c oc C oC D (LCg.lst ys) h₃ tk₂ _ rfl hlt hoc F₃ N₃) (fun ok s₃ z => ?_) fun _ _ q => q
        obtain ⟨hok, h₅, tk₅, rfl, F₅, N₅⟩ := z
        have zI := (N₅ (I, oI) (by simp)).1
        have zC := (N₅ (C, oC) (by simp)).1
        have zc := (N₅ (c, oc) (by simp)).1
        have zD := (N₅ (D, LCg.lst ys) (by simp)).1
        cases hp : p (a + (i : Int)) with
        | false =>
          rw [hp] at hok
          subst hok
          simp only [Bool.false_eq_true, if_false]
          refine ⟨n + 1 - (i + 1), by omega, h₅, tk₅, i + 1, ys, _, rfl, hlt, rfl, by omega, by rw [efil, hp]; simpa using hys, hIall _ zI, F₅, hoC.ns zC, ⟨_, _, zc, hoc⟩, fun q hq => N₅ q ?_⟩
          rcases List.mem_cons.mp hq with rfl | hq
          · simp
          · simp [hq]
        | true =>
          rw [hp] at hok
          subst hok
          simp only [if_true]
          refine wpAny_Name (wpAny_loadName_cell (by simp [compEnvC, relabel, hkind]) hx (by simp [compEnvC]) ⟨oc, zc, hoc⟩ ?_) hd
          refine append_at (hsz := by show ys.toArray.size ≤ sizeLine; rw [List.size_toArray]; omega) zD fun h₇ hs₇ hD₇ => ?_
          have F₇ : Fr h₀ L h₇ m := F₅.change hs₇ (Ne.symm hLD) hD₀
          refine ⟨n + 1 - (i + 1), by omega, h₇, tk₅, i + 1, ys ++ [.int (a + (i : Int)) tv], _, rfl, hlt, rfl, by rw [List.length_append, List.length_singleton]; omega, by rw [efil, hp]; simpa using hys.append (.cons _ tv .nil), hIall _ (hs₇.extBut _ _ hID zI), F₇, (hoC.ns zC).sameBut hs₇ (Ne.symm hDC), ⟨_, _, hs₇.extBut _ _ (Ne.symm hDc) zc, hoc⟩, fun q hq => ?_⟩
          rcases List.mem_cons.mp hq with rfl | hq
          · exact ⟨hD₇.trans (congrArg some (LCg.lst_snoc ys _)), Ne.symm hLD, hD₀⟩
          · have z := N₅ q (by simp [hq])
            exact ⟨hs₇.extBut _ _ (offn q hq).2.1 z.1, z.2⟩
      · obtain rfl : i = n := by omega
        refine W.done _ _ _ hst fun h₂ tk₂ hk₂ => ?_
        have up₂ : ∀ b o, b ≠ I → h'.get? b = some o → h₂.get? b = some o := fun b o h1 q => hk₂ b o (by simpa using h1) q
        have F₂ : Fr h₀ L h₂ m := ⟨F'.ns.at' fun o q => up₂ _ o hLI q, fun b o q => up₂ b o (fun z => by rw [z, hI₀] at q; cases q) (F'.keep b o q), F'.above⟩
        refine ⟨m', hn'.at' fun o q => up₂ _ o (Ne.symm hIC) q, fun h'' hs'' => ?_⟩
        refine fin _ h'' tk₂ ys (F₂.change hs'' (Ne.symm hLC) hC₀) (fun q hq => ?_) (fun q hq => (offn q hq).2.1) hys
        have z := N' q hq
        rcases List.mem_cons.mp hq with rfl | hq
        · exact ⟨hs''.extBut _ _ hDC (up₂ _ _ (Ne.symm hID) z.1), z.2⟩
        · exact ⟨hs''.extBut _ _ (offn q hq).2.2.1 (up₂ _ _ (offn q hq).1 z.1), z.2⟩
    · rcases List.mem_cons.mp hq with rfl | hq
      · exact ⟨hup3 _ _ hacc1, Ne.symm hLD, hD₀⟩
      · exact ⟨up _ _ (N₁ q hq).1, (N₁ q hq).2⟩
  have e3 : ({ s₂ with heap := H3 } : Shared) = { s₁ with heap := H3, toks := s₂.toks } := by rw [hs2']
  exact codeAny_compStart_list (loop _ e3) (W.self 0 _ _ _ (hup3 _ _ (hup1 _ _ hI2)) (loop _ e3))
end
end NNCell
local macro_rules | `(tactic| walk_at "KCfEl") => `(tactic| (refine stop_of ?_))
local macro_rules | `(tactic| walk_at "CcSrc") => `(tactic| (k_here; refine stop_of ?_))
local macro_rules | `(tactic| walk_at "eval ListComp") => `(tactic| (k_here; (with_reducible show wpAny _ _ (eval (Expr.ListComp _ [⟨Expr.Name _ _, _, [], 0⟩] _ _) _) _ _ _); k_dflt (refine LCg.ListComp_U (F₀ := by k_asm) (by with_unfolding_all rfl) (by decide) (by rfl) (by decide) (by rfl) ?_)))
local macro_rules | `(tactic| walk_at "eval ListComp") => `(tactic| (k_here; (with_reducible show wpAny _ _ (eval (Expr.ListComp _ [⟨_, _, [Expr.Compare (Expr.ListComp _ _ _ _) _ _ _], 0⟩] _ _) _) _ _ _); k_dflt (refine cell_comp (by k_asm) (by with_unfolding_all rfl) (fun _ => by with_unfolding_all rfl) (fun _ => by with_unfolding_all rfl) (by rfl) (by decide) (by with_unfolding_all rfl) (by decide) ?_ (by intro _; with_unfolding_all rfl))))
section NNc17
open PySem PySem.W PyProof.Rows PySem.Calls PySem.Spec

theorem off1_of {D : Addr} : ∀ {l : Led}, (∀ q ∈ l, q.1 ≠ D) → LCg.Off1 D l
  | [], _ => trivial
  | _ :: _, h => ⟨h _ (List.mem_cons_self ..), off1_of fun q hq => h q (List.mem_cons_of_mem _ hq)⟩

theorem c_zlead_pos (w : World) (p : Addr) (xs : List Int) (h : 0 < xs.length) : Ct w 49 1 [.ref p] (fun h => LA h p xs ∧ xs.length < 1000) (RetI (xs.getD (-1 + (xs.length : Int)).toNat 0)) := by
  rw [lead_walk (List.length_pos_iff.mp h)]
  exact c_zlead w p xs

theorem lead_one {xs : List Int} (h : xs ≠ []) (h2 : xs.getD (-1 + (xs.length : Int)).toNat 0 > 0) : (if xs.getLastD 0 > 0 then (1 : Int) else -1) = 1 := by rw [lead_walk h] at h2; rw [if_pos h2]
theorem lead_neg {xs : List Int} (h : xs ≠ []) (h2 : ¬ xs.getD (-1 + (xs.length : Int)).toNat 0 > 0) : (if xs.getLastD 0 > 0 then (1 : Int) else -1) = -1 := by rw [lead_walk h] at h2; rw [if_neg h2]

theorem c_shape_pos (w : World) (p : Addr) (xs : List Int) (hpos : 0 < xs.length) : Ct w 183 20 [.ref p] (fun h => LA h p xs ∧ xs.length ≤ 10 ∧ (∀ x ∈ xs, x.natAbs ≤ 9) ∧ trim xs = xs) (RetB true) := by
  w_top off
  unfold Ct
  k_fill
  intro dp un gd cn cs a ccd cl outer A₀ base h₀ L m mg mb mean s Q E B F X T hk hp hd hu hret
  k_dflt refine' ro_enterC ?k1 ?k2 ?k3 ?k5 ?kA ?kF ?kK ?k6 ?k7 ?k8 ?k9 ?kB ?kD ?kR ?_ ?c2 ?c3 ?c4
  (case kA => exact rfl)
  (case kF => exact rfl)
  (case kK => assumption)
  (case k1 => k_asm)
  (case k2 => k_asm)
  (case k3 => k_asm)
  (case k5 => k_asm)
  (case k6 => k_is)
  (case k7 => k_is)
  (case k8 => ktr_room)
  (case k9 => k_dflt exact BindsTo.of_eq rfl)
  (case kB => k_dflt exact rfl)
  (case kD => decide +kernel)
  (case c2 => exact rfl)
  (case c3 => exact rfl)
  (case c4 => exact rfl)
  (case kR => assumption)
  intro g' L' h' tk' cells' F' N' Y' B' X' T' kG'
  obtain ⟨o1', o2', o3', hE', d1', d2', d3'⟩ := CellsAre.three Y'
  subst hE'
  clear Y'
  (try simp only [List.nil_append, List.cons_append] at N')
  replace F' : Fr g' L' h' (fun _ => none) := F'
  replace d1' : o1'.data = .cell (none) := d1'
  replace d2' : o2'.data = .cell (none) := d2'
  replace d3' : o3'.data = .cell (some (.ref p)) := d3'
  (try dsimp only)
  obtain ⟨h1, h2, h3, h4⟩ := hp
  have h1 := h1.keeps kG'
  obtain ⟨vs, hL, hI⟩ := h1
  obtain ⟨hh1, hh2⟩ := pheight_le h3
  (try k_fold)
  k_steps
  all_goals (try dsimp only)
  unfold Stop
  k_dflt refine LCg.CompSrc.base (by rfl) (by k_asm) (by k_asm) hL (by rw [sizeLine_eq, List.size_toArray, hI.length]; omega) ?_
  intro g9
  k_dflt refine kcf_list (fun x => if x < 0 then -x else x) hI ?_ ?_
  · intro k t I oI C oC M m₂ ys h tk E' hk hC hx F9 N9 off ne mk
    (try simp only [LCg.Off3, and_true] at off)
    (try dsimp only)
    (try k_fold)
    k_steps
    exact ⟨rfl, _, rfl⟩
  · unfold KPfDone
    intro ys hi9 D h tk F9 N9 o9
    (try simp only [LCg.Off1, and_true] at o9)
    (try dsimp only)
    (try k_fold)
    k_steps
    all_goals (try dsimp only)
    have hM := height_is (by k_asm) (by k_asm)
    subst hM
    refine of_halt ?_
    k_dflt refine' use_I (c_zdegree w _ xs) ?k1 ?k2 ?k3 ?k4 ?kK ?kN ?kp ?kd ?ku ?_
    (case k1 => k_asm)
    (case k2 => k_asm)
    (case k3 => k_asm)
    (case k4 => k_asm)
    (case kK => first | exact rfl | assumption)
    (case kN => k_asm)
    (case kp => exact ⟨la_base (by k_asm) hL (by k_asm), by omega⟩)
    (case kd => ktr_room)
    (case ku => ktr_units)
    intro t1 h1a tk1 F1 N1 k1
    (try dsimp only)
    (try k_fold)
    k_steps
    all_goals (try dsimp only)
    refine of_halt ?_
    k_dflt refine' use_I (c_zlead_pos w _ xs hpos) ?k1 ?k2 ?k3 ?k4 ?kK ?kN ?kp ?kd ?ku ?_
    (case k1 => k_asm)
    (case k2 => k_asm)
    (case k3 => k_asm)
    (case k4 => k_asm)
    (case kK => first | exact rfl | assumption)
    (case kN => k_asm)
    (case kp => exact ⟨la_base (by k_asm) hL (by k_asm), by omega⟩)
    (case kd => ktr_room)
    (case ku => ktr_units)
    intro t2 h2a tk2 F2 N2 k2
    (try dsimp only)
    (try k_fold)
    k_steps
    all_goals (try dsimp only)
    refine of_halt ?_
    k_dflt refine' use_I (c_zheight w _ xs) ?k1 ?k2 ?k3 ?k4 ?kK ?kN ?kp ?kd ?ku ?_
    (case k1 => k_asm)
    (case k2 => k_asm)
    (case k3 => k_asm)
    (case k4 => k_asm)
    (case kK => first | exact rfl | assumption)
    (case kN => k_asm)
    (case kp => exact ⟨la_base (by k_asm) hL (by k_asm), by omega⟩)
    (case kd => ktr_room)
    (case ku => ktr_units)
    intro t3 h3a tk3 F3 N3 k3
    (try dsimp only)
    (try k_fold)
    k_steps
    all_goals (try dsimp only)
    unfold Stop
    k_dflt refine ⟨_, 1, pheight xs + 1, _, _, _, (pheight xs).toNat, _, fun k => decide (∀ x ∈ xs, x.fmod k = 0), rfl, rfl, by k_asm, by k_asm, by assumption, small_one (by omega) (by omega) (by omega) (by omega), by rw [rangeSize_nat]; omega, by rw [sizeLine_eq]; omega, ?_, ?_⟩
    · intro i k t I oI c oc C oC M oM h tk E' hk hi hoc F9 N9
      have hk1 : 1 ≤ k := by omega
      have hk9 : k ≤ 9 := by omega
      (try dsimp only)
      (try k_fold)
      k_steps
      all_goals (try dsimp only)
      · simp [List.filter_eq_nil_iff]
      · k_dflt refine ⟨_, _, rfl, by k_asm, ?_⟩
        (rename News _ _ _ _ => NN9)
        intro q hq
        refine NN9 q ?_
        repeat (first | exact hq | refine List.mem_cons_of_mem _ ?_)
    · intro M h tk ys F9 N9 o9 hi9
      have hl9 : ((rangeKs 1 (pheight xs).toNat).filter fun k => decide (∀ x ∈ xs, x.fmod k = 0)).length ≤ 9 := Nat.le_trans (List.length_filter_le ..) (by rw [rangeKs_length]; omega)
      generalize hds : (rangeKs 1 (pheight xs).toNat).filter (fun k => decide (∀ x ∈ xs, x.fmod k = 0)) = ds at hi9 hl9
      have hl8 := hi9.length
      have hx0 : xs ≠ [] := List.length_pos_iff.mp hpos
      have hlast := trim_last hx0 h4
      have hg1 := pgcd_pos (last_mem hx0) hlast
      have hg2 : pgcd xs ≠ 0 := by omega
      have hg3 : (pgcd xs).natAbs < 1073741824 := by have := pgcd_le (last_mem hx0) hlast; have := h3 _ (last_mem hx0); omega
      replace o9 := off1_of o9
      (try simp only [LCg.Off1, and_true] at o9)
      (try dsimp only)
      (try k_fold)
      k_steps
      all_goals (try dsimp only)
      have hM2 := content_is (ds := ds) hx0 hlast hds (by k_asm) (by k_asm)
      subst hM2
      refine of_halt ?_
      k_dflt refine' use_I (c_zcontent w _ xs) ?k1 ?k2 ?k3 ?k4 ?kK ?kN ?kp ?kd ?ku ?_
      (case k1 => k_asm)
      (case k2 => k_asm)
      (case k3 => k_asm)
      (case k4 => k_asm)
      (case kK => first | exact rfl | assumption)
      (case kN => k_asm)
      (case kp => exact ⟨la_base (by k_asm) hL (by k_asm), by omega⟩)
      (case kd => ktr_room)
      (case ku => ktr_units)
      intro t4 h4a tk4 F4 N4 k4
      (try dsimp only)
      (try k_fold)
      k_steps
      all_goals (try dsimp only)
      · exact absurd (a := pgcd xs = pgcd xs) rfl (by assumption)
      refine of_halt ?_
      k_dflt refine' use_L (c_zreversed w _ xs) ?k1 ?k2 ?k3 ?k4 ?kK ?kN ?kp ?kd ?ku ?_
      (case k1 => k_asm)
      (case k2 => k_asm)
      (case k3 => k_asm)
      (case k4 => k_asm)
      (case kK => first | exact rfl | assumption)
      (case kN => k_asm)
      (case kp => exact ⟨la_base (by k_asm) hL (by k_asm), by omega⟩)
      (case kd => ktr_room)
      (case ku => ktr_units)
      intro r5 rv5 n5 h5a tk5 hi5 F5 N5 l5 k5
      (try dsimp only)
      (try k_fold)
      k_steps
      all_goals (try dsimp only)
      refine of_halt ?_
      k_dflt refine' use_A (c_bare w _ xs.reverse) ?k1 ?k2 ?k3 ?k4 ?kK ?kN ?km ?ki ?kp ?kd ?ku ?_
      (case k1 => k_asm)
      (case k2 => k_asm)
      (case k3 => k_asm)
      (case k4 => k_asm)
      (case kK => first | exact rfl | assumption)
      (case kN => k_asm)
      (case km => k_mem)
      (case ki => first | k_asm | exact .cons _ _ (.cons _ _ .nil))
      (case kp => exact ⟨la_led (by k_asm) (by k_mem) (by k_asm), by simp only [List.length_reverse]; omega⟩)
      (case kd => ktr_room)
      (case ku => ktr_units)
      intro r6 rv6 n6 h6a tk6 hi6 F6 N6 l6 k6
      (try dsimp only)
      (try k_fold)
      have o5 : @Ne Nat (L' + 1 + 1 + 1) r5 := l5 (L' + 1 + 1 + 1, o1') (by k_mem)
      have o6 : @Ne Nat (L' + 1 + 1 + 1) r6 := l6 (L' + 1 + 1 + 1, o1') (by k_mem) (by k_ne)
      k_steps
      all_goals (try dsimp only)
      · refine of_halt ?_
        k_dflt refine' use_L (c_zprimitive w _ xs) ?k1 ?k2 ?k3 ?k4 ?kK ?kN ?kp ?kd ?ku ?_
        (case k1 => k_asm)
        (case k2 => k_asm)
        (case k3 => k_asm)
        (case k4 => k_asm)
        (case kK => first | exact rfl | assumption)
        (case kN => k_asm)
        (case kp => exact ⟨la_base (by k_asm) hL (by k_asm), by omega, fun _ => hlast, fun x hx => Nat.lt_of_le_of_lt (h3 x hx) (by decide)⟩)
        (case kd => ktr_room)
        (case ku => ktr_units)
        intro r7 rv7 n7 h7a tk7 hi7 F7 N7 l7 k7
        (try dsimp only)
        (try k_fold)
        k_steps
        all_goals (try dsimp only)
        unfold Stop
        k_dflt refine LCg.CompSrc.base (by rfl) (by k_asm) (by k_asm) hL (by rw [sizeLine_eq, List.size_toArray, hI.length]; omega) ?_
        intro g8
        k_dflt refine kcf_list (fun x => x.fdiv (pgcd xs) * 1) hI ?_ ?_
        · intro k t I oI C oC M m₂ ys h tk E' hk hC hx F9 N9 off ne mk
          (try simp only [LCg.Off3, and_true] at off)
          (try dsimp only)
          (try k_fold)
          k_steps
          exact ⟨rfl, _, rfl⟩
        · unfold KPfDone
          intro ys hi9 D h tk F9 N9 o9
          (try simp only [LCg.Off1, and_true] at o9)
          (try dsimp only)
          (try k_fold)
          k_steps
          all_goals (try dsimp only)
          exact end_bool (by k_asm) (decide_eq_true (by rw [prim_is hx0 hlast, lead_one hx0 (by k_asm)]))
      · refine of_halt ?_
        k_dflt refine' use_L (c_zprimitive w _ xs) ?k1 ?k2 ?k3 ?k4 ?kK ?kN ?kp ?kd ?ku ?_
        (case k1 => k_asm)
        (case k2 => k_asm)
        (case k3 => k_asm)
        (case k4 => k_asm)
        (case kK => first | exact rfl | assumption)
        (case kN => k_asm)
        (case kp => exact ⟨la_base (by k_asm) hL (by k_asm), by omega, fun _ => hlast, fun x hx => Nat.lt_of_le_of_lt (h3 x hx) (by decide)⟩)
        (case kd => ktr_room)
        (case ku => ktr_units)
        intro r7 rv7 n7 h7a tk7 hi7 F7 N7 l7 k7
        (try dsimp only)
        (try k_fold)
        k_steps
        all_goals (try dsimp only)
        unfold Stop
        k_dflt refine LCg.CompSrc.base (by rfl) (by k_asm) (by k_asm) hL (by rw [sizeLine_eq, List.size_toArray, hI.length]; omega) ?_
        intro g8
        k_dflt refine kcf_list (fun x => x.fdiv (pgcd xs) * (-1)) hI ?_ ?_
        · intro k t I oI C oC M m₂ ys h tk E' hk hC hx F9 N9 off ne mk
          (try simp only [LCg.Off3, and_true] at off)
          (try dsimp only)
          (try k_fold)
          k_steps
          exact ⟨rfl, _, rfl⟩
        · unfold KPfDone
          intro ys hi9 D h tk F9 N9 o9
          (try simp only [LCg.Off1, and_true] at o9)
          (try dsimp only)
          (try k_fold)
          k_steps
          all_goals (try dsimp only)
          exact end_bool (by k_asm) (decide_eq_true (by rw [prim_is hx0 hlast, lead_neg hx0 (by k_asm)]))
end NNc17
section NNc18
local macro_rules | `(tactic| walk_at "compareOp Eq ref ref") => `(tactic| (k_here; (with_reducible show wpAny _ _ (compareOp CmpOp.Eq (Value.ref _) (Value.ref _)) _ _ _); k_dflt (refine' eq_nil ?ka ?kb ?ki ?ku ?_; (case ka => kmk_list); (case kb => kmk_list); (case ki => assumption); (case ku => ktr_units); k_whole)))
open PySem PySem.W PyProof.Rows PySem.Calls PySem.Spec

theorem c_zlead_nil (w : World) (p : Addr) (xs : List Int) (h : xs = []) : Ct w 49 1 [.ref p] (fun h => LA h p xs ∧ xs.length < 1000) (RetI 0) := by
  subst h
  exact c_zlead w p []
theorem content_nil {xs ds : List Int} {M : Int} (h : ds = []) (h2 : pgcd xs = 0) (h1 : M ∈ [0] ++ ds) : M = pgcd xs := by
  subst h
  rw [h2]
  simpa using h1

theorem c_shape_nil (w : World) (p : Addr) (xs : List Int) (hnil : xs = []) : Ct w 183 20 [.ref p] (fun h => LA h p xs ∧ xs.length ≤ 10 ∧ (∀ x ∈ xs, x.natAbs ≤ 9) ∧ trim xs = xs) (RetB true) := by
  w_top off
  unfold Ct
  k_fill
  intro dp un gd cn cs a ccd cl outer A₀ base h₀ L m mg mb mean s Q E B F X T hk hp hd hu hret
  k_dflt refine' ro_enterC ?k1 ?k2 ?k3 ?k5 ?kA ?kF ?kK ?k6 ?k7 ?k8 ?k9 ?kB ?kD ?kR ?_ ?c2 ?c3 ?c4
  (case kA => exact rfl)
  (case kF => exact rfl)
  (case kK => assumption)
  (case k1 => k_asm)
  (case k2 => k_asm)
  (case k3 => k_asm)
  (case k5 => k_asm)
  (case k6 => k_is)
  (case k7 => k_is)
  (case k8 => ktr_room)
  (case k9 => k_dflt exact BindsTo.of_eq rfl)
  (case kB => k_dflt exact rfl)
  (case kD => decide +kernel)
  (case c2 => exact rfl)
  (case c3 => exact rfl)
  (case c4 => exact rfl)
  (case kR => assumption)
  intro g' L' h' tk' cells' F' N' Y' B' X' T' kG'
  obtain ⟨o1', o2', o3', hE', d1', d2', d3'⟩ := CellsAre.three Y'
  subst hE'
  clear Y'
  (try simp only [List.nil_append, List.cons_append] at N')
  replace F' : Fr g' L' h' (fun _ => none) := F'
  replace d1' : o1'.data = .cell (none) := d1'
  replace d2' : o2'.data = .cell (none) := d2'
  replace d3' : o3'.data = .cell (some (.ref p)) := d3'
  (try dsimp only)
  obtain ⟨h1, h2, h3, h4⟩ := hp
  have h1 := h1.keeps kG'
  obtain ⟨vs, hL, hI⟩ := h1
  obtain ⟨hh1, hh2⟩ := pheight_le h3
  have hl0 : xs.length = 0 := by rw [hnil]; rfl
  have hh0 : pheight xs = 0 := by rw [hnil]; rfl
  (try k_fold)
  k_steps
  all_goals (try dsimp only)
  unfold Stop
  k_dflt refine LCg.CompSrc.base (by rfl) (by k_asm) (by k_asm) hL (by rw [sizeLine_eq, List.size_toArray, hI.length]; omega) ?_
  intro g9
  k_dflt refine kcf_list (fun x => if x < 0 then -x else x) hI ?_ ?_
  · intro k t I oI C oC M m₂ ys h tk E' hk hC hx F9 N9 off ne mk
    (try simp only [LCg.Off3, and_true] at off)
    (try dsimp only)
    (try k_fold)
    k_steps
    exact ⟨rfl, _, rfl⟩
  · unfold KPfDone
    intro ys hi9 D h tk F9 N9 o9
    (try simp only [LCg.Off1, and_true] at o9)
    (try dsimp only)
    (try k_fold)
    k_steps
    all_goals (try dsimp only)
    have hM := height_is (by k_asm) (by k_asm)
    subst hM
    refine of_halt ?_
    k_dflt refine' use_I (c_zdegree w _ xs) ?k1 ?k2 ?k3 ?k4 ?kK ?kN ?kp ?kd ?ku ?_
    (case k1 => k_asm)
    (case k2 => k_asm)
    (case k3 => k_asm)
    (case k4 => k_asm)
    (case kK => first | exact rfl | assumption)
    (case kN => k_asm)
    (case kp => exact ⟨la_base (by k_asm) hL (by k_asm), by omega⟩)
    (case kd => ktr_room)
    (case ku => ktr_units)
    intro t1 h1a tk1 F1 N1 k1
    (try dsimp only)
    (try k_fold)
    k_steps
    all_goals (try dsimp only)
    refine of_halt ?_
    k_dflt refine' use_I (c_zlead_nil w _ xs hnil) ?k1 ?k2 ?k3 ?k4 ?kK ?kN ?kp ?kd ?ku ?_
    (case k1 => k_asm)
    (case k2 => k_asm)
    (case k3 => k_asm)
    (case k4 => k_asm)
    (case kK => first | exact rfl | assumption)
    (case kN => k_asm)
    (case kp => exact ⟨la_base (by k_asm) hL (by k_asm), by omega⟩)
    (case kd => ktr_room)
    (case ku => ktr_units)
    intro t2 h2a tk2 F2 N2 k2
    (try dsimp only)
    (try k_fold)
    k_steps
    all_goals (try dsimp only)
    refine of_halt ?_
    k_dflt refine' use_I (c_zheight w _ xs) ?k1 ?k2 ?k3 ?k4 ?kK ?kN ?kp ?kd ?ku ?_
    (case k1 => k_asm)
    (case k2 => k_asm)
    (case k3 => k_asm)
    (case k4 => k_asm)
    (case kK => first | exact rfl | assumption)
    (case kN => k_asm)
    (case kp => exact ⟨la_base (by k_asm) hL (by k_asm), by omega⟩)
    (case kd => ktr_room)
    (case ku => ktr_units)
    intro t3 h3a tk3 F3 N3 k3
    (try dsimp only)
    (try k_fold)
    k_steps
    all_goals (try dsimp only)
    unfold Stop
    k_dflt refine ⟨_, 1, pheight xs + 1, _, _, _, (pheight xs).toNat, _, fun k => decide (∀ x ∈ xs, x.fmod k = 0), rfl, rfl, by k_asm, by k_asm, by assumption, small_one (by omega) (by omega) (by omega) (by omega), by rw [rangeSize_nat]; omega, by rw [sizeLine_eq]; omega, ?_, ?_⟩
    · intro i k t I oI c oc C oC M oM h tk E' hk hi hoc F9 N9
      have hk1 : 1 ≤ k := by omega
      have hk9 : k ≤ 9 := by omega
      (try dsimp only)
      (try k_fold)
      k_steps
      all_goals (try dsimp only)
      · simp [List.filter_eq_nil_iff]
      · k_dflt refine ⟨_, _, rfl, by k_asm, ?_⟩
        (rename News _ _ _ _ => NN9)
        intro q hq
        refine NN9 q ?_
        repeat (first | exact hq | refine List.mem_cons_of_mem _ ?_)
    · intro M h tk ys F9 N9 o9 hi9
      have hl9 : ((rangeKs 1 (pheight xs).toNat).filter fun k => decide (∀ x ∈ xs, x.fmod k = 0)).length ≤ 9 := Nat.le_trans (List.length_filter_le ..) (by rw [rangeKs_length]; omega)
      generalize hds : (rangeKs 1 (pheight xs).toNat).filter (fun k => decide (∀ x ∈ xs, x.fmod k = 0)) = ds at hi9 hl9
      have hl8 := hi9.length
      have hds2 : ds = [] := by rw [← hds, hnil]; rfl
      have hg0 : pgcd xs = 0 := by rw [hnil]; rfl
      replace o9 := off1_of o9
      (try simp only [LCg.Off1, and_true] at o9)
      (try dsimp only)
      (try k_fold)
      k_steps
      all_goals (try dsimp only)
      have hM2 := content_nil (ds := ds) hds2 hg0 (by k_asm)
      subst hM2
      refine of_halt ?_
      k_dflt refine' use_I (c_zcontent w _ xs) ?k1 ?k2 ?k3 ?k4 ?kK ?kN ?kp ?kd ?ku ?_
      (case k1 => k_asm)
      (case k2 => k_asm)
      (case k3 => k_asm)
      (case k4 => k_asm)
      (case kK => first | exact rfl | assumption)
      (case kN => k_asm)
      (case kp => exact ⟨la_base (by k_asm) hL (by k_asm), by omega⟩)
      (case kd => ktr_room)
      (case ku => ktr_units)
      intro t4 h4a tk4 F4 N4 k4
      (try dsimp only)
      (try k_fold)
      k_steps
      all_goals (try dsimp only)
      · exact absurd (a := pgcd xs = pgcd xs) rfl (by assumption)
      refine of_halt ?_
      k_dflt refine' use_L (c_zreversed w _ xs) ?k1 ?k2 ?k3 ?k4 ?kK ?kN ?kp ?kd ?ku ?_
      (case k1 => k_asm)
      (case k2 => k_asm)
      (case k3 => k_asm)
      (case k4 => k_asm)
      (case kK => first | exact rfl | assumption)
      (case kN => k_asm)
      (case kp => exact ⟨la_base (by k_asm) hL (by k_asm), by omega⟩)
      (case kd => ktr_room)
      (case ku => ktr_units)
      intro r5 rv5 n5 h5a tk5 hi5 F5 N5 l5 k5
      (try dsimp only)
      (try k_fold)
      k_steps
      all_goals (try dsimp only)
      refine of_halt ?_
      k_dflt refine' use_A (c_bare w _ xs.reverse) ?k1 ?k2 ?k3 ?k4 ?kK ?kN ?km ?ki ?kp ?kd ?ku ?_
      (case k1 => k_asm)
      (case k2 => k_asm)
      (case k3 => k_asm)
      (case k4 => k_asm)
      (case kK => first | exact rfl | assumption)
      (case kN => k_asm)
      (case km => k_mem)
      (case ki => first | k_asm | exact .cons _ _ (.cons _ _ .nil))
      (case kp => exact ⟨la_led (by k_asm) (by k_mem) (by k_asm), by simp only [List.length_reverse]; omega⟩)
      (case kd => ktr_room)
      (case ku => ktr_units)
      intro r6 rv6 n6 h6a tk6 hi6 F6 N6 l6 k6
      (try dsimp only)
      (try k_fold)
      have o5 : @Ne Nat (L' + 1 + 1 + 1) r5 := l5 (L' + 1 + 1 + 1, o1') (by k_mem)
      have o6 : @Ne Nat (L' + 1 + 1 + 1) r6 := l6 (L' + 1 + 1 + 1, o1') (by k_mem) (by k_ne)
      k_steps
      all_goals (try dsimp only)
      refine of_halt ?_
      k_dflt refine' use_L (c_zprimitive w _ xs) ?k1 ?k2 ?k3 ?k4 ?kK ?kN ?kp ?kd ?ku ?_
      (case k1 => k_asm)
      (case k2 => k_asm)
      (case k3 => k_asm)
      (case k4 => k_asm)
      (case kK => first | exact rfl | assumption)
      (case kN => k_asm)
      (case kp => exact ⟨la_base (by k_asm) hL (by k_asm), by omega, fun h => absurd hnil h, fun x hx => Nat.lt_of_le_of_lt (h3 x hx) (by decide)⟩)
      (case kd => ktr_room)
      (case ku => ktr_units)
      intro r7 rv7 n7 h7a tk7 hi7 F7 N7 l7 k7
      (try dsimp only)
      (try k_fold)
      k_steps
      all_goals (try dsimp only)
      exact end_bool (by k_asm) (decide_eq_true (by rw [hnil]; rfl))

theorem c_shape (w : World) (p : Addr) (xs : List Int) : Ct w 183 20 [.ref p] (fun h => LA h p xs ∧ xs.length ≤ 10 ∧ (∀ x ∈ xs, x.natAbs ≤ 9) ∧ trim xs = xs) (RetB true) := by
  by_cases h : xs = []
  · exact c_shape_nil w p xs h
  · exact c_shape_pos w p xs (List.length_pos_iff.mpr h)
end NNc18
local macro_rules | `(tactic| walk_at "nn pad") => `(tactic| fail)
local macro_rules | `(tactic| walk_at "nn pad") => `(tactic| fail)
section NNPlain2
theorem snoc_ind {P : List Int → Prop} (h0 : P []) (h1 : ∀ ys y, P ys → P (ys ++ [y])) : ∀ xs, P xs := by
  intro xs
  induction hn : xs.length generalizing xs with
  | zero => rw [List.eq_nil_of_length_eq_zero hn]; exact h0
  | succ n ih =>
    have hne : xs ≠ [] := by intro e; simp [e] at hn
    rw [(List.dropLast_concat_getLast hne).symm]
    exact h1 _ _ (ih _ (by simp [hn]))
theorem pe_append (n : Int) : ∀ xs ys : List Int, pe (xs ++ ys) n = pe xs n + n ^ xs.length * pe ys n
  | [], ys => by simp [pe]
  | x :: r, ys => by
    have ih := pe_append n r ys
    simp only [List.cons_append, pe, ih, List.length_cons, Int.pow_succ]
    grind
theorem pe_trim (n : Int) : ∀ xs, pe (trim xs) n = pe xs n := by
  refine snoc_ind rfl fun ys y ih => ?_
  by_cases h : y = 0
  · subst h
    rw [trim_snoc_zero, ih, pe_append]
    simp [pe]
  · rw [trim_snoc h]
theorem trim_idem : ∀ xs, trim (trim xs) = trim xs := by
  refine snoc_ind rfl fun ys y ih => ?_
  by_cases h : y = 0
  · subst h
    rw [trim_snoc_zero, ih]
  · rw [trim_snoc h, trim_snoc h]
theorem trim_of_last {xs : List Int} (h : xs ≠ [] → xs.getLastD 0 ≠ 0) : trim xs = xs := by
  by_cases h0 : xs = []
  · subst h0; rfl
  · have h1 := h h0
    obtain ⟨ys, y, rfl⟩ : ∃ ys y, xs = ys ++ [y] := ⟨xs.dropLast, xs.getLast h0, (List.dropLast_concat_getLast h0).symm⟩
    exact trim_snoc (by simpa using h1)
theorem peR_succ (f : Nat → Int) (N : Nat) (n : Int) : pe ((List.range (N + 1)).map f) n = f 0 + n * pe ((List.range N).map fun k => f (k + 1)) n := by
  rw [List.range_succ_eq_map, List.map_cons, pe, List.map_map]
  rfl
theorem peR_add (n : Int) : ∀ (N : Nat) (f g : Nat → Int), pe ((List.range N).map fun k => f k + g k) n = pe ((List.range N).map f) n + pe ((List.range N).map g) n
  | 0, _, _ => by simp [pe]
  | N + 1, f, g => by
    rw [peR_succ, peR_succ f, peR_succ g, peR_add n N (fun k => f (k + 1)) (fun k => g (k + 1))]
    grind
theorem peR_mul (n x : Int) : ∀ (N : Nat) (f : Nat → Int), pe ((List.range N).map fun k => x * f k) n = x * pe ((List.range N).map f) n
  | 0, _ => by simp [pe]
  | N + 1, f => by
    rw [peR_succ, peR_succ f, peR_mul n x N (fun k => f (k + 1))]
    grind
theorem peR_zero (n : Int) : ∀ N : Nat, pe ((List.range N).map fun _ => (0 : Int)) n = 0
  | 0 => rfl
  | N + 1 => by rw [peR_succ, peR_zero n N]; simp
theorem peR_getD (n : Int) : ∀ (ys : List Int) (N : Nat), ys.length ≤ N → pe ((List.range N).map fun k => ys.getD k 0) n = pe ys n
  | [], N, _ => by simpa [pe] using peR_zero n N
  | y :: r, 0, h => by simp at h
  | y :: r, N + 1, h => by
    have ih := peR_getD n r N (by simpa using h)
    rw [peR_succ, pe]
    simp only [List.getD_cons_zero, List.getD_cons_succ]
    rw [ih]
theorem pe_rawAdd (xs ys : List Int) (n : Int) : pe (rawAdd xs ys) n = pe xs n + pe ys n := by
  unfold rawAdd
  rw [peR_add n _ (fun i => xs.getD i 0) (fun i => ys.getD i 0), peR_getD n xs _ (by omega), peR_getD n ys _ (by omega)]
theorem pe_padd (xs ys : List Int) (n : Int) : pe (padd xs ys) n = pe xs n + pe ys n := by rw [padd, pe_trim, pe_rawAdd]
theorem pe_pneg (n : Int) : ∀ xs, pe (pneg xs) n = - pe xs n
  | [] => rfl
  | x :: r => by
    have ih := pe_pneg n r
    unfold pneg at ih ⊢
    rw [List.map_cons, pe, ih, pe]
    grind
theorem pe_psub (xs ys : List Int) (n : Int) : pe (psub xs ys) n = pe xs n - pe ys n := by rw [psub, pe_padd, pe_pneg]; omega
theorem pe_mapmul (n k : Int) : ∀ xs : List Int, pe (xs.map fun x => x * k) n = pe xs n * k
  | [] => by simp [pe]
  | x :: r => by
    rw [List.map_cons, pe, pe_mapmul n k r, pe]
    grind
theorem pe_pscale (xs : List Int) (k n : Int) : pe (pscale xs k) n = pe xs n * k := by
  unfold pscale
  split
  · rename_i h; subst h; simp [pe]
  · exact pe_mapmul n k xs
theorem peR_cv (n : Int) (ys : List Int) : ∀ (xs : List Int) (N : Nat), xs.length + ys.length ≤ N + 1 → pe ((List.range N).map (cv xs ys)) n = if xs = [] then 0 else pe xs n * pe ys n
  | [], N, _ => by
    rw [if_pos rfl]
    exact peR_zero n N
  | x :: r, N, h => by
    rw [if_neg (by simp)]
    simp only [List.length_cons] at h
    have e : cv (x :: r) ys = fun k => x * ys.getD k 0 + (match k with | 0 => 0 | j + 1 => cv r ys j) := by funext k; cases k <;> rfl
    rw [e, peR_add n N (fun k => x * ys.getD k 0), peR_mul n x N fun k => ys.getD k 0, peR_getD n ys N (by omega)]
    cases N with
    | zero =>
      have e1 : r = [] := List.eq_nil_of_length_eq_zero (by omega)
      have e2 : ys = [] := List.eq_nil_of_length_eq_zero (by omega)
      subst e1 e2
      simp [pe]
    | succ N =>
      rw [peR_succ]
      have ih := peR_cv n ys r N (by omega)
      dsimp only
      rw [show (List.range N).map (fun k => cv r ys k) = (List.range N).map (cv r ys) from rfl, ih]
      split
      · rename_i h; subst h; simp [pe]
      · rw [pe]; grind
theorem pe_pmul (xs ys : List Int) (n : Int) : pe (pmul xs ys) n = pe xs n * pe ys n := by
  unfold pmul
  split
  · rename_i h
    rcases h with h | h <;> subst h <;> simp [pe]
  · rename_i h
    rw [peR_cv n ys xs _ (by omega), if_neg fun e => h (.inl e)]
theorem sweep_head (n : Int) : ∀ xs, (sweep n xs).headD 0 = pe xs n
  | [] => rfl
  | x :: r => by rw [sweep, List.headD_cons, sweep_head n r, pe]
theorem sweep_tail (n y : Int) : ∀ xs, pe (sweep n xs) y = pe xs n + y * pe ((sweep n xs).drop 1) y
  | [] => by simp [sweep, pe]
  | x :: r => by rw [sweep, pe, sweep_head, pe]; rfl
theorem sweep_div (n y : Int) : ∀ xs, pe xs y = pe xs n + (y - n) * pe ((sweep n xs).drop 1) y
  | [] => by simp [sweep, pe]
  | x :: r => by
    have ih := sweep_div n y r
    have h2 := sweep_tail n y r
    rw [sweep, List.drop_one, List.tail_cons, pe, pe, h2]
    generalize pe ((sweep n r).drop 1) y = T at *
    rw [ih]
    grind
theorem pe_shiftF (n t : Int) : ∀ (k : Nat) (xs : List Int), k = xs.length - 1 → pe (shiftF n k xs) t = pe xs (t + n)
  | 0, xs, h => by
    cases xs with
    | nil => rfl
    | cons x r =>
      have e : r = [] := List.eq_nil_of_length_eq_zero (by simp at h; omega)
      subst e
      simp [shiftF, pe]
  | k + 1, xs, h => by
    cases xs with
    | nil => simp at h
    | cons x r =>
      rw [shiftF, sweep]
      dsimp only
      rw [pe, pe_shiftF n t k (sweep n r) (by rw [sweep_len]; simp at h; omega), pe, sweep_head]
      have h1 := sweep_div n (t + n) r
      have h2 := sweep_tail n (t + n) r
      rw [h2, h1]
      generalize pe ((sweep n r).drop 1) (t + n) = T
      grind
theorem pe_pshift (xs : List Int) (n t : Int) : pe (pshift xs n) t = pe xs (t + n) := pe_shiftF n t _ xs rfl
theorem shiftF_len (n : Int) (k : Nat) (xs : List Int) : (shiftF n k xs).length = xs.length := by rw [← shO_shiftF, shO_len]
theorem pshift_len (xs : List Int) (n : Int) : (pshift xs n).length = xs.length := shiftF_len n _ xs
theorem sweep_last (n : Int) : ∀ xs : List Int, (sweep n xs).getLastD 0 = xs.getLastD 0
  | [] => rfl
  | [x] => by simp [sweep]
  | x :: y :: r => by
    have ih := sweep_last n (y :: r)
    rw [sweep] at ih ⊢
    simp only [sweep, List.getLastD_cons] at ih ⊢
    simpa using ih
theorem getLastD_cons_ne {x : Int} {r : List Int} (h : r ≠ []) : (x :: r).getLastD 0 = r.getLastD 0 := by
  cases r with
  | nil => exact absurd rfl h
  | cons y s => simp [List.getLastD_cons]
theorem shiftF_last (n : Int) : ∀ (k : Nat) (xs : List Int), k ≤ xs.length - 1 → (shiftF n k xs).getLastD 0 = xs.getLastD 0
  | 0, xs, _ => rfl
  | k + 1, xs, h => by
    cases xs with
    | nil => simp at h
    | cons x r =>
      have hr : r ≠ [] := by intro e; subst e; simp at h
      have hl : 0 < r.length := List.length_pos_iff.mpr hr
      rw [shiftF, sweep]
      dsimp only
      rw [getLastD_cons_ne (fun e => by have := congrArg List.length e; rw [shiftF_len, sweep_len] at this; simp only [List.length_nil] at this; omega), shiftF_last n k _ (by rw [sweep_len]; simp only [List.length_cons] at h; omega), sweep_last, getLastD_cons_ne hr]
theorem trim_pshift {xs : List Int} (n : Int) (h : trim xs = xs) : trim (pshift xs n) = pshift xs n := by
  refine trim_of_last fun h0 => ?_
  have hx : xs ≠ [] := by intro e; subst e; exact h0 rfl
  unfold pshift
  rw [shiftF_last n _ xs (Nat.le_refl _)]
  exact trim_last hx h
theorem pe_big : ∀ (xs : List Int) (N : Int), (∀ t, N < t → pe xs t = 0) → ∀ k, xs.getD k 0 = 0
  | [], _, _, k => by simp
  | x :: r, N, h, k => by
    have hx : x = 0 := by
      have h1 := h (max N 0 + x.natAbs + 1) (by omega)
      rw [pe] at h1
      generalize ht : max N 0 + (x.natAbs : Int) + 1 = t at h1
      have h2 : t ∣ x := ⟨-pe r t, by grind⟩
      apply Classical.byContradiction
      intro hne
      have h3 : t ∣ (x.natAbs : Int) := Int.dvd_natAbs.mpr h2
      have h4 := Int.le_of_dvd (by omega) h3
      omega
    cases k with
    | zero => simpa using hx
    | succ k =>
      rw [List.getD_cons_succ]
      refine pe_big r (max N 0) (fun t ht => ?_) k
      have h1 := h t (by omega)
      rw [pe, hx, Int.zero_add] at h1
      rcases Int.mul_eq_zero.mp h1 with h2 | h2
      · omega
      · exact h2
theorem rawAdd_getD (xs ys : List Int) (k : Nat) : (rawAdd xs ys).getD k 0 = xs.getD k 0 + ys.getD k 0 := by
  unfold rawAdd
  by_cases h : k < max xs.length ys.length
  · rw [List.getD_eq_getElem?_getD, List.getElem?_map, List.getElem?_range h]; rfl
  · have h1 : xs.getD k 0 = 0 := by rw [List.getD_eq_getElem?_getD, List.getElem?_eq_none (by omega)]; rfl
    have h2 : ys.getD k 0 = 0 := by rw [List.getD_eq_getElem?_getD, List.getElem?_eq_none (by omega)]; rfl
    rw [h1, h2, List.getD_eq_getElem?_getD, List.getElem?_eq_none (by simp; omega)]; rfl
theorem pneg_getD (ys : List Int) (k : Nat) : (pneg ys).getD k 0 = - ys.getD k 0 := by
  unfold pneg
  rw [List.getD_eq_getElem?_getD, List.getD_eq_getElem?_getD, List.getElem?_map]
  cases ys[k]? <;> simp
theorem getD_ext {xs ys : List Int} (h : ∀ n, pe xs n = pe ys n) (k : Nat) : xs.getD k 0 = ys.getD k 0 := by
  have := pe_big (rawAdd xs (pneg ys)) 0 (fun t _ => by rw [pe_rawAdd, pe_pneg, h]; omega) k
  rw [rawAdd_getD, pneg_getD] at this
  omega
theorem eq_of_getD {xs ys : List Int} (hl : xs.length = ys.length) (h : ∀ k, xs.getD k 0 = ys.getD k 0) : xs = ys := by
  refine List.ext_getElem? fun k => ?_
  have hk := h k
  rw [List.getD_eq_getElem?_getD, List.getD_eq_getElem?_getD] at hk
  by_cases h1 : k < xs.length
  · rw [List.getElem?_eq_getElem h1, List.getElem?_eq_getElem (hl ▸ h1)] at hk ⊢
    simpa using hk
  · rw [List.getElem?_eq_none (by omega), List.getElem?_eq_none (by omega)]
theorem lastD_getD {xs : List Int} (h : xs ≠ []) : xs.getLastD 0 = xs.getD (xs.length - 1) 0 := by
  obtain ⟨ys, y, rfl⟩ : ∃ ys y, xs = ys ++ [y] := ⟨xs.dropLast, xs.getLast h, (List.dropLast_concat_getLast h).symm⟩
  simp [List.getD_eq_getElem?_getD]
theorem len_le_of {xs ys : List Int} (hx : trim xs = xs) (h : ∀ k, xs.getD k 0 = ys.getD k 0) : xs.length ≤ ys.length := by
  apply Classical.byContradiction
  intro hlt
  have h0 : xs ≠ [] := by intro e; subst e; simp at hlt
  have h1 := trim_last h0 hx
  rw [lastD_getD h0, h, List.getD_eq_getElem?_getD, List.getElem?_eq_none (by omega)] at h1
  exact h1 rfl
theorem pe_ext {xs ys : List Int} (hx : trim xs = xs) (hy : trim ys = ys) (h : ∀ n, pe xs n = pe ys n) : xs = ys := by
  have hg := getD_ext h
  have h1 := len_le_of hx hg
  have h2 := len_le_of hy fun k => (hg k).symm
  exact eq_of_getD (by omega) hg
theorem shift_back (xs : List Int) (n : Int) : pshift (pshift xs n) (0 - n) = xs := by
  refine eq_of_getD (by rw [pshift_len, pshift_len]) (getD_ext fun t => ?_)
  rw [pe_pshift, pe_pshift]
  congr 1
  omega
theorem pcomp_cons (x : Int) (r bs : List Int) : pcomp (x :: r) bs = padd (pmul (pcomp r bs) bs) (trim [x]) := by
  unfold pcomp
  rw [List.reverse_cons, List.foldl_append]
  rfl
theorem pe_pcomp (bs : List Int) (t : Int) : ∀ xs, pe (pcomp xs bs) t = pe xs (pe bs t)
  | [] => rfl
  | x :: r => by
    rw [pcomp_cons, pe_padd, pe_pmul, pe_trim, pe_pcomp bs t r, pe]
    simp only [pe]
    grind
theorem trim_pcomp (xs bs : List Int) : trim (pcomp xs bs) = pcomp xs bs := by
  cases xs with
  | nil => rfl
  | cons x r => rw [pcomp_cons, padd, trim_idem]
theorem comp_shift {xs : List Int} (n : Int) (h : trim xs = xs) : pcomp xs (trim [n, 1]) = pshift xs n := by
  refine pe_ext (trim_pcomp _ _) (trim_pshift n h) fun t => ?_
  rw [pe_pcomp, pe_trim, pe_pshift]
  simp only [pe]
  congr 1
  omega
end NNPlain2
section NNLaw0
open PySem PySem.W PyProof.Rows PySem.Calls PySem.Spec
section
variable {w : World} {f : Addr} {need : Nat} {vs : List Value} {dp un : Nat} {gd : Option (List Code)} {cn : Str} {cs : Scope} {a : Addr} {ccd : Value} {cl : List (Str × Addr)} {outer : List Env} {A₀ : Around} {base h₀ : Heap} {L D S : Addr} {m mg mb : Str → Option Value} {mean : ExcName → Option Value} {s : Shared} {Q E : Value → Shared → Prop} {news : Led} {g : Obj → Led} {ns : List Int} {i z : Int} {t1 t2 : Tok} {n : Nat}
theorem take40 {ws : List Value} {xs : List Int} (_ : IntsAre ws (xs.take 40)) : (xs.take 40).length ≤ 40 := List.length_take_le 40 xs
theorem use_row {k : Int} {t t9 : Tok} (hk0 : 0 ≤ k) (hk1 : k ≤ 10) (B : Below A₀ base outer h₀) (F : Fr h₀ L s.heap m) (X : (nn_hd.heap_39 w.params).In h₀) (T : Top nn_hd.view_39 (looseW nn_hd.view_39 []) mean mg mb h₀) (hk : cs.kind = .function) (N : News h₀ L s.heap news)
    (U : UpdF D (boxObj S i z t1 t2 n) news g) (hSD : S ≠ D) (hLA : LA s.heap S ns) (hlen : ns.length ≤ 40) (hb : BoxOk i z) (hd : dp + 20 < recursionLimit) (hu : un + 8 * 20 < cLine)
    (h : ∀ r rv nr xs h' tk' i' z' t1' t2' n', BoxOk i' z' → IntsAre rv xs → (xs.length : Int) ≤ k → (∀ y ∈ xs, y.natAbs ≤ 9) → trim xs = xs → Fr h₀ L h' m → News h₀ L h' ((r, listOf (List.toArray rv) nr) :: g (boxObj S i' z' t1' t2' n')) → LCg.Off1 r (g (boxObj S i' z' t1' t2' n')) → KeepsBut D s.heap h' → Q (.ref r) { s with heap := h', toks := tk' }) :
    wpAny (model (RowW.prog (OpenRow.toRowW (OpenLaw.row Challenge.rw_nn0251_01))) w) (ktrTop dp un gd cn cs L a ccd cl outer) (call (.ref 161) [.ref D, .int k t, .int 9 t9]) Q E s := by
  refine use_Bx (c_row w D S ns k t t9 hk0 hk1) B F X T hk N U hSD hLA hlen hb hd hu ?_
  rintro r tl h' tk' i' z' t1' t2' n' hb' ⟨r1, rv1, n1, xs, rfl, rfl, hx, hxl, hxs, hxt⟩ F' N' off k
  exact h r1 rv1 n1 xs h' tk' i' z' t1' t2' n' hb' hx hxl hxs hxt F' N' (off1_of (off _ (List.mem_singleton.mpr rfl))) k
end
end NNLaw0
section NNPlain3
theorem cv_zero2 {bs : List Int} : ∀ (xs : List Int) (k : Nat), xs.length + bs.length ≤ k + 1 → cv xs bs k = 0
  | [], _, _ => rfl
  | x :: r, k, h => by
    simp only [List.length_cons] at h
    have e : bs.getD k 0 = 0 := by rw [List.getD_eq_getElem?_getD, List.getElem?_eq_none (by omega)]; rfl
    cases k with
    | zero => rw [cv, e, Int.mul_zero]; rfl
    | succ j =>
      have h2 : r.length + bs.length ≤ j + 1 := by omega
      have ih := cv_zero2 r j h2
      rw [cv, e, Int.mul_zero, ih]; rfl
theorem trim_pmul {xs ys : List Int} (hx : trim xs = xs) (hy : trim ys = ys) : trim (pmul xs ys) = pmul xs ys := by
  by_cases h : xs = [] ∨ ys = []
  · have e : pmul xs ys = [] := by unfold pmul; rw [if_pos h]
    rw [e]; rfl
  · refine trim_of_last fun _ => ?_
    have h1 : xs ≠ [] := fun e => h (.inl e)
    have h2 : ys ≠ [] := fun e => h (.inr e)
    have l1 := trim_last h1 hx
    have l2 := trim_last h2 hy
    obtain ⟨as, a, rfl⟩ : ∃ as a, xs = as ++ [a] := ⟨xs.dropLast, xs.getLast h1, (List.dropLast_concat_getLast h1).symm⟩
    obtain ⟨bs, b, rfl⟩ : ∃ bs b, ys = bs ++ [b] := ⟨ys.dropLast, ys.getLast h2, (List.dropLast_concat_getLast h2).symm⟩
    have e1 : a ≠ 0 := by simpa using l1
    have e2 : b ≠ 0 := by simpa using l2
    have e : pmul (as ++ [a]) (bs ++ [b]) = (List.range (as.length + bs.length)).map (cv (as ++ [a]) (bs ++ [b])) ++ [cv (as ++ [a]) (bs ++ [b]) (as.length + bs.length)] := by
      unfold pmul
      rw [if_neg h, show (as ++ [a]).length + (bs ++ [b]).length - 1 = as.length + bs.length + 1 by simp; omega, List.range_succ, List.map_append]
      rfl
    have e3 : cv (as ++ [a]) (bs ++ [b]) (as.length + bs.length) = a * b := by
      rw [cv_snoc, cv_zero2 as _ (by simp; omega), if_pos (by omega), show as.length + bs.length - as.length = bs.length by omega]
      simp [List.getD_eq_getElem?_getD]
    rw [e, e3]
    simp only [List.getLastD_concat]
    exact Int.mul_ne_zero e1 e2
theorem trim_padd (xs ys : List Int) : trim (padd xs ys) = padd xs ys := trim_idem _
theorem trim_psub (xs ys : List Int) : trim (psub xs ys) = psub xs ys := trim_idem _
theorem trim_pscale {xs : List Int} (k : Int) (hx : trim xs = xs) : trim (pscale xs k) = pscale xs k := by
  unfold pscale
  split
  · rfl
  · rename_i hk
    refine trim_of_last fun h => ?_
    have h1 : xs ≠ [] := by intro e; subst e; exact h rfl
    have l1 := trim_last h1 hx
    obtain ⟨as, a, rfl⟩ : ∃ as a, xs = as ++ [a] := ⟨xs.dropLast, xs.getLast h1, (List.dropLast_concat_getLast h1).symm⟩
    have e1 : a ≠ 0 := by simpa using l1
    simp only [List.map_append, List.map_cons, List.map_nil, List.getLastD_concat]
    exact Int.mul_ne_zero e1 hk
theorem enMap_append (f : Nat → Int → Int) : ∀ (k : Nat) (xs ys : List Int), enMap (fun _ _ => true) f k (xs ++ ys) = enMap (fun _ _ => true) f k xs ++ enMap (fun _ _ => true) f (k + xs.length) ys
  | _, [], _ => by simp [enMap]
  | k, x :: r, ys => by
    have ih := enMap_append f (k + 1) r ys
    simp only [List.cons_append, enMap, if_true, ih, List.length_cons]
    rw [show k + 1 + r.length = k + (r.length + 1) by omega]
theorem pderive_cons (x : Int) (r : List Int) : pderive (x :: r) = enMap (fun _ _ => true) (fun i x => x * i) 1 r := by
  unfold pderive
  simp [enMap]
theorem trim_pderive {xs : List Int} (hx : trim xs = xs) : trim (pderive xs) = pderive xs := by
  cases xs with
  | nil => rfl
  | cons x r =>
    rw [pderive_cons]
    by_cases h1 : r = []
    · subst h1; rfl
    · have l1 := trim_last (by simp) hx
      rw [getLastD_cons_ne h1] at l1
      obtain ⟨as, a, rfl⟩ : ∃ as a, r = as ++ [a] := ⟨r.dropLast, r.getLast h1, (List.dropLast_concat_getLast h1).symm⟩
      have e1 : a ≠ 0 := by simpa using l1
      rw [enMap_append]
      simp only [enMap, if_true]
      exact trim_snoc (Int.mul_ne_zero e1 (by omega))
theorem trim_one : trim ([1] : List Int) = [1] := rfl
theorem trim_ppow {xs : List Int} (k : Int) (hx : trim xs = xs) : trim (ppow xs k) = ppow xs k := by
  unfold ppow
  split
  · rfl
  · split
    · exact trim_pmul trim_one hx
    · split
      · exact trim_pmul trim_one (trim_pmul hx hx)
      · exact trim_pmul (trim_pmul trim_one hx) (trim_pmul hx hx)
theorem pe_ppow (xs : List Int) (k : Nat) (n : Int) (h : k ≤ 3) : pe (ppow xs (k : Int)) n = pe xs n ^ k := by
  rcases (by omega : k = 0 ∨ k = 1 ∨ k = 2 ∨ k = 3) with rfl | rfl | rfl | rfl
  · simp [ppow, pe]
  · have e : ppow xs ((1 : Nat) : Int) = pmul [1] xs := rfl
    rw [e]
    simp only [pe_pmul, pe]
    grind
  · have e : ppow xs ((2 : Nat) : Int) = pmul [1] (pmul xs xs) := rfl
    rw [e]
    simp only [pe_pmul, pe]
    grind
  · have e : ppow xs ((3 : Nat) : Int) = pmul (pmul [1] xs) (pmul xs xs) := rfl
    rw [e]
    simp only [pe_pmul, pe]
    grind
def slopes (xs : List Int) (n : Int) : List Int := enMap (fun i _ => decide (0 < i)) (fun i x => x * i * n ^ (i - 1)) 0 xs
theorem slope_go (n : Int) : ∀ (k : Nat) (r : List Int), (enMap (fun i _ => decide (0 < i)) (fun i x => x * i * n ^ (i - 1)) (k + 1) r).sum = n ^ k * pe (enMap (fun _ _ => true) (fun i x => x * i) (k + 1) r) n
  | _, [] => by simp [enMap, pe]
  | k, x :: r => by
    have ih := slope_go n (k + 1) r
    rw [enMap, if_pos (by simp), List.sum_cons, ih, enMap, if_pos rfl, pe, Nat.add_sub_cancel, Int.pow_succ]
    grind
theorem slopes_sum (xs : List Int) (n : Int) : (slopes xs n).sum = pe (pderive xs) n := by
  unfold slopes
  cases xs with
  | nil => rfl
  | cons x r =>
    rw [pderive_cons, enMap, if_neg (by simp), slope_go n 0 r]
    simp
theorem enMap_le (p : Nat → Int → Bool) (f : Nat → Int → Int) : ∀ (k : Nat) (xs : List Int), (enMap p f k xs).length ≤ xs.length
  | _, [] => by simp [enMap]
  | k, x :: r => by
    have := enMap_le p f (k + 1) r
    rw [enMap]
    split <;> simp <;> omega
theorem slopes_len (xs : List Int) (n : Int) : (slopes xs n).length ≤ xs.length := enMap_le ..
/-- bounds of values -/
theorem pe_abs {n : Int} {b : Nat} (hn : n.natAbs ≤ b) : ∀ (xs : List Int) (c : Nat), (∀ x ∈ xs, x.natAbs ≤ c) → (pe xs n).natAbs ≤ c * ((b + 1) ^ xs.length)
  | [], c, _ => by simp [pe]
  | x :: r, c, h => by
    have ih := pe_abs hn r c fun y hy => h y (List.mem_cons_of_mem _ hy)
    have hx := h x (List.mem_cons_self ..)
    have h1 : (n * pe r n).natAbs ≤ b * (c * (b + 1) ^ r.length) := by rw [Int.natAbs_mul]; exact Nat.mul_le_mul hn ih
    have h2 : 1 ≤ (b + 1) ^ r.length := Nat.pos_of_ne_zero (by simp)
    have h3 : c ≤ c * (b + 1) ^ r.length := Nat.le_mul_of_pos_right _ h2
    rw [pe, List.length_cons, Nat.pow_succ]
    have h4 : c * ((b + 1) ^ r.length * (b + 1)) = b * (c * (b + 1) ^ r.length) + c * (b + 1) ^ r.length := by grind
    omega
end NNPlain3
section NNTold
open PySem PySem.W PyProof.Rows PySem.Calls PySem.Spec
def keepB : List Bool → Led → Led
  | true :: bs, p :: l => p :: keepB bs l
  | false :: bs, _ :: l => keepB bs l
  | _, _ => []
theorem keepB_sub : ∀ (bs : List Bool) (l : Led), ∀ p ∈ keepB bs l, p ∈ l
  | [], _, p, h => by simp [keepB] at h
  | true :: _, [], p, h => by simp [keepB] at h
  | false :: _, [], p, h => by simp [keepB] at h
  | true :: bs, q :: l, p, h => by
    rcases List.mem_cons.mp h with rfl | h
    · exact List.mem_cons_self ..
    · exact List.mem_cons_of_mem _ (keepB_sub bs l p h)
  | false :: bs, q :: l, p, h => List.mem_cons_of_mem _ (keepB_sub bs l p h)
theorem news_keep {h₀ h : Heap} {L : Addr} {l : Led} (N : News h₀ L h l) (bs : List Bool) : News h₀ L h (keepB bs l) := fun p hp => N p (keepB_sub bs l p hp)

theorem news_two {h₀ h : Heap} {L : Addr} {l : Led} (N : News h₀ L h l) (as bs : List Bool) : News h₀ L h (keepB as l ++ keepB bs l) := fun p hp => N p ((List.mem_append.mp hp).elim (keepB_sub as l p) (keepB_sub bs l p))
theorem same_news {h₀ h : Heap} {L : Addr} {all rest : Led} {a b c : Addr × Obj} (N : News h₀ L h all) (h1 : a ∈ all) (h2 : b ∈ all) (h3 : c ∈ all) (h4 : ∀ q ∈ rest, q ∈ all) : News h₀ L h (a :: b :: c :: rest) := fun q hq => by
  simp only [List.mem_cons] at hq
  rcases hq with rfl | rfl | rfl | hq
  · exact N _ h1
  · exact N _ h2
  · exact N _ h3
  · exact N _ (h4 _ hq)
def Apart (a b : Nat) : Prop := a ≠ b
theorem Apart.l {a b : Nat} (h : Apart a b) : a ≠ b := h
theorem Apart.r {a b : Nat} (h : Apart a b) : b ≠ a := Ne.symm h
def offB (r : Addr) : List Bool → Led → Prop
  | true :: bs, p :: l => Apart p.1 r ∧ offB r bs l
  | false :: bs, _ :: l => offB r bs l
  | _, _ => True
theorem offB_of {r : Addr} : ∀ {l : Led}, (∀ q ∈ l, q.1 ≠ r) → ∀ bs, offB r bs l
  | [], _, bs => by cases bs with | nil => trivial | cons b bs => cases b <;> trivial
  | _ :: _, _, [] => trivial
  | _ :: _, h, true :: bs => ⟨h _ (List.mem_cons_self ..), offB_of (fun q hq => h q (List.mem_cons_of_mem _ hq)) bs⟩
  | _ :: _, h, false :: bs => offB_of (fun q hq => h q (List.mem_cons_of_mem _ hq)) bs
def RowsAre (news : Led) : List Value → List (List Int) → Prop
  | [], [] => True
  | v :: vs, z :: zs => (∃ r rv n, v = .ref r ∧ (r, listOf (List.toArray rv) n) ∈ news ∧ IntsAre rv z) ∧ RowsAre news vs zs
  | _, _ => False
theorem RowsAre.at {news : Led} : ∀ {vs : List Value} {zs : List (List Int)}, RowsAre news vs zs → ∀ {i : Nat} {v : Value}, vs[i]? = some v → ∃ z, zs[i]? = some z ∧ ∃ r rv n, v = .ref r ∧ (r, listOf (List.toArray rv) n) ∈ news ∧ IntsAre rv z
  | [], _, _, i, v, h => by simp at h
  | _ :: _, [], R, _, _, _ => R.elim
  | v :: vs, z :: zs, R, 0, v', h => by
    simp only [List.getElem?_cons_zero, Option.some.injEq] at h
    subst h
    exact ⟨z, rfl, R.1⟩
  | v :: vs, z :: zs, R, i + 1, v', h => by
    simp only [List.getElem?_cons_succ] at h ⊢
    exact R.2.at h
theorem RowsAre.len {news : Led} : ∀ {vs : List Value} {zs : List (List Int)}, RowsAre news vs zs → vs.length = zs.length
  | [], [], _ => rfl
  | _ :: _, [], R => R.elim
  | [], _ :: _, R => R.elim
  | _ :: vs, _ :: zs, R => by simp [R.2.len]

section
variable {prog : Program} {w : World} {A : Around} {E : Value → Shared → Prop} {s : Shared} {h₀ : Heap} {L : Addr} {m : Str → Option Value} {env : Env}
theorem filt_none {ct elt : Expr} {x : Str} {scope : Scope} {cl : List (Str × Addr)} {ax : Addr} {vs : List Value} {zss : List (List Int)} {Fin : List Value → Led → Prop} {news : Led} (hS : LCg.SrcAt h₀ ax vs.toArray news) (R : RowsAre news vs zss)
    (turn : ∀ r rv n z I oI C oC D m₂ h tk (E' : Value → Shared → Prop), z ∈ zss → (r, listOf (List.toArray rv) n) ∈ news → IntsAre rv z → LCg.NsObj oC m₂ → m₂ x = some (.ref r) → Fr h₀ L h m → News h₀ L h ((I, oI) :: (C, oC) :: (D, LCg.lst []) :: (r, listOf (List.toArray rv) n) :: news) →
      wpAny (model prog w) A (isTrue ct (compEnvC scope cl C env) (eval ct (compEnvC scope cl C env))) (fun ok s' => ok = false ∧ SameL h₀ L m ((I, oI) :: (C, oC) :: (D, LCg.lst []) :: news) { s with heap := h, toks := tk } s') E' { s with heap := h, toks := tk })
    (fin : Fin [] news) : ∀ k i, LCt.CompRestT prog w A h₀ L m env ct elt x scope cl s (LCg.SrcAt h₀ ax vs.toArray) (fun i v => vs.toArray[i]? = some v) Fin k i [] news := by
  intro k
  induction k with
  | zero => exact fun i => LCt.CompRestT.zero fin
  | succ k ih =>
    intro i
    refine LCt.CompRestT.succ ?_
    intro v I oI C oC D m₂ h tk E' hv hC hx F N off ne
    obtain ⟨z, hz, r, rv, n, rfl, hm, hi⟩ := R.at (by simpa using hv)
    have N' : News h₀ L h ((I, oI) :: (C, oC) :: (D, LCg.lst []) :: (r, listOf (List.toArray rv) n) :: news) := fun q hq => by
      simp only [List.mem_cons] at hq
      rcases hq with rfl | rfl | rfl | rfl | hq
      · exact N _ (by simp)
      · exact N _ (by simp)
      · exact N _ (by simp)
      · exact N _ (by simp [hm])
      · exact N _ (by simp [hq])
    refine wpAny_mono (turn r rv n z I oI C oC D m₂ h tk E' (List.mem_of_getElem? hz) hm hi hC hx F N') (fun ok s' q => ?_) fun _ _ e => e
    obtain ⟨rfl, h', tk', rfl, F', N'⟩ := q
    simp only [Bool.false_eq_true, if_false]
    exact LCg.CompEnd.intro F' N' news (fun p hp => hp) off hS (ih _)

theorem map_rows {elt : Expr} {x : Str} {scope : Scope} {cl : List (Str × Addr)} {ax : Addr} {vs : List Value} {zss : List (List Int)} {Fin : List Value → Led → Prop} {news : Led} (f : List Int → Int) (hS : LCg.SrcAt h₀ ax vs.toArray news) (R : RowsAre news vs zss)
    (turn : ∀ r rv n z I oI C oC D oD m₂ h tk (E' : Value → Shared → Prop), z ∈ zss → (r, listOf (List.toArray rv) n) ∈ news → IntsAre rv z → LCg.NsObj oC m₂ → m₂ x = some (.ref r) → Fr h₀ L h m → News h₀ L h ((I, oI) :: (C, oC) :: (D, oD) :: (r, listOf (List.toArray rv) n) :: news) →
      wpAny (model prog w) A (eval elt (compEnvC scope cl C env)) (fun y s' => (∃ t, y = .int (f z) t) ∧ SameL h₀ L m ((I, oI) :: (C, oC) :: (D, oD) :: news) { s with heap := h, toks := tk } s') E' { s with heap := h, toks := tk })
    (fin : ∀ ys, IntsAre ys (zss.map f) → Fin ys news) : LCg.CompRest prog w A h₀ L m env elt x scope cl s (LCg.SrcAt h₀ ax vs.toArray) (fun i v => vs.toArray[i]? = some v) Fin vs.length 0 [] news := by
  have key : ∀ k i ys, i + k = vs.length → IntsAre ys ((zss.take i).map f) → LCg.CompRest prog w A h₀ L m env elt x scope cl s (LCg.SrcAt h₀ ax vs.toArray) (fun i v => vs.toArray[i]? = some v) Fin k i ys news := by
    intro k
    induction k with
    | zero =>
      intro i ys hi hy
      rw [List.take_of_length_le (by have := R.len; omega)] at hy
      exact LCg.CompRest.zero (fin ys hy)
    | succ k ih =>
      intro i ys hik hy
      refine LCg.CompRest.succ ?_
      intro v I oI C oC D m₂ h tk E' hv hC hx F N off ne
      obtain ⟨z, hz, r, rv, n, rfl, hm, hi⟩ := R.at (by simpa using hv)
      have N' : News h₀ L h ((I, oI) :: (C, oC) :: (D, LCg.lst ys) :: (r, listOf (List.toArray rv) n) :: news) := fun q hq => by
        simp only [List.mem_cons] at hq
        rcases hq with rfl | rfl | rfl | rfl | hq
        · exact N _ (by simp)
        · exact N _ (by simp)
        · exact N _ (by simp)
        · exact N _ (by simp [hm])
        · exact N _ (by simp [hq])
      refine wpAny_mono (turn r rv n z I oI C oC D (LCg.lst ys) m₂ h tk E' (List.mem_of_getElem? hz) hm hi hC hx F N') (fun y s' q => ?_) fun _ _ e => e
      obtain ⟨⟨t, rfl⟩, h', tk', rfl, F', N'⟩ := q
      refine LCg.CompEnd.intro F' N' news (fun p hp => hp) off hS (ih _ _ (by omega) ?_)
      rw [List.take_add_one, hz, List.map_append]
      exact hy.append (.cons _ t .nil)
  exact key vs.length 0 [] (by omega) .nil
end

/-- a loop over a written range whose turns change the loop's own cell alone -/
def CellP (oc : Obj) : Prop := ∃ v, oc.data = .cell v
def CellLd (C : Addr) (rest : Led) (oc : Obj) : Led := (C, oc) :: rest
def NoPsC (_ : Obj) : List (Str × Value) := []
theorem turns_cell {prog : Program} {w : World} {A : Around} {E : Value → Shared → Prop} {s : Shared} {env : Env} {h₀ : Heap} {L C : Addr} {x : Str} {px : Pos} {body : List Stmt} {Q : Flow → Shared → Prop} {m₀ : Str → Option Value} {r : Addr} {a₀ b₀ : Int} {t₀ u₀ v₀ : Tok} {n : Nat} {all rest : Led} {oc : Obj} {v0 : Option Value}
    (hL : env.locals = L) (hh : A.handled = none) (hr : IsRange s.heap r a₀ b₀ 1 t₀ u₀ v₀) (hsmall : Builtin.Range.small a₀ b₀ 1 = true) (hn : Builtin.Range.rangeSize a₀ b₀ 1 = (n : Int))
    (F : Fr h₀ L s.heap m₀) (N : News h₀ L s.heap all) (hC : (C, oc) ∈ all) (hd : oc.data = .cell v0) (hrest : ∀ q ∈ rest, q ∈ all) (tmp : List Str)
    (turn : ∀ (i : Nat) (k : Int) (t : Tok) (u : Str → Option Value) h tk own oc v, k = a₀ + (i : Int) → i < n → oc.data = .cell v → OwnOff own (C :: rest.map (·.1)) →
      Fr h₀ L h (mk [] tmp u m₀) → News h₀ L h ((C, oc) :: (rest ++ own)) →
      wpAny (model prog w) A (assign (.Name x px) env (.int k t)) (fun _ s₃ => wpAny (model prog w) A (execs body env) (EnumPost h₀ L (CellLd C rest) NoPsC tmp m₀ CellP own { s with heap := h, toks := tk } Q) E s₃) E { s with heap := h, toks := tk })
    (done : ∀ oc v (u : Str → Option Value) h tk, oc.data = .cell v → Fr h₀ L h (mk [] tmp u m₀) → News h₀ L h ((C, oc) :: rest) → Q .next { s with heap := h, toks := tk }) :
    wpAny (model prog w) A (pyIter (.ref r)) (fun it s₂ => TurnsAt prog w A h₀ env (.Name x px) body Q E it s₂) E s := by
  refine turns_range (CellLd C rest) tmp (fun _ => CellP) oc hL hh hr hsmall hn F (fun q hq => ?_) (fun _ => rfl) ⟨v0, hd⟩ ?_ ?_
  · rcases List.mem_cons.mp hq with rfl | hq
    · exact N _ hC
    exact N _ (hrest _ hq)
  · rintro oc i k t u h tk own hk hlt ⟨v, c⟩ hoff F N
    exact turn i k t u h tk own oc v hk hlt c hoff F N
  · rintro oc u h tk ⟨v, c⟩ F N
    exact done oc v u h tk c F N
theorem turnsC_end {h₀ h' : Heap} {L C : Addr} {rest own news' : Led} {tmp : List Str} {m₀ m' : Str → Option Value} {s₁ : Shared} {tk : Nat} {oc : Obj} {v : Option Value}
    (F : Fr h₀ L h' m') (N : News h₀ L h' news') (hC : (C, oc) ∈ news') (hrest : ∀ q ∈ rest, q ∈ news') (ho : ∀ q ∈ own, q ∈ news') (hd : oc.data = .cell v) (hr : ∀ z, tmp.contains z = false → m' z = m₀ z) :
    EnumEnd h₀ L (CellLd C rest) NoPsC tmp m₀ CellP own s₁ { s₁ with heap := h', toks := tk } :=
  enum_end oc F N (fun q hq => by
    rcases List.mem_cons.mp hq with rfl | hq
    · exact hC
    exact hrest q hq) ho ⟨v, hd⟩ (fun p hp => by cases hp) (fun z _ h => hr z h)

theorem turnsC_end2 {h₀ h' : Heap} {L C : Addr} {rest own news' : Led} {tmp : List Str} {m₀ m' : Str → Option Value} {s₁ : Shared} {tk : Nat} {oc : Obj} {v : Option Value}
    (F : Fr h₀ L h' m') (N : News h₀ L h' news') (hC : (C, oc) ∈ news') (hall : ∀ q ∈ rest ++ own, q ∈ news') (hd : oc.data = .cell v) (hr : ∀ z, tmp.contains z = false → m' z = m₀ z) :
    EnumEnd h₀ L (CellLd C rest) NoPsC tmp m₀ CellP own s₁ { s₁ with heap := h', toks := tk } :=
  turnsC_end F N hC (fun q hq => hall q (List.mem_append.mpr (.inl hq))) (fun q hq => hall q (List.mem_append.mpr (.inr hq))) hd hr

theorem padd_le {xs ys : List Int} (hx : xs.length ≤ 5) (hy : ys.length ≤ 5) : (padd xs ys).length ≤ 60 := by have := padd_len xs ys; omega
theorem psub_le {xs ys : List Int} (hx : xs.length ≤ 5) (hy : ys.length ≤ 5) : (psub xs ys).length ≤ 60 := by
  have h1 := padd_len xs (pneg ys)
  have h2 : (pneg ys).length = ys.length := by simp [pneg]
  unfold psub
  omega
theorem pmul_le {xs ys : List Int} (hx : xs.length ≤ 5) (hy : ys.length ≤ 5) : (pmul xs ys).length ≤ 60 := by have := pmul_len xs ys; omega
theorem ppow_le {xs : List Int} (k : Int) (hx : xs.length ≤ 5) : (ppow xs k).length ≤ 60 := by
  have h1 := pmul_len [1] xs
  have h2 := pmul_len xs xs
  have h3 := pmul_len [1] (pmul xs xs)
  have h4 := pmul_len (pmul [1] xs) (pmul xs xs)
  simp only [List.length_singleton] at h1 h3
  unfold ppow
  split
  · simp
  · split
    · omega
    · split <;> omega
theorem pderive_le {xs : List Int} (hx : xs.length ≤ 5) : (pderive xs).length ≤ 60 := by
  unfold pderive
  rw [List.length_drop]
  have := enMap_len (fun i x => x * (i : Int)) 0 xs
  omega
theorem pscale_le {xs : List Int} (k : Int) (hx : xs.length ≤ 5) : (pscale xs k).length ≤ 60 := by
  unfold pscale
  split
  · simp
  · rw [List.length_map]; omega
theorem told_ok {xs ys : List Int} (k n : Int) (hx : trim xs = xs) (hy : trim ys = ys) (lx : xs.length ≤ 5) (ly : ys.length ≤ 5) : ∀ z ∈ [padd xs ys, psub xs ys, pmul xs ys, ppow ys k, pderive xs, pscale xs n], trim z = z ∧ z.length ≤ 60 := by
  intro z hz
  simp only [List.mem_cons, List.not_mem_nil, or_false] at hz
  rcases hz with rfl | rfl | rfl | rfl | rfl | rfl
  · exact ⟨trim_padd _ _, padd_le lx ly⟩
  · exact ⟨trim_psub _ _, psub_le lx ly⟩
  · exact ⟨trim_pmul hx hy, pmul_le lx ly⟩
  · exact ⟨trim_ppow k hy, ppow_le k ly⟩
  · exact ⟨trim_pderive hx, pderive_le lx⟩
  · exact ⟨trim_pscale n hx, pscale_le n lx⟩
theorem told_last {z : List Int} (h : trim z = z) (h0 : 0 < z.length) : z.getD (-1 + (z.length : Int)).toNat 0 ≠ 0 := by
  have h1 := List.length_pos_iff.mp h0
  rw [lead_walk h1]
  exact trim_last h1 h
def FitsL (a : Int) : Prop := ∀ b, IntMulOk a b
theorem FitsL.at {a b : Int} (h : FitsL a) : IntMulOk a b := h b
theorem fits_of {a : Int} (h : a.natAbs < 2 ^ 60) : FitsL a := fun _ => IntMulOk.of_left (PySem.intBits_le_64 (by omega) (by omega))
theorem fits_mul {x : Int} {i : Nat} (h : x.natAbs ≤ 9) (h2 : i ≤ 9) : FitsL (x * (i : Int)) := fits_of (by
  rw [Int.natAbs_mul]
  exact Nat.lt_of_le_of_lt (Nat.mul_le_mul h (show (i : Int).natAbs ≤ 9 by omega)) (by decide))
theorem pe_small {xs : List Int} {n : Int} (h : ∀ x ∈ xs, x.natAbs ≤ 9) (hl : xs.length ≤ 5) (hn : n.natAbs ≤ 9) : (pe xs n).natAbs < 2 ^ 60 := by
  have h1 := pe_abs hn xs 9 h
  have h2 : (9 + 1) ^ xs.length ≤ (9 + 1) ^ 5 := Nat.pow_le_pow_right (by decide) hl
  have h3 : 9 * (9 + 1) ^ xs.length ≤ 9 * (9 + 1) ^ 5 := Nat.mul_le_mul_left _ h2
  exact Nat.lt_of_le_of_lt (Nat.le_trans h1 h3) (by decide)
theorem due_ok {xs ys : List Int} {k n x4 sl : Int} (h0 : 0 ≤ x4) (h4 : x4 < 4) (hsl : sl = pe (pderive xs) k) :
    [padd xs ys, psub xs ys, pmul xs ys, ppow ys x4, pderive xs, pscale xs n].map (fun z => pe z k) = [pe xs k + pe ys k, pe xs k - pe ys k, pe xs k * pe ys k, pe ys k ^ x4.toNat, sl, pe xs k * n] := by
  have e := pe_ppow ys x4.toNat k (by omega)
  rw [show ((x4.toNat : Nat) : Int) = x4 by omega] at e
  simp only [List.map_cons, List.map_nil, pe_padd, pe_psub, pe_pmul, pe_pscale, e, hsl]
theorem pcomp_le {xs bs : List Int} (hx : xs.length ≤ 5) (hb : bs.length ≤ 5) : (pcomp xs bs).length ≤ 60 := by
  have h := pcompR_len (xs := xs) (bs := bs) (by omega) xs.length (Nat.le_refl _)
  have e : pcompR xs bs xs.length = pcomp xs bs := by simp [pcompR, pcomp]
  rw [e] at h
  omega
end NNTold
local macro_rules | `(tactic| walk_at "eval ListComp") => `(tactic| (k_here; (with_reducible show wpAny _ _ (eval (Expr.ListComp _ [⟨_, _, [Expr.BoolOp _ _ _], 0⟩] _ _) _) _ _ _); k_dflt (refine LCt.ListComp_T (F₀ := by k_asm) (by with_unfolding_all rfl) (by decide) (by rfl) (by decide) (by rfl) ?_)))
section NNlaw
local macro_rules | `(tactic| walk_at "CompSrcT") => `(tactic| (k_here; refine stop_of ?_))
local macro_rules | `(tactic| k_ne) => `(tactic| (refine neN ?_; (try dsimp only); first | (refine Apart.l ?_; with_reducible assumption) | (refine Apart.r ?_; with_reducible assumption)))
local macro_rules | `(tactic| mul_fits) => `(tactic| exact FitsL.at (by assumption))
open PySem PySem.W PyProof.Rows PySem.Calls PySem.Spec

theorem small9 {xs : List Int} (h : ∀ x ∈ xs, x.natAbs ≤ 9) : ∀ x ∈ xs, x.natAbs < 2 ^ 60 := fun x hx => Nat.lt_of_le_of_lt (h x hx) (by decide)
theorem trim_far (n : Int) : trim [n, 1] = [n, 1] := trim_snoc (xs := [n]) (by decide)

theorem c_zat_as (w : World) (p : Addr) (xs : List Int) (n : Int) (t : Tok) {y : Int} (h : pe xs n = y) : Ct w 116 1 [.ref p, .int n t] (fun h => LA h p xs ∧ xs.length < 900 ∧ n.natAbs < 2 ^ 60) (RetI y) := h ▸ c_zat w p xs n t

theorem law_holds : PySem.Challenge.rw_nn0251_01.Holds := nn_hd (by
  k_go0
  all_goals (try k_fold)
  all_goals (try ((rename Dflts _ _ _ => hDx); clear hDx))
  all_goals (try ((rename Heap.CodeRec _ _ _ => hcx); clear hcx))
  k_steps
  all_goals (try dsimp only)
  (rename IntsAre _ (List.take 40 _) => hI)
  have hbx : BoxOk 0 2 := ⟨by decide, by decide, by decide, by decide⟩
  have hlen := take40 hI
  (rename @LT.lt Nat _ _ _ ∧ _ => lx)
  have hSD := Nat.ne_of_lt lx.1
  refine of_halt ?_
  k_dflt refine' use_row ?kh0 ?kh1 ?k1 ?k2 ?k3 ?k4 ?kK ?kN ?kU ?kSD ?kLA ?kln ?kbx ?kd ?ku ?_
  (case kh0 => omega)
  (case kh1 => omega)
  (case k1 => k_asm)
  (case k2 => k_asm)
  (case k3 => k_asm)
  (case k4 => k_asm)
  (case kK => first | exact rfl | assumption)
  (case kN => k_asm)
  (case kU => k_updF)
  (case kSD => assumption)
  (case kLA => exact la_led (by k_asm) (by k_mem) hI)
  (case kln => assumption)
  (case kbx => assumption)
  (case kd => ktr_room)
  (case ku => ktr_units)
  intro r1 rv1 n1 xs h1 tk1 i1 z1 t11 t21 nb1 b1 hx1 hx2 hx3 hx4 F1 N1 o1 k1
  (try dsimp only)
  (try k_fold)
  (try dsimp only at N1 o1)
  (try simp only [LCg.Off1, and_true] at o1)
  obtain ⟨o11, o12, o13, o14⟩ := o1
  replace o11 : Apart _ _ := o11
  replace o12 : Apart _ _ := o12
  replace o13 : Apart _ _ := o13
  replace o14 : Apart _ _ := o14
  clear hbx k1
  k_steps
  all_goals (try dsimp only)
  refine of_halt ?_
  k_dflt refine' use_row ?kh0 ?kh1 ?k1 ?k2 ?k3 ?k4 ?kK ?kN ?kU ?kSD ?kLA ?kln ?kbx ?kd ?ku ?_
  (case kh0 => omega)
  (case kh1 => omega)
  (case k1 => k_asm)
  (case k2 => k_asm)
  (case k3 => k_asm)
  (case k4 => k_asm)
  (case kK => first | exact rfl | assumption)
  (case kN => k_asm)
  (case kU => k_updF)
  (case kSD => assumption)
  (case kLA => exact la_led (by k_asm) (by k_mem) hI)
  (case kln => assumption)
  (case kbx => assumption)
  (case kd => ktr_room)
  (case ku => ktr_units)
  intro r2 rv2 n2 ys h2 tk2 i2 z2 t12 t22 nb2 b2 hy1 hy2 hy3 hy4 F2 N2 o2 k2
  (try dsimp only)
  (try k_fold)
  (try dsimp only at N2 o2)
  (try simp only [LCg.Off1, and_true] at o2)
  obtain ⟨o20, o21, o22, o23, o24⟩ := o2
  replace o20 : Apart _ _ := o20
  replace o21 : Apart _ _ := o21
  replace o22 : Apart _ _ := o22
  replace o23 : Apart _ _ := o23
  replace o24 : Apart _ _ := o24
  clear b1 k2
  k_steps
  all_goals (try dsimp only)
  refine of_halt ?_
  k_dflt refine' use_take ?kh0 ?kh1 ?k1 ?k2 ?k3 ?k4 ?kK ?kN ?kU ?kSD ?kLA ?kln ?kbx ?kd ?ku ?_
  (case kh0 => omega)
  (case kh1 => omega)
  (case k1 => k_asm)
  (case k2 => k_asm)
  (case k3 => k_asm)
  (case k4 => k_asm)
  (case kK => first | exact rfl | assumption)
  (case kN => k_asm)
  (case kU => k_updF)
  (case kSD => assumption)
  (case kLA => exact la_led (by k_asm) (by k_mem) hI)
  (case kln => assumption)
  (case kbx => assumption)
  (case kd => ktr_room)
  (case ku => ktr_units)
  intro x3 tx3 h3 tk3 i3 z3 t13 t23 nb3 p3 q3 b3 F3 N3 k3
  (try dsimp only)
  (try k_fold)
  (try dsimp only at N3)
  clear b2 k3
  k_steps
  all_goals (try dsimp only)
  refine of_halt ?_
  k_dflt refine' use_take ?kh0 ?kh1 ?k1 ?k2 ?k3 ?k4 ?kK ?kN ?kU ?kSD ?kLA ?kln ?kbx ?kd ?ku ?_
  (case kh0 => omega)
  (case kh1 => omega)
  (case k1 => k_asm)
  (case k2 => k_asm)
  (case k3 => k_asm)
  (case k4 => k_asm)
  (case kK => first | exact rfl | assumption)
  (case kN => k_asm)
  (case kU => k_updF)
  (case kSD => assumption)
  (case kLA => exact la_led (by k_asm) (by k_mem) hI)
  (case kln => assumption)
  (case kbx => assumption)
  (case kd => ktr_room)
  (case ku => ktr_units)
  intro x4 tx4 h4 tk4 i4 z4 t14 t24 nb4 p4 q4 b4 F4 N4 k4
  (try dsimp only)
  (try k_fold)
  (try dsimp only at N4)
  clear b3 k4
  k_steps
  all_goals (try dsimp only)
  refine of_halt ?_
  k_dflt refine' use_L (c_zshift _ _ xs (x3 - 4) _) ?k1 ?k2 ?k3 ?k4 ?kK ?kN ?kp ?kd ?ku ?_
  (case k1 => k_asm)
  (case k2 => k_asm)
  (case k3 => k_asm)
  (case k4 => k_asm)
  (case kK => first | exact rfl | assumption)
  (case kN => k_asm)
  (case kp => exact ⟨la_led (by k_asm) (by k_mem) hx1, by omega, by omega⟩)
  (case kd => ktr_room)
  (case ku => ktr_units)
  intro r5 rv5 n5 h5 tk5 hs1 F5 N5 l5 k5
  (try dsimp only)
  (try k_fold)
  have hs2 : (pshift xs (x3 - 4)).length = xs.length := pshift_len _ _
  have hs3 : trim (pshift xs (x3 - 4)) = pshift xs (x3 - 4) := trim_pshift _ hx4
  have hs4 : ∀ t, pe (pshift xs (x3 - 4)) t = pe xs (t + (x3 - 4)) := pe_pshift _ _
  have hs5 := shift_back xs (x3 - 4)
  have hs6 := comp_shift (x3 - 4) hx4
  rw [trim_far] at hs6
  generalize pshift xs (x3 - 4) = sl at hs1 hs2 hs3 hs4 hs5 hs6
  have o5 := offB_of l5 [false, false, false, false, true, false, true, true]
  simp only [offB, and_true] at o5
  obtain ⟨o51, o52, o53⟩ := o5
  clear l5 k5
  k_steps
  all_goals (try dsimp only)
  refine of_halt ?_
  k_dflt refine' use_L (c_zshift _ _ sl (0 - (x3 - 4)) _) ?k1 ?k2 ?k3 ?k4 ?kK ?kN ?kp ?kd ?ku ?_
  (case k1 => k_asm)
  (case k2 => k_asm)
  (case k3 => k_asm)
  (case k4 => k_asm)
  (case kK => first | exact rfl | assumption)
  (case kN => k_asm)
  (case kp => exact ⟨la_led (by k_asm) (by k_mem) hs1, by omega, by omega⟩)
  (case kd => ktr_room)
  (case ku => ktr_units)
  intro r6 rv6 n6 h6 tk6 hb1 F6 N6 l6 k6
  (try dsimp only)
  (try k_fold)
  rw [hs5] at hb1
  clear l6 k6
  k_steps
  all_goals (try dsimp only)
  refine of_halt ?_
  k_dflt refine' use_A (c_bare _ _ [x3 - 4, 1]) ?k1 ?k2 ?k3 ?k4 ?kK ?kN ?km ?ki ?kp ?kd ?ku ?_
  (case k1 => k_asm)
  (case k2 => k_asm)
  (case k3 => k_asm)
  (case k4 => k_asm)
  (case kK => first | exact rfl | assumption)
  (case kN => k_asm)
  (case km => k_mem)
  (case ki => first | k_asm | exact .cons _ _ (.cons _ _ .nil))
  (case kp => exact ⟨la_led (by k_asm) (by k_mem) (.cons _ _ (.cons _ _ .nil)), by simp⟩)
  (case kd => ktr_room)
  (case ku => ktr_units)
  intro r7 rv7 n7 h7 tk7 hc1 F7 N7 l7 k7
  (try dsimp only)
  (try k_fold)
  rw [trim_far] at hc1
  clear l7 k7
  k_steps
  all_goals (try dsimp only)
  refine of_halt ?_
  k_dflt refine' use_L (c_zcompose _ r1 xs _ [x3 - 4, 1]) ?k1 ?k2 ?k3 ?k4 ?kK ?kN ?kp ?kd ?ku ?_
  (case k1 => k_asm)
  (case k2 => k_asm)
  (case k3 => k_asm)
  (case k4 => k_asm)
  (case kK => first | exact rfl | assumption)
  (case kN => k_asm)
  (case kp => exact ⟨la_led (by k_asm) (by k_mem) hx1, la_led (by k_asm) (by k_mem) hc1, by omega, by simp, by simp; omega⟩)
  (case kd => ktr_room)
  (case ku => ktr_units)
  intro r8 rv8 n8 h8 tk8 hd1 F8 N8 l8 k8
  (try dsimp only)
  (try k_fold)
  rw [hs6] at hd1
  clear l8 k8
  k_steps
  all_goals (try dsimp only)
  refine of_halt ?_
  k_dflt refine' use_L (c_zadd _ r1 xs r2 ys) ?k1 ?k2 ?k3 ?k4 ?kK ?kN ?kp ?kd ?ku ?_
  (case k1 => k_asm)
  (case k2 => k_asm)
  (case k3 => k_asm)
  (case k4 => k_asm)
  (case kK => first | exact rfl | assumption)
  (case kN => k_asm)
  (case kp => exact ⟨la_led (by k_asm) (by k_mem) hx1, la_led (by k_asm) (by k_mem) hy1, by omega, by omega⟩)
  (case kd => ktr_room)
  (case ku => ktr_units)
  intro ra rva na ha tka hta Fa Na la ka
  (try dsimp only)
  (try k_fold)
  have oa := offB_of la [false, false, false, false, false, false, false, false, false, true, false, true, true]
  simp only [offB, and_true] at oa
  obtain ⟨oa1, oa2, oa3⟩ := oa
  clear la ka
  k_steps
  all_goals (try dsimp only)
  refine of_halt ?_
  k_dflt refine' use_L (c_zsub _ r1 xs r2 ys) ?k1 ?k2 ?k3 ?k4 ?kK ?kN ?kp ?kd ?ku ?_
  (case k1 => k_asm)
  (case k2 => k_asm)
  (case k3 => k_asm)
  (case k4 => k_asm)
  (case kK => first | exact rfl | assumption)
  (case kN => k_asm)
  (case kp => exact ⟨la_led (by k_asm) (by k_mem) hx1, la_led (by k_asm) (by k_mem) hy1, by omega, by omega⟩)
  (case kd => ktr_room)
  (case ku => ktr_units)
  intro rb rvb nb hb tkb htb Fb Nb lb kb
  (try dsimp only)
  (try k_fold)
  have ob := offB_of lb [false, false, false, false, false, false, false, false, false, false, true, false, true, true]
  simp only [offB, and_true] at ob
  obtain ⟨ob1, ob2, ob3⟩ := ob
  clear lb kb
  k_steps
  all_goals (try dsimp only)
  refine of_halt ?_
  k_dflt refine' use_L (c_zmul _ r1 xs r2 ys) ?k1 ?k2 ?k3 ?k4 ?kK ?kN ?kp ?kd ?ku ?_
  (case k1 => k_asm)
  (case k2 => k_asm)
  (case k3 => k_asm)
  (case k4 => k_asm)
  (case kK => first | exact rfl | assumption)
  (case kN => k_asm)
  (case kp => exact ⟨la_led (by k_asm) (by k_mem) hx1, la_led (by k_asm) (by k_mem) hy1, by omega, by omega, .inl (small9 hx3)⟩)
  (case kd => ktr_room)
  (case ku => ktr_units)
  intro rc rvc nc hc tkc htc Fc Nc lc kc
  (try dsimp only)
  (try k_fold)
  have oc := offB_of lc [false, false, false, false, false, false, false, false, false, false, false, true, false, true, true]
  simp only [offB, and_true] at oc
  obtain ⟨oc1, oc2, oc3⟩ := oc
  clear lc kc
  k_steps
  all_goals (try dsimp only)
  refine of_halt ?_
  k_dflt refine' use_L (c_zpower _ r2 ys x4 _ (by omega) (by omega)) ?k1 ?k2 ?k3 ?k4 ?kK ?kN ?kp ?kd ?ku ?_
  (case k1 => k_asm)
  (case k2 => k_asm)
  (case k3 => k_asm)
  (case k4 => k_asm)
  (case kK => first | exact rfl | assumption)
  (case kN => k_asm)
  (case kp => exact ⟨la_led (by k_asm) (by k_mem) hy1, by omega, small9 hy3⟩)
  (case kd => ktr_room)
  (case ku => ktr_units)
  intro rd rvd nd hd tkd htd Fd Nd ld kd
  (try dsimp only)
  (try k_fold)
  have od := offB_of ld [false, false, false, false, false, false, false, false, false, false, false, false, true, false, true, true]
  simp only [offB, and_true] at od
  obtain ⟨od1, od2, od3⟩ := od
  clear ld kd
  k_steps
  all_goals (try dsimp only)
  refine of_halt ?_
  k_dflt refine' use_L (c_zderive _ r1 xs) ?k1 ?k2 ?k3 ?k4 ?kK ?kN ?kp ?kd ?ku ?_
  (case k1 => k_asm)
  (case k2 => k_asm)
  (case k3 => k_asm)
  (case k4 => k_asm)
  (case kK => first | exact rfl | assumption)
  (case kN => k_asm)
  (case kp => exact ⟨la_led (by k_asm) (by k_mem) hx1, by omega⟩)
  (case kd => ktr_room)
  (case ku => ktr_units)
  intro re rve ne he tke hte Fe Ne le ke
  (try dsimp only)
  (try k_fold)
  have oe := offB_of le [false, false, false, false, false, false, false, false, false, false, false, false, false, true, false, true, true]
  simp only [offB, and_true] at oe
  obtain ⟨oe1, oe2, oe3⟩ := oe
  clear le ke
  k_steps
  all_goals (try dsimp only)
  refine of_halt ?_
  k_dflt refine' use_L (c_zscale _ r1 xs (x3 - 4) _) ?k1 ?k2 ?k3 ?k4 ?kK ?kN ?kp ?kd ?ku ?_
  (case k1 => k_asm)
  (case k2 => k_asm)
  (case k3 => k_asm)
  (case k4 => k_asm)
  (case kK => first | exact rfl | assumption)
  (case kN => k_asm)
  (case kp => exact ⟨la_led (by k_asm) (by k_mem) hx1, by omega, by omega⟩)
  (case kd => ktr_room)
  (case ku => ktr_units)
  intro rf rvf nf hf tkf htf Ff Nf lf kf
  (try dsimp only)
  (try k_fold)
  have of := offB_of lf [false, false, false, false, false, false, false, false, false, false, false, false, false, false, true, false, true, true]
  simp only [offB, and_true] at of
  obtain ⟨of1, of2, of3⟩ := of
  clear lf kf
  k_steps
  all_goals (try dsimp only)
  unfold Stop
  (rename News _ _ _ _ => NN9)
  have NN8 := news_keep NN9 [true, true, true, true, true, true, true, false, false, false, false, true, false, false, true, true, true, true, true, true]
  simp only [keepB] at NN8
  clear NN9
  have hTold : ∀ z ∈ [padd xs ys, psub xs ys, pmul xs ys, ppow ys x4, pderive xs, pscale xs (x3 - 4)], trim z = z ∧ z.length ≤ 60 := told_ok _ _ hx4 hy4 (by omega) (by omega)
  k_dflt refine LCt.CompSrcT.ledger (by rfl) (by k_asm) (by k_asm) (by k_mem) (by rw [sizeLine_eq]; show 6 ≤ _; decide) ?_
  intro g9
  k_dflt refine filt_none (vs := [.ref ra, .ref rb, .ref rc, .ref rd, .ref re, .ref rf]) (zss := [padd xs ys, psub xs ys, pmul xs ys, ppow ys x4, pderive xs, pscale xs (x3 - 4)]) (.inr ⟨_, by k_mem, rfl, _, rfl⟩) ⟨⟨_, _, _, rfl, by k_mem, hta⟩, ⟨_, _, _, rfl, by k_mem, htb⟩, ⟨_, _, _, rfl, by k_mem, htc⟩, ⟨_, _, _, rfl, by k_mem, htd⟩, ⟨_, _, _, rfl, by k_mem, hte⟩, ⟨_, _, _, rfl, by k_mem, htf⟩, True.intro⟩ ?_ ?_ _ _
  · intro r rv n z I oI C oC M m₂ h tk E' hz hm hi hC hx F9 N9
    obtain ⟨hzt, hzl⟩ := hTold z hz
    have hzn : 0 < z.length → z.getD (-1 + (z.length : Int)).toNat 0 ≠ 0 := told_last hzt
    (try dsimp only)
    (try k_fold)
    k_steps
    all_goals (try dsimp only)
    all_goals
      k_dflt refine ⟨_, _, rfl, by k_asm, ?_⟩
      (rename News _ _ _ _ => NN9)
      exact same_news NN9 (by k_mem) (by k_mem) (by k_mem) (fun q hq => by repeat (first | exact hq | refine List.mem_cons_of_mem _ ?_))
  · intro D9 h9 tk9 F9 N9 o9
    clear o9
    (try dsimp only)
    (try k_fold)
    k_steps
    all_goals (try dsimp only)
    refine of_halt ?_
    (rename News _ _ _ _ => NN9)
    have NN8 := news_two NN9 [false, false, false, false, false, false, false, false, false, false, false, false, false, false, false, true] [false, false, true, true, true, true, true, true, true, true, true, true, true, true, true]
    simp only [keepB, List.cons_append, List.nil_append] at NN8
    clear NN9
    k_dflt refine' turns_cell (n := 7) rfl rfl (by k_asm) (by decide) (by decide) (by k_asm) NN8 (List.mem_cons_self ..) (by k_asm) (fun q hq => List.mem_cons_of_mem _ hq) [Str.ofString "left", Str.ofString "right", Str.ofString "slope", Str.ofString "due"] ?turn ?done
    case turn =>
      intro i k t u h tk own oc v hk hi hd hoff F9 N9
      have hk1 : -3 ≤ k := by omega
      have hk2 : k ≤ 3 := by omega
      (try simp only [List.nil_append, List.cons_append, List.map_cons, List.map_nil] at hoff N9)
      (try dsimp only)
      (try k_fold)
      k_steps
      all_goals (try dsimp only)
      refine of_halt ?_
      k_dflt refine' use_I (c_worth _ r1 xs k _) ?k1 ?k2 ?k3 ?k4 ?kK ?kN ?kp ?kd ?ku ?_
      (case k1 => k_asm)
      (case k2 => k_asm)
      (case k3 => k_asm)
      (case k4 => k_asm)
      (case kK => first | exact rfl | assumption)
      (case kN => k_asm)
      (case kp => exact ⟨la_led (by k_asm) (by k_mem) hx1, by omega, by omega, small9 hx3⟩)
      (case kd => ktr_room)
      (case ku => ktr_units)
      intro tga hga tkga Fga Nga kga
      (try dsimp only)
      (try k_fold)
      clear kga
      k_steps
      all_goals (try dsimp only)
      refine of_halt ?_
      k_dflt refine' use_I (c_worth _ r2 ys k _) ?k1 ?k2 ?k3 ?k4 ?kK ?kN ?kp ?kd ?ku ?_
      (case k1 => k_asm)
      (case k2 => k_asm)
      (case k3 => k_asm)
      (case k4 => k_asm)
      (case kK => first | exact rfl | assumption)
      (case kN => k_asm)
      (case kp => exact ⟨la_led (by k_asm) (by k_mem) hy1, by omega, by omega, small9 hy3⟩)
      (case kd => ktr_room)
      (case ku => ktr_units)
      intro tgb hgb tkgb Fgb Ngb kgb
      (try dsimp only)
      (try k_fold)
      clear kgb
      k_steps
      all_goals (try dsimp only)
      refine of_halt ?_
      have hsl : (slopes xs k).sum = pe (pderive xs) k := slopes_sum xs k
      k_dflt refine en_call (fun i _ => decide (0 < i)) (fun i x => x * i * k ^ (i - 1)) rfl (by k_asm) (by k_asm) (.inr ⟨_, by k_mem, rfl, _, rfl⟩) hx1 (by rw [sizeLine_eq]; omega) ?_ ?_
      · intro i2 x t2 t3 I oI J oJ C oC D oD m₂ h2 tk2 E' hx hC hma hmb F8 N8
        have hi9 := (List.getElem?_eq_some_iff.mp hx).1
        have hb9 := hx3 x (List.mem_of_getElem? hx)
        have hfx : FitsL (x * (i2 : Int)) := fits_mul hb9 (by omega)
        refine wpAny_tests_one ?_
        k_steps
        all_goals (try dsimp only)
        · simp
        · exact ⟨_, _, rfl, by k_asm, by k_asm⟩
        · refine PyProof.Rows.int_at ?_
          rw [show ((i2 : Int) - 1).toNat = i2 - 1 by omega]
        · exact ⟨_, _, rfl, by k_asm, by k_asm⟩
      · intro D h tk zs F8 N8 l8 hi8
        replace hi8 : IntsAre zs (slopes xs k) := hi8
        have hl9 := slopes_len xs k
        have hbl := pe_small hx3 (by omega) (show k.natAbs ≤ 9 by omega)
        have hbr := pe_small hy3 (by omega) (show k.natAbs ≤ 9 by omega)
        have hfl : FitsL (pe xs k) := fits_of hbl
        have hfr : FitsL (pe ys k) := fits_of hbr
        generalize slopes xs k = ds at hi8 hl9 hsl
        (try dsimp only)
        (try k_fold)
        k_steps
        all_goals (try dsimp only)
        unfold Stop
        have hval := due_ok (xs := xs) (ys := ys) (k := k) (n := x3 - 4) p4 q4 hsl
        k_dflt refine LCg.CompSrc.ledger (by rfl) (by k_asm) (by k_asm) (List.mem_cons_of_mem _ (List.mem_cons_of_mem _ (List.mem_cons_of_mem _ (List.mem_cons_of_mem _ (List.mem_cons_self ..))))) (by rw [sizeLine_eq]; show 6 ≤ _; decide) ?_
        intro g8
        k_dflt refine map_rows (vs := [.ref ra, .ref rb, .ref rc, .ref rd, .ref re, .ref rf]) (zss := [padd xs ys, psub xs ys, pmul xs ys, ppow ys x4, pderive xs, pscale xs (x3 - 4)]) (fun z => pe z k) (.inr ⟨_, by k_mem, rfl, _, rfl⟩) ⟨⟨_, _, _, rfl, by k_mem, hta⟩, ⟨_, _, _, rfl, by k_mem, htb⟩, ⟨_, _, _, rfl, by k_mem, htc⟩, ⟨_, _, _, rfl, by k_mem, htd⟩, ⟨_, _, _, rfl, by k_mem, hte⟩, ⟨_, _, _, rfl, by k_mem, htf⟩, True.intro⟩ ?_ ?_
        · intro r rv n z I oI C oC M oM m₂ h7 tk7 E' hz hm hi hC hx F9 N9
          obtain ⟨hzt, hzl⟩ := hTold z hz
          (try dsimp only)
          (try k_fold)
          k_steps
          all_goals (try dsimp only)
          refine of_halt ?_
          k_dflt refine' use_I (c_zat _ r z k _) ?k1 ?k2 ?k3 ?k4 ?kK ?kN ?kp ?kd ?ku ?_
          (case k1 => k_asm)
          (case k2 => k_asm)
          (case k3 => k_asm)
          (case k4 => k_asm)
          (case kK => first | exact rfl | assumption)
          (case kN => k_asm)
          (case kp => exact ⟨la_led (by k_asm) (by k_mem) hi, by omega, by omega⟩)
          (case kd => ktr_room)
          (case ku => ktr_units)
          intro t7 h7a tk7a F7 N7 k7
          (try dsimp only)
          (try k_fold)
          k_steps
          all_goals (try dsimp only)
          refine ⟨_, _, rfl, by k_asm, ?_⟩
          (rename News _ _ _ _ => NN9)
          exact same_news NN9 (by k_mem) (by k_mem) (by k_mem) (fun q hq => by repeat (first | exact hq | refine List.mem_cons_of_mem _ ?_))
        · intro zs7 hi7 M h7 tk7 F7 N7 o7
          rw [hval] at hi7
          clear o7
          (try dsimp only)
          (try k_fold)
          k_steps
          all_goals (try dsimp only)
          refine of_halt ?_
          k_dflt refine' use_I (c_zat_as _ r5 sl k _ (hs4 k)) ?k1 ?k2 ?k3 ?k4 ?kK ?kN ?kp ?kd ?ku ?_
          (case k1 => k_asm)
          (case k2 => k_asm)
          (case k3 => k_asm)
          (case k4 => k_asm)
          (case kK => first | exact rfl | assumption)
          (case kN => k_asm)
          (case kp => exact ⟨la_led (by k_asm) (by k_mem) hs1, by omega, by omega⟩)
          (case kd => ktr_room)
          (case ku => ktr_units)
          intro t6 h6a tk6a F6 N6 k6
          (try dsimp only)
          (try k_fold)
          clear k6
          k_steps
          all_goals (try dsimp only)
          refine of_halt ?_
          k_dflt refine' use_I (c_worth _ r1 xs (k + (x3 - 4)) _) ?k1 ?k2 ?k3 ?k4 ?kK ?kN ?kp ?kd ?ku ?_
          (case k1 => k_asm)
          (case k2 => k_asm)
          (case k3 => k_asm)
          (case k4 => k_asm)
          (case kK => first | exact rfl | assumption)
          (case kN => k_asm)
          (case kp => exact ⟨la_led (by k_asm) (by k_mem) hx1, by omega, by omega, small9 hx3⟩)
          (case kd => ktr_room)
          (case ku => ktr_units)
          intro t5 h5a tk5a F5 N5 k5
          (try dsimp only)
          (try k_fold)
          clear k5
          k_steps
          all_goals (try dsimp only)
          · exact absurd (a := pe xs (k + (x3 - 4)) = pe xs (k + (x3 - 4))) rfl (by assumption)
          refine of_halt ?_
          k_dflt refine' use_L (c_zcompose _ r1 xs r2 ys) ?k1 ?k2 ?k3 ?k4 ?kK ?kN ?kp ?kd ?ku ?_
          (case k1 => k_asm)
          (case k2 => k_asm)
          (case k3 => k_asm)
          (case k4 => k_asm)
          (case kK => first | exact rfl | assumption)
          (case kN => k_asm)
          (case kp => exact ⟨la_led (by k_asm) (by k_mem) hx1, la_led (by k_asm) (by k_mem) hy1, by omega, by omega, small9 hy3⟩)
          (case kd => ktr_room)
          (case ku => ktr_units)
          intro r4 rv4 n4 h4a tk4a hi4 F4 N4 l4 k4
          (try dsimp only)
          (try k_fold)
          clear l4 k4
          k_steps
          all_goals (try dsimp only)
          refine of_halt ?_
          k_dflt refine' use_I (c_zat_as _ r4 (pcomp xs ys) k _ (pe_pcomp ys k xs)) ?k1 ?k2 ?k3 ?k4 ?kK ?kN ?kp ?kd ?ku ?_
          (case k1 => k_asm)
          (case k2 => k_asm)
          (case k3 => k_asm)
          (case k4 => k_asm)
          (case kK => first | exact rfl | assumption)
          (case kN => k_asm)
          (case kp => exact ⟨la_led (by k_asm) (by k_mem) hi4, by have := pcomp_le (xs := xs) (bs := ys) (by omega) (by omega); omega, by omega⟩)
          (case kd => ktr_room)
          (case ku => ktr_units)
          intro t3 h3a tk3a F3 N3 k3
          (try dsimp only)
          (try k_fold)
          clear k3
          k_steps
          all_goals (try dsimp only)
          refine of_halt ?_
          k_dflt refine' use_I (c_worth _ r1 xs (pe ys k) _) ?k1 ?k2 ?k3 ?k4 ?kK ?kN ?kp ?kd ?ku ?_
          (case k1 => k_asm)
          (case k2 => k_asm)
          (case k3 => k_asm)
          (case k4 => k_asm)
          (case kK => first | exact rfl | assumption)
          (case kN => k_asm)
          (case kp => exact ⟨la_led (by k_asm) (by k_mem) hx1, by omega, hbr, small9 hx3⟩)
          (case kd => ktr_room)
          (case ku => ktr_units)
          intro t2 h2a tk2a F2 N2 k2
          (try dsimp only)
          (try k_fold)
          clear k2
          k_steps
          all_goals (try dsimp only)
          · exact absurd (a := pe xs (pe ys k) = pe xs (pe ys k)) rfl (by assumption)
          k_dflt exact turnsC_end2 (by k_asm) (by k_asm) (by k_mem) (fun q hq => by repeat (first | exact hq | refine List.mem_cons_of_mem _ ?_)) (by k_asm) (by intro z9 b9; simp only [List.contains_cons, List.contains_nil, Bool.or_false, Bool.or_eq_false_iff, beq_eq_false_iff_ne, ne_eq] at b9; simp [mk, kstB, b9])
    case done =>
      intro oc v u h tk hd F9 N9
      (try dsimp only)
      (try k_fold)
      k_steps
      all_goals (try dsimp only)
      refine of_halt ?_
      k_dflt refine' use_take ?kh0 ?kh1 ?k1 ?k2 ?k3 ?k4 ?kK ?kN ?kU ?kSD ?kLA ?kln ?kbx ?kd ?ku ?_
      (case kh0 => omega)
      (case kh1 => omega)
      (case k1 => k_asm)
      (case k2 => k_asm)
      (case k3 => k_asm)
      (case k4 => k_asm)
      (case kK => first | exact rfl | assumption)
      (case kN => k_asm)
      (case kU => k_updF)
      (case kSD => assumption)
      (case kLA => exact la_led (by k_asm) (by k_mem) hI)
      (case kln => assumption)
      (case kbx => assumption)
      (case kd => ktr_room)
      (case ku => ktr_units)
      intro x5 tx5 h5 tk5 i5 z5 t15 t25 nb5 p5 q5 b5 F5 N5 k5
      (try dsimp only)
      (try k_fold)
      (try dsimp only at N5)
      clear b4 k5
      k_steps
      all_goals (try dsimp only)
      refine of_halt ?_
      k_dflt refine' use_L (c_zmod _ r1 xs (2 + x5) _) ?k1 ?k2 ?k3 ?k4 ?kK ?kN ?kp ?kd ?ku ?_
      (case k1 => k_asm)
      (case k2 => k_asm)
      (case k3 => k_asm)
      (case k4 => k_asm)
      (case kK => first | exact rfl | assumption)
      (case kN => k_asm)
      (case kp => exact ⟨la_led (by k_asm) (by k_mem) hx1, by omega, by omega⟩)
      (case kd => ktr_room)
      (case ku => ktr_units)
      intro r6 rv6 n6 h6 tk6 hm1 F6 N6 l6 k6
      (try dsimp only)
      (try k_fold)
      clear l6 k6
      k_steps
      all_goals (try dsimp only)
      unfold Stop
      k_dflt refine LCg.CompSrc.ledger (by rfl) (by k_asm) (by k_asm) (List.mem_of_getElem? (i := 11) rfl) (by rw [sizeLine_eq, List.size_toArray, hx1.length]; omega) ?_
      intro g8
      k_dflt refine kcf_list (fun x => x.fmod (2 + x5)) hx1 ?_ ?_
      · intro k t I oI C oC M oM m₂ h7 tk7 E' hk hC hx F9 N9 off ne
        (try simp only [LCg.Off3, and_true] at off)
        (try dsimp only)
        (try k_fold)
        k_steps
        exact ⟨rfl, _, rfl⟩
      · unfold KPfDone
        intro zs7 hi7 M h7 tk7 F7 N7 o7
        (try simp only [LCg.Off1, and_true] at o7)
        (try dsimp only)
        (try k_fold)
        k_steps
        all_goals (try dsimp only)
        refine of_halt ?_
        k_dflt refine' use_A (c_bare _ M (xs.map fun x => x.fmod (2 + x5))) ?k1 ?k2 ?k3 ?k4 ?kK ?kN ?km ?ki ?kp ?kd ?ku ?_
        (case k1 => k_asm)
        (case k2 => k_asm)
        (case k3 => k_asm)
        (case k4 => k_asm)
        (case kK => first | exact rfl | assumption)
        (case kN => k_asm)
        (case km => k_mem)
        (case ki => first | k_asm | exact .cons _ _ (.cons _ _ .nil))
        (case kp => exact ⟨la_led (by k_asm) (by k_mem) hi7, by rw [List.length_map]; omega⟩)
        (case kd => ktr_room)
        (case ku => ktr_units)
        intro r8 rv8 n8 h8 tk8 hm2 F8 N8 l8 k8
        (try dsimp only)
        (try k_fold)
        replace hm2 : IntsAre rv8 (pmodl xs (2 + x5)) := hm2
        clear l8 k8 o7
        k_steps
        all_goals (try dsimp only)
        refine of_halt ?_
        k_dflt refine' use_L (c_zmul _ r1 xs r2 ys) ?k1 ?k2 ?k3 ?k4 ?kK ?kN ?kp ?kd ?ku ?_
        (case k1 => k_asm)
        (case k2 => k_asm)
        (case k3 => k_asm)
        (case k4 => k_asm)
        (case kK => first | exact rfl | assumption)
        (case kN => k_asm)
        (case kp => exact ⟨la_led (by k_asm) (by k_mem) hx1, la_led (by k_asm) (by k_mem) hy1, by omega, by omega, .inl (small9 hx3)⟩)
        (case kd => ktr_room)
        (case ku => ktr_units)
        intro rg rvg ng hg tkg hp1 Fg Ng lg kg
        (try dsimp only)
        (try k_fold)
        clear lg kg
        k_steps
        all_goals (try dsimp only)
        refine of_halt ?_
        k_dflt refine' use_L (c_times _ r1 xs r2 ys) ?k1 ?k2 ?k3 ?k4 ?kK ?kN ?kp ?kd ?ku ?_
        (case k1 => k_asm)
        (case k2 => k_asm)
        (case k3 => k_asm)
        (case k4 => k_asm)
        (case kK => first | exact rfl | assumption)
        (case kN => k_asm)
        (case kp => exact ⟨la_led (by k_asm) (by k_mem) hx1, la_led (by k_asm) (by k_mem) hy1, by omega, by omega, small9 hx3⟩)
        (case kd => ktr_room)
        (case ku => ktr_units)
        intro ri rvi ni hhi tki hp2 Fi Ni li ki
        (try dsimp only)
        (try k_fold)
        clear li ki
        k_steps
        all_goals (try dsimp only)
        refine of_halt ?_
        k_dflt refine' use_B (c_shape _ r1 xs) ?k1 ?k2 ?k3 ?k4 ?kK ?kN ?kp ?kd ?ku ?_
        (case k1 => k_asm)
        (case k2 => k_asm)
        (case k3 => k_asm)
        (case k4 => k_asm)
        (case kK => first | exact rfl | assumption)
        (case kN => k_asm)
        (case kp => exact ⟨la_led (by k_asm) (by k_mem) hx1, by omega, hx3, hx4⟩)
        (case kd => ktr_room)
        (case ku => ktr_units)
        intro hj tkj Fj Nj kj
        (try dsimp only)
        (try k_fold)
        clear kj
        k_steps
        all_goals (try dsimp only)
        refine of_halt ?_
        k_dflt refine' use_B (c_shape _ r2 ys) ?k1 ?k2 ?k3 ?k4 ?kK ?kN ?kp ?kd ?ku ?_
        (case k1 => k_asm)
        (case k2 => k_asm)
        (case k3 => k_asm)
        (case k4 => k_asm)
        (case kK => first | exact rfl | assumption)
        (case kN => k_asm)
        (case kp => exact ⟨la_led (by k_asm) (by k_mem) hy1, by omega, hy3, hy4⟩)
        (case kd => ktr_room)
        (case ku => ktr_units)
        intro hk tkk Fk Nk kk
        (try dsimp only)
        (try k_fold)
        clear kk
        k_steps
        all_goals (try dsimp only)
        all_goals w_report)
end NNlaw
local macro_rules | `(tactic| walk_at "nn pad") => `(tactic| fail)
local macro_rules | `(tactic| walk_at "nn pad") => `(tactic| fail)
end NN
theorem PySem.Challenge.cw_nn0251_01_holds : PySem.Challenge.rw_nn0251_01.Holds := by
  exact NN.law_holds
